import PyProof.Rows.All
import Wide.All
import OpenK.AllK
import Wide.FinOn
import HandS.ForMost
import HandS.IsInst
import HandS.Nested
import HandS.Defaults
import HandS.Exc
import HandS.Wide
import HandS.Deep
import HandS.TupAny
import HandS.Flow
import HandS.Small
import PyProof.Draws
import PyProof.EnumMake
import PyProof.ReprRoads
import HandS.ExcInit
import PyProof.InstStoreFacts
import HandS.SetFor
import HandS.More
import HandS.SortInts
import HandS.ExcIs
import HandS.Rev
import KE.KExcInit
import PyProof.ExcBaseAll.ValueError
import PyProof.ExcBaseAll.IndexError
import PyProof.ExcBaseAll.LookupError
import PyProof.ExcBaseAll.OverflowError
import PyProof.ExcBaseAll.ArithmeticError
import PyProof.ExcBaseAll.RuntimeError
import PyProof.FactsTree
import HandS.Conv
import HandS.Style
import KE.KRevSl
import HandS.WideBits
import KE.IntBitsLaws
import HandS.Strs
import OpenK.KOps
import HandS.FStr
import HandS.ExcValue
import HandS.IntHex
import HandS.StrMore
import KE.SortData
import KE.GoesEnum
import KE.GoesZip
import KE.GoesMore
import HandS.TryOnly
import KE.KTryMore
import PyProof.Rows.Own
import KE.KDictDisplayH
import PyProof.StrWalks
import PyProof.SetRoads
import HandS.Zip
import HandS.TupLe
import HandS.DictTup
import PyProof.DictMoreH
import HandS.TupLen
import HandS.EndTab
import KE.KDictCopyH
import KE.DataFind
import PySem.Challenge.RW_triesgrow_k13_ways_weighed
import KE.KNestM
import KE.KLam
set_option Elab.async false
set_option linter.all false
set_option maxRecDepth 100000
set_option maxHeartbeats 4000000
/-! Al: an abstract layer: frozen data (PyData), owned objects by number; no addresses in a walk. -/
namespace Al
open PySem PySem.Spec L2
open PyProof.Rows hiding St
/-- an exception: its class's name, its fields -/
structure Ex where
  c : Str
  fs : List (Str × PyData)
/-- a lambda: its words, the cells that it captured, its code object -/
structure LF where
  qual : Str
  params : Arguments
  body : Expr
  scope : Scope
  cl : List (Str × Addr)
  c : Addr
/-- a function made in a def's body: a def's, a lambda -/
inductive CF where
  | nd (F : NdefX.NF) | lm (F : LF)
def CF.c : CF → Addr
  | .nd F => F.c
  | .lm F => F.c
def CF.qual : CF → Str
  | .nd F => F.qual
  | .lm F => F.qual
def LmO (f : Addr) (F : LF) : HO := .ext fun h => ∃ (pm ctv : Value), h.get? f = some (PySem.W.kla_obj "<lambda>" F.qual F.params F.body F.scope F.cl pm F.c ctv)
def CFO (f : Addr) : CF → HO
  | .nd F => NdefX.FnO f F
  | .lm F => LmO f F
/-- an abstract value: frozen data, an owned object's number, a plain value, the script, an exception that was caught -/
inductive PV where
  | d (x : PyData) | o (i : Nat) | v (x : V) | s (ns : List Int) | x (e : Ex) | p (x y : PV) | fn (G : CF)
/-- an owned object of another kind: what the heap holds there, told by frozen things alone -/
structure XR where
  rel : Hp → HO → Prop
  mono : ∀ {F F' : Hp} {h : HO}, Same F F' → rel F h → rel F' h
  isx : ∀ {F : Hp} {h : HO}, rel F h → ∃ φ, h = .ext φ
  nc : ∀ {F : Hp} {h : HO} (c : Addr) (q : Str), rel F h → h ≠ LamX.CodeO c q
/-- an owned object -/
inductive AO where
  | lst (xs : List PV) | tup (xs : List PV) | dK (kvs : List (Key × PV)) | dT (kvs : List (List Key × PV)) | ins (c : Str) (fs : List (Str × PV)) | gone | tbl (P : Addr) (q : Str) | xo (R : XR)
abbrev Own := List AO
abbrev Env1 := List (Option PV)
mutual
/-- v is the data x, all of it frozen -/
inductive Dq (F : Hp) : V → PyData → Prop
  | non : Dq F .non .none
  | bl (b : Bool) : Dq F (.bl b) (.bool b)
  | int (i : Int) : Dq F (.int i) (.int i)
  | str (x : Str) : Dq F (.str x) (.str x)
  | lst {a : Addr} {xs : List V} {ds : List PyData} : F a = some (.lst xs) → DqAll F xs ds → Dq F (.ref a) (.list ds)
  | tup {a : Addr} {xs : List V} {ds : List PyData} : F a = some (.tup xs) → DqAll F xs ds → Dq F (.ref a) (.tuple ds)
  | dct {a : Addr} : F a = some (.dK []) → Dq F (.ref a) (.dict [])
inductive DqAll (F : Hp) : List V → List PyData → Prop
  | nil : DqAll F [] []
  | cons {v : V} {vs : List V} {d : PyData} {ds : List PyData} : Dq F v d → DqAll F vs ds → DqAll F (v :: vs) (d :: ds)
end
theorem Dq_same {F F' : Hp} (e : Same F F') {v : V} {x : PyData} (h : Dq F v x) : Dq F' v x := by
  refine Dq.rec (motive_1 := fun v x _ => Dq F' v x) (motive_2 := fun vs xs _ => DqAll F' vs xs) .non .bl .int .str ?_ ?_ ?_ .nil ?_ h
  · intro a xs ds hs _ ih
    exact .lst (e _ _ hs) ih
  · intro a xs ds hs _ ih
    exact .tup (e _ _ hs) ih
  · intro a hs
    exact .dct (e _ _ hs)
  · intro v vs d ds _ _ h1 h2
    exact .cons h1 h2
theorem DqAll_same {F F' : Hp} (e : Same F F') : ∀ {vs : List V} {xs : List PyData}, DqAll F vs xs → DqAll F' vs xs
  | _, _, .nil => .nil
  | _, _, .cons h t => .cons (Dq_same e h) (DqAll_same e t)
theorem sh_cl {d : PyData} (h : SeqAt.shaped d = true) : PyData.canLay0 d = true := by
  unfold SeqAt.shaped at h
  rw [Bool.and_eq_true] at h
  exact h.1
theorem Dq.dp {K : PySem.W.Frag} {F : Hp} {v : V} {x : PyData} (h : Dq F v x) : PyData.canLay0 x = true → Dp K F v x := by
  refine Dq.rec (motive_1 := fun v x _ => PyData.canLay0 x = true → Dp K F v x) (motive_2 := fun vs xs _ => PyData.canLayAll0 xs = true → DpAll K F vs xs) (fun _ => .non) (fun b _ => .bl b) (fun b _ => .int b) (fun b _ => .str b) ?_ ?_ ?_ (fun _ => .nil) ?_ h
  · intro a xs ds hs _ ih hc
    exact .lst (SqL.of hs) (ih (by simpa [PyData.canLay0] using hc))
  · intro a xs ds hs _ ih hc
    exact .tup (SqT.of hs) (ih (by simpa [PyData.canLay0] using hc))
  · intro a hs hc
    simp [PyData.canLay0] at hc
  · intro v vs d ds _ _ h1 h2 hc
    rw [PyData.canLayAll0, Bool.and_eq_true] at hc
    exact .cons (h1 hc.1) (h2 hc.2)
theorem DqAll.len {F : Hp} : ∀ {vs : List V} {xs : List PyData}, DqAll F vs xs → vs.length = xs.length
  | _, _, .nil => rfl
  | _, _, .cons _ t => congrArg (· + 1) t.len
theorem DqAll.get {F : Hp} : ∀ {vs : List V} {xs : List PyData}, DqAll F vs xs → ∀ {i : Nat} {x : PyData}, xs[i]? = some x → ∃ v, vs[i]? = some v ∧ Dq F v x
  | _, _, .nil, _, _, e => by simp at e
  | _, _, .cons h _, 0, _, e => by cases e; exact ⟨_, rfl, h⟩
  | _, _, .cons _ t, i + 1, _, e => t.get (i := i) e
theorem DqAll.app {F : Hp} : ∀ {vs : List V} {xs : List PyData}, DqAll F vs xs → ∀ {vs' : List V} {xs' : List PyData}, DqAll F vs' xs' → DqAll F (vs ++ vs') (xs ++ xs')
  | _, _, .nil, _, _, h => h
  | _, _, .cons h t, _, _, h' => .cons h (t.app h')
theorem DqAll.drop {F : Hp} : ∀ (n : Nat) {vs : List V} {xs : List PyData}, DqAll F vs xs → DqAll F (vs.drop n) (xs.drop n)
  | 0, _, _, h => h
  | _ + 1, _, _, .nil => .nil
  | n + 1, _, _, .cons _ t => t.drop n
theorem DqAll.take {F : Hp} : ∀ (n : Nat) {vs : List V} {xs : List PyData}, DqAll F vs xs → DqAll F (vs.take n) (xs.take n)
  | 0, _, _, _ => .nil
  | _ + 1, _, _, .nil => .nil
  | n + 1, _, _, .cons h t => .cons h (t.take n)
def Gr (as as' : List Addr) : Prop := ∀ (i : Nat) (a : Addr), as[i]? = some a → as'[i]? = some a
theorem Gr.refl (as : List Addr) : Gr as as := fun _ _ h => h
theorem Gr.trans {a b c : List Addr} (h : Gr a b) (g : Gr b c) : Gr a c := fun i x e => g i x (h i x e)
theorem Gr.app (a b : List Addr) : Gr a (a ++ b) := fun i x e => by
  have hi : i < a.length := (List.getElem?_eq_some_iff.mp e).1
  rw [List.getElem?_append_left hi]
  exact e
/-- the written part, what the module's names hold, and the floor: what stood as the def was entered -/
structure KF where
  K : PySem.W.Frag
  mg : Str → Option Value
  a0 : List Addr
  F0 : Hp
/-- an exception's object: its class, its dict -/
def exz (a C : Addr) (d : Option Addr) : HO := .ext fun h => ∃ o vs, h.get? a = some o ∧ o.cls = .ref C ∧ o.dict = d ∧ o.data = .fields vs
/-- the exception's class and fields, as they lie -/
def XRel (K : KF) (F : Hp) (e : Ex) (cls : Value) (d : Option Addr) : Prop := ∃ C, K.mg e.c = some (.ref C) ∧ cls = .ref C ∧
  ((e.fs = [] ∧ d = none) ∨ ∃ dd ws, d = some dd ∧ F dd = some (.xd ws) ∧ ∀ f x, e.fs.lookup f = some x → ∃ v, ws.lookup f = some v ∧ Dq F v x)
theorem XRel.mono {K : KF} {F F' : Hp} (s : Same F F') {e : Ex} {cls : Value} {d : Option Addr} (h : XRel K F e cls d) : XRel K F' e cls d := by
  obtain ⟨C, h1, h2, h3⟩ := h
  refine ⟨C, h1, h2, ?_⟩
  rcases h3 with h3 | ⟨dd, ws, h4, h5, h6⟩
  · exact .inl h3
  · exact .inr ⟨dd, ws, h4, s _ _ h5, fun f x e => let ⟨v, a, b⟩ := h6 f x e; ⟨v, a, Dq_same s b⟩⟩
def RPV (K : KF) (F : Hp) (as : List Addr) : PV → V → Prop
  | .d x, v => Dq F v x
  | .o i, v => ∃ a, as[i]? = some a ∧ v = .ref a
  | .v x, v => v = x
  | .s ns, v => ∃ a, v = .ref a ∧ SqL K.K F a (ns.map V.int)
  | .x e, v => ∃ a C d, v = .ref a ∧ F a = some (exz a C d) ∧ XRel K F e (.ref C) d
  | .p x y, v => ∃ a u1 u2, v = .ref a ∧ F a = some (.tup [u1, u2]) ∧ RPV K F as x u1 ∧ RPV K F as y u2
  | .fn G, v => ∃ f, v = .ref f ∧ F f = some (CFO f G) ∧ F G.c = some (LamX.CodeO G.c G.qual)
abbrev RPs (K : KF) (F : Hp) (as : List Addr) : List PV → List V → Prop := Paired (RPV K F as)
theorem RPV.mono {K : KF} {F F' : Hp} {as as' : List Addr} (e : Same F F') (g : Gr as as') : ∀ {p : PV} {v : V}, RPV K F as p v → RPV K F' as' p v
  | .d x, v, h => Dq_same e h
  | .o i, v, ⟨a, h, z⟩ => ⟨a, g i a h, z⟩
  | .v x, v, h => h
  | .s ns, v, ⟨a, z, h⟩ => ⟨a, z, e.seq h⟩
  | .x _, v, ⟨a, C, d, z, h, q⟩ => ⟨a, C, d, z, e _ _ h, q.mono e⟩
  | .p _ _, v, ⟨a, u1, u2, z, h, q1, q2⟩ => ⟨a, u1, u2, z, e _ _ h, RPV.mono e g q1, RPV.mono e g q2⟩
  | .fn _, v, ⟨f, z, h1, h2⟩ => ⟨f, z, e _ _ h1, e _ _ h2⟩
theorem rpv_floor {K : KF} {a1 : List Addr} {F1 : Hp} {F : Hp} {as : List Addr} : ∀ {p : PV} {v : V}, RPV K F as p v → RPV ⟨K.K, K.mg, a1, F1⟩ F as p v
  | .d _, _, h => h
  | .o _, _, h => h
  | .v _, _, h => h
  | .s _, _, h => h
  | .x _, _, h => h
  | .p _ _, _, ⟨b, u1, u2, z, h, q1, q2⟩ => ⟨b, u1, u2, z, h, rpv_floor q1, rpv_floor q2⟩
  | .fn _, _, h => h
theorem RPs.mono {K : KF} {F F' : Hp} {as as' : List Addr} (e : Same F F') (g : Gr as as') : ∀ {p : List PV} {v : List V}, RPs K F as p v → RPs K F' as' p v
  | _, _, .nil => .nil
  | _, _, .cons h t => .cons (RPV.mono e g h) (RPs.mono e g t)
def ROb (K : KF) (F : Hp) (as : List Addr) : AO → HO → Prop
  | .lst xs, h => ∃ vs, h = .lst vs ∧ RPs K F as xs vs
  | .tup xs, h => ∃ vs, h = .tup vs ∧ RPs K F as xs vs
  | .dK kvs, h => ∃ ws, h = .dK ws ∧ Paired (fun (p : Key × PV) (q : Key × V) => p.1 = q.1 ∧ RPV K F as p.2 q.2) kvs ws
  | .dT kvs, h => ∃ ws, h = .dT ws ∧ Paired (fun (p : List Key × PV) (q : List Key × V) => p.1 = q.1 ∧ RPV K F as p.2 q.2) kvs ws
  | .ins c fs, h => ∃ C dx ws, K.mg c = some (.ref C) ∧ h = .ins C dx ws ∧ Paired (fun (p : Str × PV) (q : Str × V) => p.1 = q.1 ∧ RPV K F as p.2 q.2) fs ws
  | .gone, _ => True
  | .tbl _ _, _ => False
  | .xo R, h => R.rel F h
theorem ROb.mono {K : KF} {F F' : Hp} {as as' : List Addr} (e : Same F F') (g : Gr as as') : ∀ {p : AO} {h : HO}, ROb K F as p h → ROb K F' as' p h
  | .lst _, _, ⟨vs, h, r⟩ => ⟨vs, h, r.mono e g⟩
  | .tup _, _, ⟨vs, h, r⟩ => ⟨vs, h, r.mono e g⟩
  | .dK _, _, ⟨vs, h, r⟩ => ⟨vs, h, Paired.mapP r fun _ _ z => ⟨z.1, z.2.mono e g⟩⟩
  | .dT _, _, ⟨vs, h, r⟩ => ⟨vs, h, Paired.mapP r fun _ _ z => ⟨z.1, z.2.mono e g⟩⟩
  | .ins _ _, _, ⟨C, dx, ws, m, h, r⟩ => ⟨C, dx, ws, m, h, Paired.mapP r fun _ _ z => ⟨z.1, z.2.mono e g⟩⟩
  | .gone, _, _ => trivial
  | .tbl _ _, _, h => h
  | .xo R, _, h => R.mono e h
def OwnAt (K : KF) (F H : Hp) (as : List Addr) (a : Addr) : AO → Prop
  | .gone => ∃ h, H a = some h
  | .tbl P q => a = P ∧ F a = none ∧ ∃ ps : Array Value, H a = some (.tbl ps) ∧ TriplesOk ps.toList ∧ ∀ (pos : Pos) (cv : Value), codeAmong pos ps.toList = some cv → ∃ c, cv = .ref c ∧ F c = some (LamX.CodeO c q)
  | ob => F a = none ∧ ∃ h, H a = some h ∧ ROb K F as ob h
/-- the heap H holds the owned objects O (at as) and all that is frozen (F) -/
structure Wd (K : KF) (O : Own) (as : List Addr) (F H : Hp) : Prop where
  fa : Gr K.a0 as
  fF : Same K.F0 F
  len : as.length = O.length
  nd : as.Nodup
  ex : Same F H
  own : ∀ (i : Nat) (a : Addr) (ob : AO), O[i]? = some ob → as[i]? = some a → OwnAt K F H as a ob
theorem OwnAt.any {K : KF} {F H : Hp} {as : List Addr} {a : Addr} : ∀ {ob : AO}, OwnAt K F H as a ob → ∃ h, H a = some h
  | .gone, h => h
  | .tbl _ _, ⟨_, _, ps, h, _⟩ => ⟨_, h⟩
  | .xo _, ⟨_, h, e, _⟩ => ⟨h, e⟩
  | .lst _, ⟨_, h, e, _⟩ => ⟨h, e⟩
  | .tup _, ⟨_, h, e, _⟩ => ⟨h, e⟩
  | .dK _, ⟨_, h, e, _⟩ => ⟨h, e⟩
  | .dT _, ⟨_, h, e, _⟩ => ⟨h, e⟩
  | .ins _ _, ⟨_, h, e, _⟩ => ⟨h, e⟩
theorem OwnAt.step {K : KF} {F F' H H' : Hp} {as as' : List Addr} {a : Addr} (e : Same F F') (g : Gr as as') (hh : H' a = H a) (hf : F a = none → F' a = none) : ∀ {ob : AO}, OwnAt K F H as a ob → OwnAt K F' H' as' a ob
  | .gone, ⟨h, q⟩ => ⟨h, hh.trans q⟩
  | .tbl _ _, ⟨z, n, ps, h, t, q⟩ => ⟨z, hf n, ps, hh.trans h, t, fun pos cv hc => let ⟨c, e1, e2⟩ := q pos cv hc; ⟨c, e1, e _ _ e2⟩⟩
  | .lst _, ⟨n, h, q, r⟩ => ⟨hf n, h, hh.trans q, r.mono e g⟩
  | .tup _, ⟨n, h, q, r⟩ => ⟨hf n, h, hh.trans q, r.mono e g⟩
  | .dK _, ⟨n, h, q, r⟩ => ⟨hf n, h, hh.trans q, r.mono e g⟩
  | .dT _, ⟨n, h, q, r⟩ => ⟨hf n, h, hh.trans q, r.mono e g⟩
  | .ins _ _, ⟨n, h, q, r⟩ => ⟨hf n, h, hh.trans q, r.mono e g⟩
  | .xo R, ⟨n, h, q, r⟩ => ⟨hf n, h, hh.trans q, R.mono e r⟩
section
variable {K : KF} {O : Own} {as : List Addr} {F H : Hp}
theorem Wd.at_ (w : Wd K O as F H) {i : Nat} {ob : AO} (h : O[i]? = some ob) : ∃ a, as[i]? = some a ∧ OwnAt K F H as a ob := by
  have hi : i < O.length := (List.getElem?_eq_some_iff.mp h).1
  have hj : i < as.length := by rw [w.len]; exact hi
  exact ⟨as[i], List.getElem?_eq_getElem hj, w.own i _ ob h (List.getElem?_eq_getElem hj)⟩
theorem Wd.tracked (w : Wd K O as F H) {a : Addr} (h : a ∈ as) : ∃ o, H a = some o := by
  obtain ⟨i, hi, e⟩ := List.getElem_of_mem h
  have hj : i < O.length := by rw [← w.len]; exact hi
  exact (w.own i a O[i] (List.getElem?_eq_getElem hj) (by rw [List.getElem?_eq_getElem hi, e])).any
/-- a new owned object -/
theorem Wd.new (w : Wd K O as F H) {p : Addr} {ob : AO} {h : HO} (hp : H p = none) (r : ROb K F as ob h) (hg : ob ≠ .gone) : Wd K (O ++ [ob]) (as ++ [p]) F (upd H p h) := by
  have fp : F p = none := w.ex.free hp
  refine ⟨w.fa.trans (Gr.app _ _), w.fF, by simp [w.len], ?_, fun b o e => ?_, fun i a oc h1 h2 => ?_⟩
  · rw [List.nodup_append]
    refine ⟨w.nd, by simp, fun a ha b hb e => ?_⟩
    obtain ⟨o, ho⟩ := w.tracked ha
    have : b = p := by simpa using hb
    rw [e, this, hp] at ho
    cases ho
  · rw [upd_ne (ne_of_none e fp)]
    exact w.ex b o e
  · by_cases hi : i < O.length
    · rw [List.getElem?_append_left hi] at h1
      rw [List.getElem?_append_left (by rw [w.len]; exact hi)] at h2
      have q := w.own i a oc h1 h2
      obtain ⟨o, ho⟩ := q.any
      exact q.step (Same.refl _) (Gr.app _ _) (upd_ne (ne_of_none ho hp)) (fun z => z)
    · have hi2 : i = O.length := by
        have := (List.getElem?_eq_some_iff.mp h1).1
        simp at this
        omega
      subst hi2
      rw [List.getElem?_append_right (Nat.le_refl _)] at h1
      rw [List.getElem?_append_right (by rw [w.len]; exact Nat.le_refl _)] at h2
      have e1 : oc = ob := by simpa using h1.symm
      have e2 : a = p := by rw [w.len] at h2; simpa using h2.symm
      subst e1 e2
      have z : F a = none ∧ ∃ h', (upd H a h) a = some h' ∧ ROb K F (as ++ [a]) oc h' := ⟨fp, h, upd_same, r.mono (Same.refl _) (Gr.app _ _)⟩
      cases oc with
      | gone => exact absurd rfl hg
      | tbl _ _ => exact r.elim
      | lst _ => exact z
      | tup _ => exact z
      | dK _ => exact z
      | dT _ => exact z
      | ins _ _ => exact z
      | xo _ => exact z
theorem nodup_at {l : List Addr} (h : l.Nodup) {i j : Nat} {a : Addr} (h1 : l[i]? = some a) (h2 : l[j]? = some a) : i = j := by
  obtain ⟨p1, e1⟩ := List.getElem?_eq_some_iff.mp h1
  obtain ⟨p2, e2⟩ := List.getElem?_eq_some_iff.mp h2
  exact (List.getElem_inj h).mp (e1.trans e2.symm)
/-- an owned object changed -/
theorem Wd.set (w : Wd K O as F H) {i : Nat} {a : Addr} {ob : AO} {h : HO} (hi : as[i]? = some a) (fa : F a = none) (r : ROb K F as ob h) (hg : ob ≠ .gone) : Wd K (O.set i ob) as F (upd H a h) := by
  have hil : i < O.length := by rw [← w.len]; exact (List.getElem?_eq_some_iff.mp hi).1
  refine ⟨w.fa, w.fF, by simp [w.len], w.nd, fun b o e => ?_, fun j b oc h1 h2 => ?_⟩
  · rw [upd_ne (ne_of_none e fa)]
    exact w.ex b o e
  · by_cases hj : i = j
    · subst hj
      rw [List.getElem?_set_self hil] at h1
      have e1 : ob = oc := Option.some.inj h1
      rw [hi] at h2
      have e2 : a = b := Option.some.inj h2
      subst e1 e2
      have z : F a = none ∧ ∃ h', (upd H a h) a = some h' ∧ ROb K F as ob h' := ⟨fa, h, upd_same, r⟩
      cases ob with
      | gone => exact absurd rfl hg
      | tbl _ _ => exact r.elim
      | lst _ => exact z
      | tup _ => exact z
      | dK _ => exact z
      | dT _ => exact z
      | ins _ _ => exact z
      | xo _ => exact z
    · rw [List.getElem?_set_ne hj] at h1
      have hne : b ≠ a := fun e => hj (nodup_at w.nd hi (e ▸ h2))
      exact (w.own j b oc h1 h2).step (Same.refl _) (Gr.refl _) (upd_ne hne) (fun z => z)
/-- another floor -/
theorem Wd.floor (w : Wd K O as F H) {a1 : List Addr} {F1 : Hp} (g : Gr a1 as) (s : Same F1 F) : Wd ⟨K.K, K.mg, a1, F1⟩ O as F H := by
  refine ⟨g, s, w.len, w.nd, w.ex, fun i a ob h1 h2 => ?_⟩
  have q := w.own i a ob h1 h2
  cases ob with
  | gone => exact q
  | tbl _ _ => exact q
  | lst _ => obtain ⟨n, h, e, vs, z, r⟩ := q; exact ⟨n, h, e, vs, z, Paired.mapP r fun _ _ y => rpv_floor y⟩
  | tup _ => obtain ⟨n, h, e, vs, z, r⟩ := q; exact ⟨n, h, e, vs, z, Paired.mapP r fun _ _ y => rpv_floor y⟩
  | dK _ => obtain ⟨n, h, e, vs, z, r⟩ := q; exact ⟨n, h, e, vs, z, Paired.mapP r fun _ _ y => ⟨y.1, rpv_floor y.2⟩⟩
  | dT _ => obtain ⟨n, h, e, vs, z, r⟩ := q; exact ⟨n, h, e, vs, z, Paired.mapP r fun _ _ y => ⟨y.1, rpv_floor y.2⟩⟩
  | ins _ _ => obtain ⟨n, h, e, C, dx, ws, m, z, r⟩ := q; exact ⟨n, h, e, C, dx, ws, m, z, Paired.mapP r fun _ _ y => ⟨y.1, rpv_floor y.2⟩⟩
  | xo _ => exact q
/-- a new frozen object -/
theorem Wd.data (w : Wd K O as F H) {p : Addr} {h : HO} (hp : H p = none) : Wd K O as (upd F p h) (upd H p h) ∧ Same F (upd F p h) := by
  have fp : F p = none := w.ex.free hp
  have sm : Same F (upd F p h) := fun b o e => by rw [upd_ne (ne_of_none e fp)]; exact e
  refine ⟨⟨w.fa, w.fF.trans sm, w.len, w.nd, fun b o e => ?_, fun i a ob h1 h2 => ?_⟩, sm⟩
  · by_cases hb : b = p
    · subst hb; rw [upd_same] at e ⊢; exact e
    · rw [upd_ne hb] at e ⊢; exact w.ex b o e
  · have q := w.own i a ob h1 h2
    obtain ⟨o, ho⟩ := q.any
    have hne : a ≠ p := ne_of_none ho hp
    exact q.step sm (Gr.refl _) (upd_ne hne) (fun z => by rw [upd_ne hne]; exact z)
theorem rps_data : ∀ {ds : List PyData} {vs : List V}, RPs K F as (ds.map PV.d) vs → DqAll F vs ds
  | [], _, .nil => .nil
  | _ :: _, _, .cons h t => .cons h (rps_data t)
theorem data_rps : ∀ {ds : List PyData} {vs : List V}, DqAll F vs ds → RPs K F as (ds.map PV.d) vs
  | _, _, .nil => .nil
  | _, _, .cons h t => .cons h (data_rps t)
/-- an owned list is frozen -/
theorem Wd.freeze (w : Wd K O as F H) {i : Nat} {ds : List PyData} (hO : O[i]? = some (.lst (ds.map PV.d))) :
    ∃ a F', as[i]? = some a ∧ Wd K (O.set i .gone) as F' H ∧ Same F F' ∧ Dq F' (.ref a) (.list ds) := by
  obtain ⟨a, ha, fa, h, hh, vs, rfl, r⟩ := w.at_ hO
  have hil : i < O.length := (List.getElem?_eq_some_iff.mp hO).1
  have sm : Same F (upd F a (.lst vs)) := fun b o e => by rw [upd_ne (ne_of_none e fa)]; exact e
  refine ⟨a, upd F a (.lst vs), ha, ⟨w.fa, w.fF.trans sm, by simp [w.len], w.nd, fun b o e => ?_, fun j b oc h1 h2 => ?_⟩, sm, .lst upd_same (DqAll_same sm (rps_data r))⟩
  · by_cases hb : b = a
    · subst hb; rw [upd_same] at e; rw [hh]; exact e
    · rw [upd_ne hb] at e; exact w.ex b o e
  · by_cases hj : i = j
    · subst hj
      rw [List.getElem?_set_self hil] at h1
      have e1 : AO.gone = oc := Option.some.inj h1
      rw [ha] at h2
      have e2 : a = b := Option.some.inj h2
      subst e1 e2
      exact ⟨_, hh⟩
    · rw [List.getElem?_set_ne hj] at h1
      have hne : b ≠ a := fun e => hj (nodup_at w.nd ha (e ▸ h2))
      exact (w.own j b oc h1 h2).step sm (Gr.refl _) rfl (fun z => by rw [upd_ne hne]; exact z)
/-- an owned tuple is frozen -/
theorem Wd.freezeT (w : Wd K O as F H) {i : Nat} {ds : List PyData} (hO : O[i]? = some (.tup (ds.map PV.d))) :
    ∃ a F', as[i]? = some a ∧ Wd K (O.set i .gone) as F' H ∧ Same F F' ∧ Dq F' (.ref a) (.tuple ds) := by
  obtain ⟨a, ha, fa, h, hh, vs, rfl, r⟩ := w.at_ hO
  have hil : i < O.length := (List.getElem?_eq_some_iff.mp hO).1
  have sm : Same F (upd F a (.tup vs)) := fun b o e => by rw [upd_ne (ne_of_none e fa)]; exact e
  refine ⟨a, upd F a (.tup vs), ha, ⟨w.fa, w.fF.trans sm, by simp [w.len], w.nd, fun b o e => ?_, fun j b oc h1 h2 => ?_⟩, sm, .tup upd_same (DqAll_same sm (rps_data r))⟩
  · by_cases hb : b = a
    · subst hb; rw [upd_same] at e; rw [hh]; exact e
    · rw [upd_ne hb] at e; exact w.ex b o e
  · by_cases hj : i = j
    · subst hj
      rw [List.getElem?_set_self hil] at h1
      have e1 : AO.gone = oc := Option.some.inj h1
      rw [ha] at h2
      have e2 : a = b := Option.some.inj h2
      subst e1 e2
      exact ⟨_, hh⟩
    · rw [List.getElem?_set_ne hj] at h1
      have hne : b ≠ a := fun e => hj (nodup_at w.nd ha (e ▸ h2))
      exact (w.own j b oc h1 h2).step sm (Gr.refl _) rfl (fun z => by rw [upd_ne hne]; exact z)
end
/-! ### slots -/
def RS (K : KF) (F : Hp) (as : List Addr) : Env1 → St → Prop := Paired fun p q => ∀ pv, p = some pv → ∃ v, q = some v ∧ RPV K F as pv v
section
variable {K : KF} {as as' : List Addr} {F F' H : Hp}
theorem RS.mono (e : Same F F') (g : Gr as as') {ρ : Env1} {σ : St} (h : RS K F as ρ σ) : RS K F' as' ρ σ := Paired.mapP h fun _ _ z pv hp => let ⟨v, h1, h2⟩ := z pv hp; ⟨v, h1, h2.mono e g⟩
theorem RS.get : ∀ {ρ : Env1} {σ : St} {i : Nat} {pv : PV}, RS K F as ρ σ → ρ[i]? = some (some pv) → ∃ v, σ[i]? = some (some v) ∧ RPV K F as pv v
  | _, _, _, _, .nil, e => by simp at e
  | _, _, 0, _, .cons r _, e => by
    have e' := Option.some.inj e
    obtain ⟨v, h1, h2⟩ := r _ e'
    exact ⟨v, by rw [h1]; rfl, h2⟩
  | _, _, i + 1, _, .cons _ t, e => RS.get (i := i) t e
theorem RS.set {pv : PV} {v : V} (r : RPV K F as pv v) : ∀ {ρ : Env1} {σ : St} (i : Nat), RS K F as ρ σ → RS K F as (ρ.set i (some pv)) (σ.set i (some v))
  | _, _, _, .nil => .nil
  | _, _, 0, .cons _ t => .cons (fun pv' e => by cases e; exact ⟨v, rfl, r⟩) t
  | _, _, i + 1, .cons q t => .cons q (RS.set r i t)
theorem RS.unset : ∀ {ρ : Env1} {σ : St} (i : Nat) (q : Option V), RS K F as ρ σ → RS K F as (ρ.set i none) (σ.set i q)
  | _, _, _, _, .nil => .nil
  | _, _, 0, _, .cons _ t => .cons (fun pv' e => nomatch e) t
  | _, _, i + 1, q, .cons p t => .cons p (RS.unset i q t)
theorem RS.start (n : Nat) : ∀ {ps : List PV} {vs : List V}, RPs K F as ps vs → RS K F as (ps.map some ++ List.replicate n none) (vs.map some ++ List.replicate n none)
  | _, _, .nil => by
    induction n with
    | zero => exact .nil
    | succ n ih => exact .cons (fun pv e => nomatch e) ih
  | _, _, .cons h t => .cons (fun pv e => by cases e; exact ⟨_, rfl, h⟩) (RS.start n t)
end
/-! ### the abstract judgements -/
/-- what is wanted of a value -/
def PQ (K : KF) (as : List Addr) (F : Hp) (Φ : PV → Own → Prop) : VK := fun v H' => ∃ pv O' as' F', Wd K O' as' F' H' ∧ Gr as as' ∧ Same F F' ∧ RPV K F' as' pv v ∧ Φ pv O'
theorem PQ.back {K : KF} {as as1 : List Addr} {F F1 : Hp} {Φ : PV → Own → Prop} {v : V} {H : Hp} (g : Gr as as1) (e : Same F F1) (h : PQ K as1 F1 Φ v H) : PQ K as F Φ v H :=
  let ⟨pv, O', as', F', w, g', e', r, q⟩ := h
  ⟨pv, O', as', F', w, g.trans g', e.trans e', r, q⟩
theorem PQ.mk {K : KF} {as : List Addr} {F : Hp} {Φ : PV → Own → Prop} {v : V} {H : Hp} {pv : PV} {O : Own} (w : Wd K O as F H) (r : RPV K F as pv v) (h : Φ pv O) : PQ K as F Φ v H := ⟨pv, O, as, F, w, Gr.refl _, Same.refl _, r, h⟩
def PQs (K : KF) (as : List Addr) (F : Hp) (Φ : List PV → Own → Prop) : List V → Hp → Prop := fun v H' => ∃ pv O' as' F', Wd K O' as' F' H' ∧ Gr as as' ∧ Same F F' ∧ RPs K F' as' pv v ∧ Φ pv O'
theorem PQs.back {K : KF} {as as1 : List Addr} {F F1 : Hp} {Φ : List PV → Own → Prop} {v : List V} {H : Hp} (g : Gr as as1) (e : Same F F1) (h : PQs K as1 F1 Φ v H) : PQs K as F Φ v H :=
  let ⟨pv, O', as', F', w, g', e', r, q⟩ := h
  ⟨pv, O', as', F', w, g.trans g', e.trans e', r, q⟩
def PQb (K : KF) (as : List Addr) (F : Hp) (Φ : Bool → Own → Prop) : Bool → Hp → Prop := fun b H' => ∃ O' as' F', Wd K O' as' F' H' ∧ Gr as as' ∧ Same F F' ∧ Φ b O'
theorem PQb.back {K : KF} {as as1 : List Addr} {F F1 : Hp} {Φ : Bool → Own → Prop} {v : Bool} {H : Hp} (g : Gr as as1) (e : Same F F1) (h : PQb K as1 F1 Φ v H) : PQb K as F Φ v H :=
  let ⟨O', as', F', w, g', e', q⟩ := h
  ⟨O', as', F', w, g.trans g', e.trans e', q⟩
/-- the widest readings (shut: the elaborator is not to look into them) -/
@[irreducible] def tE (X : Cx) (e : Expr) : TE := fun σ H Q => ∀ pins s, Inv X pins σ H s → wpAny (model X.prog X.w) X.A (eval e X.env) (EP X pins σ Q) X.xe s
@[irreducible] def tT (X : Cx) (e : Expr) : TT := fun σ H Q => ∀ pins s, Inv X pins σ H s → wpAny (model X.prog X.w) X.A (isTrue e X.env (eval e X.env)) (TP X pins σ Q) X.xe s
@[irreducible] def tW (X : Cx) (e : Expr) : TT := fun σ H Q => ∀ whole pins s, Inv X pins σ H s → wpAny (model X.prog X.w) X.A (isTrue e X.env whole) (TP X pins σ Q) X.xe s
@[irreducible] def tA (X : Cx) (es : List Expr) : TA := fun σ H Q => ∀ pos pins s, Inv X pins σ H s → wpAny (model X.prog X.w) X.A (spliced (backTo pos (starEach es X.env))) (AP X pins σ Q) X.xe s
@[irreducible] def tS (X : Cx) (st : Stmt) : TS := fun D σ H => ∀ pins s, Inv X pins σ H s → wpAny (model X.prog X.w) X.A (exec st X.env) (SP X pins D) X.xe s
@[irreducible] def tSs (X : Cx) (st : List Stmt) : TS := fun D σ H => ∀ pins s, Inv X pins σ H s → wpAny (model X.prog X.w) X.A (execs st X.env) (SP X pins D) X.xe s
@[irreducible] def tG (X : Cx) (tg : Expr) : TG := fun v σ H Q => ∀ pins s u, Inv X pins σ H s → RelV v u → wpAny (model X.prog X.w) X.A (assign tg X.env u) (fun _ s' => ∃ σ' H', Inv X pins σ' H' s' ∧ Q σ' H') X.xe s
section
variable {X : Cx} {e : Expr} {es : List Expr} {st : Stmt} {sts : List Stmt} {σ : L2.St} {H : Hp}
theorem pe_tE : PE X e (tE X e) := ⟨fun pins s _ _ _ I h => by unfold tE at h; exact h pins s I⟩
theorem pt_tT : PT X e (tT X e) := ⟨fun pins s _ _ _ I h => by unfold tT at h; exact h pins s I⟩
theorem pw_tW : PW X e (tW X e) := ⟨fun wh pins s _ _ _ I h => by unfold tW at h; exact h wh pins s I⟩
theorem pa_tA : PA X es (tA X es) := ⟨fun pos pins s _ _ _ I h => by unfold tA at h; exact h pos pins s I⟩
theorem ps_tS : PS X st (tS X st) := ⟨fun pins s _ _ _ I h => by unfold tS at h; exact h pins s I⟩
theorem pss_tSs : PSs X sts (tSs X sts) := ⟨fun pins s _ _ _ I h => by unfold tSs at h; exact h pins s I⟩
theorem pg_tG : PG X e (tG X e) := ⟨fun pins s _ _ _ u _ I r h => by unfold tG at h; exact h pins s u I r⟩
theorem tE_of {t : TE} {Q : VK} (h : PE X e t) (q : t σ H Q) : tE X e σ H Q := by unfold tE; exact fun pins s I => h.run pins s σ H Q I q
theorem tT_of {t : TT} {Q : Bool → Hp → Prop} (h : PT X e t) (q : t σ H Q) : tT X e σ H Q := by unfold tT; exact fun pins s I => h.run pins s σ H Q I q
theorem tW_of {t : TT} {Q : Bool → Hp → Prop} (h : PW X e t) (q : t σ H Q) : tW X e σ H Q := by unfold tW; exact fun wh pins s I => h.run wh pins s σ H Q I q
theorem tA_of {t : TA} {Q : List V → Hp → Prop} (h : PA X es t) (q : t σ H Q) : tA X es σ H Q := by unfold tA; exact fun pos pins s I => h.run pos pins s σ H Q I q
theorem tS_of {t : TS} {D : Ends} (h : PS X st t) (q : t D σ H) : tS X st D σ H := by unfold tS; exact fun pins s I => h.run pins s σ H D I q
theorem tSs_of {t : TS} {D : Ends} (h : PSs X sts t) (q : t D σ H) : tSs X sts D σ H := by unfold tSs; exact fun pins s I => h.run pins s σ H D I q
theorem tG_of {t : TG} {v : V} {Q : L2.St → Hp → Prop} (h : PG X e t) (q : t v σ H Q) : tG X e v σ H Q := by unfold tG; exact fun pins s u I r => h.run pins s σ H v u Q I r q
theorem tE_mono {Q Q' : VK} (h : tE X e σ H Q) (q : ∀ v H', Q v H' → Q' v H') : tE X e σ H Q' := by
  unfold tE at h ⊢
  exact fun pins s I => thn (h pins s I) fun _ _ ⟨v, H', I', r, z⟩ => ⟨v, H', I', r, q v H' z⟩
theorem tT_mono {Q Q' : Bool → Hp → Prop} (h : tT X e σ H Q) (q : ∀ v H', Q v H' → Q' v H') : tT X e σ H Q' := by
  unfold tT at h ⊢
  exact fun pins s I => thn (h pins s I) fun _ _ ⟨H', I', z⟩ => ⟨H', I', q _ H' z⟩
theorem tW_mono {Q Q' : Bool → Hp → Prop} (h : tW X e σ H Q) (q : ∀ v H', Q v H' → Q' v H') : tW X e σ H Q' := by
  unfold tW at h ⊢
  exact fun wh pins s I => thn (h wh pins s I) fun _ _ ⟨H', I', z⟩ => ⟨H', I', q _ H' z⟩
theorem tA_mono {Q Q' : List V → Hp → Prop} (h : tA X es σ H Q) (q : ∀ v H', Q v H' → Q' v H') : tA X es σ H Q' := by
  unfold tA at h ⊢
  exact fun pos pins s I => thn (h pos pins s I) fun _ _ ⟨v, H', I', r, z⟩ => ⟨v, H', I', r, q v H' z⟩
theorem tG_mono {v : V} {Q Q' : L2.St → Hp → Prop} (h : tG X e v σ H Q) (q : ∀ σ' H', Q σ' H' → Q' σ' H') : tG X e v σ H Q' := by
  unfold tG at h ⊢
  exact fun pins s u I r => thn (h pins s u I r) fun _ _ ⟨σ', H', I', z⟩ => ⟨σ', H', I', q σ' H' z⟩
structure Ends.Le (D D' : Ends) : Prop where
  nx : ∀ σ H, D.nx σ H → D'.nx σ H
  rt : ∀ v H, D.rt v H → D'.rt v H
  bk : ∀ σ H, D.bk σ H → D'.bk σ H
  ct : ∀ σ H, D.ct σ H → D'.ct σ H
theorem SP_mono {pins : List (Addr × Obj)} {D D' : Ends} (l : Ends.Le D D') {f : Flow} {s : Shared} (h : SP X pins D f s) : SP X pins D' f s := by
  cases f with
  | next => obtain ⟨σ', H', I, q⟩ := h; exact ⟨σ', H', I, l.nx _ _ q⟩
  | brk => obtain ⟨σ', H', I, q⟩ := h; exact ⟨σ', H', I, l.bk _ _ q⟩
  | cont => obtain ⟨σ', H', I, q⟩ := h; exact ⟨σ', H', I, l.ct _ _ q⟩
  | ret u => obtain ⟨v, σ', H', I, r, q⟩ := h; exact ⟨v, σ', H', I, r, l.rt _ _ q⟩
theorem tS_mono {D D' : Ends} (l : Ends.Le D D') (h : tS X st D σ H) : tS X st D' σ H := by
  unfold tS at h ⊢
  exact fun pins s I => thn (h pins s I) fun _ _ z => SP_mono l z
theorem tSs_mono {D D' : Ends} (l : Ends.Le D D') (h : tSs X sts D σ H) : tSs X sts D' σ H := by
  unfold tSs at h ⊢
  exact fun pins s I => thn (h pins s I) fun _ _ z => SP_mono l z
end
/-- where one stands, and the floor -/
structure Ax where
  c : Cx
  a0 : List Addr
  F0 : Hp
abbrev Ax.K (X : Ax) : PySem.W.Frag := X.c.K
abbrev Ax.mg (X : Ax) : Str → Option Value := X.c.mg
abbrev Ax.k (X : Ax) : KF := ⟨X.c.K, X.c.mg, X.a0, X.F0⟩
abbrev Ax.A (X : Ax) : Around := X.c.A
abbrev Ax.N (X : Ax) : List Str := X.c.N
abbrev Ax.env (X : Ax) : Env := X.c.env
abbrev Ax.fn (X : Ax) : Str → Bool := X.c.fn
abbrev Ax.calm (X : Ax) : Bool := X.c.calm
abbrev Ax.prog (X : Ax) : Program := X.c.prog
abbrev Ax.w (X : Ax) : World := X.c.w
abbrev Ax.base (X : Ax) : Heap := X.c.base
/-- e, in the slots ρ and the owned objects O, comes to a value and owned objects of which Φ holds -/
def AE (X : Ax) (e : Expr) (ρ : Env1) (O : Own) (Φ : PV → Own → Prop) : Prop := ∀ as F σ H, Wd X.k O as F H → RS X.k F as ρ σ → tE X.c e σ H (PQ X.k as F Φ)
def AT (X : Ax) (e : Expr) (ρ : Env1) (O : Own) (Φ : Bool → Own → Prop) : Prop := ∀ as F σ H, Wd X.k O as F H → RS X.k F as ρ σ → tT X.c e σ H (PQb X.k as F Φ)
def AW (X : Ax) (e : Expr) (ρ : Env1) (O : Own) (Φ : Bool → Own → Prop) : Prop := ∀ as F σ H, Wd X.k O as F H → RS X.k F as ρ σ → tW X.c e σ H (PQb X.k as F Φ)
def AA (X : Ax) (es : List Expr) (ρ : Env1) (O : Own) (Φ : List PV → Own → Prop) : Prop := ∀ as F σ H, Wd X.k O as F H → RS X.k F as ρ σ → tA X.c es σ H (PQs X.k as F Φ)
structure AEnds where
  nx : Env1 → Own → Prop
  rt : PV → Own → Prop
  bk : Env1 → Own → Prop := fun _ _ => False
  ct : Env1 → Own → Prop := fun _ _ => False
def SQ (K : KF) (as : List Addr) (F : Hp) (Φ : Env1 → Own → Prop) : St → Hp → Prop := fun σ H' => ∃ ρ O' as' F', Wd K O' as' F' H' ∧ Gr as as' ∧ Same F F' ∧ RS K F' as' ρ σ ∧ Φ ρ O'
theorem SQ.back {K : KF} {as as1 : List Addr} {F F1 : Hp} {Φ : Env1 → Own → Prop} {v : St} {H : Hp} (g : Gr as as1) (e : Same F F1) (h : SQ K as1 F1 Φ v H) : SQ K as F Φ v H :=
  let ⟨pv, O', as', F', w, g', e', r, q⟩ := h
  ⟨pv, O', as', F', w, g.trans g', e.trans e', r, q⟩
def AEnds.ends (D : AEnds) (K : KF) (as : List Addr) (F : Hp) : Ends := { nx := SQ K as F D.nx, rt := PQ K as F D.rt, bk := SQ K as F D.bk, ct := SQ K as F D.ct }
theorem AEnds.back {D : AEnds} {K : KF} {as as1 : List Addr} {F F1 : Hp} (g : Gr as as1) (e : Same F F1) : Ends.Le (D.ends K as1 F1) (D.ends K as F) := ⟨fun _ _ h => h.back g e, fun _ _ h => h.back g e, fun _ _ h => h.back g e, fun _ _ h => h.back g e⟩
def AS (X : Ax) (st : Stmt) (ρ : Env1) (O : Own) (D : AEnds) : Prop := ∀ as F σ H, Wd X.k O as F H → RS X.k F as ρ σ → tS X.c st (D.ends X.k as F) σ H
def ASs (X : Ax) (sts : List Stmt) (ρ : Env1) (O : Own) (D : AEnds) : Prop := ∀ as F σ H, Wd X.k O as F H → RS X.k F as ρ σ → tSs X.c sts (D.ends X.k as F) σ H
def AG (X : Ax) (tg : Expr) (x : PV) (ρ : Env1) (O : Own) (Φ : Env1 → Own → Prop) : Prop := ∀ as F σ H v, Wd X.k O as F H → RS X.k F as ρ σ → RPV X.k F as x v → tG X.c tg v σ H (SQ X.k as F Φ)
end Al
namespace Al
open PySem PySem.Spec L2
open PyProof.Rows hiding St
section
variable {X : Ax} {e a b c : Expr} {es : List Expr} {ρ : Env1} {O : Own} {Φ : PV → Own → Prop} {as : List Addr} {F H : Hp} {σ : L2.St} {pos p p2 : Pos}
theorem AE.run (h : AE X e ρ O Φ) (w : Wd X.k O as F H) (r : RS X.k F as ρ σ) {Q : VK}
    (k : ∀ pv O1 as1 F1 v H1, Wd X.k O1 as1 F1 H1 → Gr as as1 → Same F F1 → RPV X.k F1 as1 pv v → RS X.k F1 as1 ρ σ → Φ pv O1 → Q v H1) : tE X.c e σ H Q :=
  tE_mono (h as F σ H w r) fun v H' ⟨pv, O1, as1, F1, w1, g, e1, rp, q⟩ => k pv O1 as1 F1 v H' w1 g e1 rp (r.mono e1 g) q
theorem AT.run {Φ : Bool → Own → Prop} (h : AT X e ρ O Φ) (w : Wd X.k O as F H) (r : RS X.k F as ρ σ) {Q : Bool → Hp → Prop}
    (k : ∀ b O1 as1 F1 H1, Wd X.k O1 as1 F1 H1 → Gr as as1 → Same F F1 → RS X.k F1 as1 ρ σ → Φ b O1 → Q b H1) : tT X.c e σ H Q :=
  tT_mono (h as F σ H w r) fun v H' ⟨O1, as1, F1, w1, g, e1, q⟩ => k v O1 as1 F1 H' w1 g e1 (r.mono e1 g) q
theorem AW.run {Φ : Bool → Own → Prop} (h : AW X e ρ O Φ) (w : Wd X.k O as F H) (r : RS X.k F as ρ σ) {Q : Bool → Hp → Prop}
    (k : ∀ b O1 as1 F1 H1, Wd X.k O1 as1 F1 H1 → Gr as as1 → Same F F1 → RS X.k F1 as1 ρ σ → Φ b O1 → Q b H1) : tW X.c e σ H Q :=
  tW_mono (h as F σ H w r) fun v H' ⟨O1, as1, F1, w1, g, e1, q⟩ => k v O1 as1 F1 H' w1 g e1 (r.mono e1 g) q
theorem AA.run {Φ : List PV → Own → Prop} (h : AA X es ρ O Φ) (w : Wd X.k O as F H) (r : RS X.k F as ρ σ) {Q : List V → Hp → Prop}
    (k : ∀ pv O1 as1 F1 v H1, Wd X.k O1 as1 F1 H1 → Gr as as1 → Same F F1 → RPs X.k F1 as1 pv v → RS X.k F1 as1 ρ σ → Φ pv O1 → Q v H1) : tA X.c es σ H Q :=
  tA_mono (h as F σ H w r) fun v H' ⟨pv, O1, as1, F1, w1, g, e1, rp, q⟩ => k pv O1 as1 F1 v H' w1 g e1 rp (r.mono e1 g) q
theorem AE.mono {Φ' : PV → Own → Prop} (h : AE X e ρ O Φ) (k : ∀ pv O, Φ pv O → Φ' pv O) : AE X e ρ O Φ' := fun as F σ H w r =>
  tE_mono (h as F σ H w r) fun v H' ⟨pv, O1, as1, F1, w1, g, e1, rp, q⟩ => ⟨pv, O1, as1, F1, w1, g, e1, rp, k _ _ q⟩
/-! ### names, constants -/
theorem ae_var (i : Nat) {x : Str} {pv : PV} (h : ρ[i]? = some (some pv)) (k : Φ pv O) (hN : X.N[i]? = some x := by rfl) (hv : Vis X.env.scope x := by first | exact Or.inl rfl | exact Or.inr (Or.inl rfl) | exact Or.inr (Or.inr rfl)) (hd : (x == ("__debug__" : Str)) = false := by decide)
    (hcd : (x == ("__classdict__" : Str)) = false := by decide) : AE X (.Name x pos) ρ O Φ := fun as F σ H w r => by
  obtain ⟨v, e1, rp⟩ := r.get h
  exact tE_of (pe_var hN hv hd hcd) ⟨v, e1, PQ.mk w rp k⟩
theorem ae_int {i : Int} {j : Nat} (k : Φ (.d (.int i)) O) : AE X (.Constant (.int i) j pos) ρ O Φ := fun as F σ H w r => tE_of pe_int (PQ.mk (pv := .d (.int i)) w (.int i) k)
theorem ae_bl {i : Bool} {j : Nat} (k : Φ (.d (.bool i)) O) : AE X (.Constant (.bool i) j pos) ρ O Φ := fun as F σ H w r => tE_of pe_bl (PQ.mk (pv := .d (.bool i)) w (.bl i) k)
theorem ae_non {j : Nat} (k : Φ (.d .none) O) : AE X (.Constant .none j pos) ρ O Φ := fun as F σ H w r => tE_of pe_non (PQ.mk (pv := .d .none) w .non k)
theorem ae_str {i : Str} {j : Nat} (k : Φ (.d (.str i)) O) : AE X (.Constant (.str i) j pos) ρ O Φ := fun as F σ H w r => tE_of pe_str (PQ.mk (pv := .d (.str i)) w (.str i) k)
/-- a global of plain value: rel says what it is worth -/
theorem ae_glob {x : Str} {u : Value} {v : V} {pv : PV} (hg : Gl X.c x) (hm : X.mg x = some u) (r : RelV v u) (rp : ∀ F as, RPV X.k F as pv v) (k : Φ pv O) (hd : (x == ("__debug__" : Str)) = false := by decide) : AE X (.Name x pos) ρ O Φ := fun as F σ H w _ =>
  tE_of (pe_glob hg hm r hd) (PQ.mk w (rp _ _) k)
theorem ae_bltn {x : Str} {u : Value} {v : V} (hg : Gl X.c x) (hm : X.mg x = none) (hv : bootBuiltins x = some u) (r : RelV v u) (k : Φ (.v v) O) (hn : x ≠ "__name__" := by decide) (hd : (x == ("__debug__" : Str)) = false := by decide) : AE X (.Name x pos) ρ O Φ := fun as F σ H w _ =>
  tE_of (pe_bltn hg hm hv r hn hd) (PQ.mk (pv := .v v) w rfl k)
/-! ### operators by values -/
@[irreducible] def rB (X : Cx) (f : Value → Value → Sem Value) : R2 := fun vx vy H Q => ∀ pins s σ v u, Inv X pins σ H s → RelV vx v → RelV vy u → wpAny (model X.prog X.w) X.A (f v u) (EP X pins σ Q) X.xe s
theorem op_rB {f : Value → Value → Sem Value} : OpR X.c f (rB X.c f) := fun pins s σ _ _ _ v u _ I rx ry h => by unfold rB at h; exact h pins s σ v u I rx ry
theorem rB_of {f : Value → Value → Sem Value} {r : R2} {vx vy : V} {Q : VK} (h : OpR X.c f r) (k : r vx vy H Q) : rB X.c f vx vy H Q := by unfold rB; exact fun pins s σ v u I r1 r2 => h pins s σ H vx vy v u _ I r1 r2 k
theorem rB_mono {f : Value → Value → Sem Value} {vx vy : V} {Q Q' : VK} (h : rB X.c f vx vy H Q) (k : ∀ v H', Q v H' → Q' v H') : rB X.c f vx vy H Q' := by
  unfold rB at h ⊢
  exact fun pins s σ v u I r1 r2 => thn (h pins s σ v u I r1 r2) fun _ _ ⟨v3, H3, I3, r3, z⟩ => ⟨v3, H3, I3, r3, k _ _ z⟩
def BinA (X : Ax) (f : Value → Value → Sem Value) (x y : PV) (O : Own) (Φ : PV → Own → Prop) : Prop := ∀ as F H vx vy, Wd X.k O as F H → RPV X.k F as x vx → RPV X.k F as y vy → rB X.c f vx vy H (PQ X.k as F Φ)
theorem bina_of {f : Value → Value → Sem Value} {r : R2} {x y : PV} (h : OpR X.c f r) (k : ∀ as F H vx vy, Wd X.k O as F H → RPV X.k F as x vx → RPV X.k F as y vy → r vx vy H (PQ X.k as F Φ)) : BinA X f x y O Φ :=
  fun as F H vx vy w rx ry => rB_of h (k as F H vx vy w rx ry)
theorem ae_bin {op : Operator} (h : AE X a ρ O fun x O1 => AE X b ρ O1 fun y O2 => BinA X (binaryOp op) x y O2 Φ) : AE X (.BinOp a op b pos) ρ O Φ := fun as F σ H w r => by
  refine tE_of (pe_op op_rB pe_tE pe_tE) ?_
  refine h.run w r fun x O1 as1 F1 v1 H1 w1 g1 s1 rx r1 h1 => ?_
  refine h1.run w1 r1 fun y O2 as2 F2 v2 H2 w2 g2 s2 ry r2 h2 => ?_
  exact rB_mono (h2 as2 F2 H2 v1 v2 w2 (rx.mono s2 g2) ry) fun _ _ z => z.back (g1.trans g2) (s1.trans s2)
theorem ae_cmp {op : CmpOp} (h : AE X a ρ O fun x O1 => AE X b ρ O1 fun y O2 => BinA X (compareOp op) x y O2 Φ) (hm : behindInMarks op b = false := by first | exact nobehind _ (by decide) (by decide) | rfl) : AE X (.Compare a [op] [b] pos) ρ O Φ := fun as F σ H w r => by
  refine tE_of (pe_cmpR op_rB pe_tE pe_tE hm) ?_
  refine h.run w r fun x O1 as1 F1 v1 H1 w1 g1 s1 rx r1 h1 => ?_
  refine h1.run w1 r1 fun y O2 as2 F2 v2 H2 w2 g2 s2 ry r2 h2 => ?_
  exact rB_mono (h2 as2 F2 H2 v1 v2 w2 (rx.mono s2 g2) ry) fun _ _ z => z.back (g1.trans g2) (s1.trans s2)
/-- an answer that is a bool -/
def IsB (Φ : Bool → Own → Prop) : PV → Own → Prop := fun x O => ∃ k, x = .d (.bool k) ∧ Φ k O
theorem chain_reads {op op' : CmpOp} {Q : VK} (h : AE X a ρ O fun x O1 => AE X b ρ O1 fun y O2 => BinA X (compareOp op) x y O2 (IsB fun k O3 => if k = true then AE X c ρ O3 fun z O4 => BinA X (compareOp op') y z O4 Φ else Φ (.d (.bool false)) O3))
    (w : Wd X.k O as F H) (r : RS X.k F as ρ σ) (hQ : ∀ v H', PQ X.k as F Φ v H' → Q v H') : tChain (rB X.c (compareOp op)) (rB X.c (compareOp op')) (tE X.c a) (tE X.c b) (tE X.c c) σ H Q := by
  refine h.run w r fun x O1 as1 F1 v1 H1 w1 g1 s1 rx r1 h1 => ?_
  refine h1.run w1 r1 fun y O2 as2 F2 v2 H2 w2 g2 s2 ry r2 h2 => ?_
  refine rB_mono (h2 as2 F2 H2 v1 v2 w2 (rx.mono s2 g2) ry) fun v3 H3 ⟨pv, O3, as3, F3, w3, g3, s3, rp, k, e1, z⟩ => ?_
  subst e1
  cases (show Dq F3 v3 (.bool k) from rp)
  refine ⟨k, rfl, ?_⟩
  have r3' := r2.mono s3 g3
  cases k with
  | false =>
    simp only [Bool.false_eq_true, if_false] at z ⊢
    exact hQ _ _ ⟨.d (.bool false), O3, as3, F3, w3, (g1.trans g2).trans g3, (s1.trans s2).trans s3, .bl false, z⟩
  | true =>
    simp only [if_true] at z ⊢
    refine z.run w3 r3' fun t O4 as4 F4 v4 H4 w4 g4 s4 rt r4 h4 => ?_
    exact rB_mono (h4 as4 F4 H4 v2 v4 w4 (ry.mono (s3.trans s4) (g3.trans g4)) rt) fun _ _ z => hQ _ _ (z.back (((g1.trans g2).trans g3).trans g4) (((s1.trans s2).trans s3).trans s4))
theorem ae_chain {op op' : CmpOp} (h : AE X a ρ O fun x O1 => AE X b ρ O1 fun y O2 => BinA X (compareOp op) x y O2 (IsB fun k O3 => if k = true then AE X c ρ O3 fun z O4 => BinA X (compareOp op') y z O4 Φ else Φ (.d (.bool false)) O3))
    (hm : lastMarks [op, op'] [b, c] = false := by with_unfolding_all rfl) : AE X (.Compare a [op, op'] [b, c] pos) ρ O Φ := fun as F σ H w r =>
  tE_of (pe_chain op_rB op_rB pe_tE pe_tE pe_tE hm) (chain_reads h w r fun _ _ z => z)
theorem at_chain {op op' : CmpOp} {Ψ : Bool → Own → Prop} (h : AE X a ρ O fun x O1 => AE X b ρ O1 fun y O2 => BinA X (compareOp op) x y O2 (IsB fun k O3 => if k = true then AE X c ρ O3 fun z O4 => BinA X (compareOp op') y z O4 (IsB Ψ) else Ψ false O3))
    (hm : lastMarks [op, op'] [b, c] = false := by with_unfolding_all rfl) : AT X (.Compare a [op, op'] [b, c] pos) ρ O Ψ := fun as F σ H w r => by
  refine tT_of (pt_chain op_rB op_rB pe_tE pe_tE pe_tE hm) (chain_reads (Φ := IsB Ψ) (h.mono fun x O1 h1 => h1.mono fun y O2 h2 => ?_) w r fun v H' z => ?_)
  · intro as F H vx vy w rx ry
    refine rB_mono (h2 as F H vx vy w rx ry) fun v3 H3 ⟨pv, O3, as3, F3, w3, g3, s3, rp, k, e1, z⟩ => ⟨pv, O3, as3, F3, w3, g3, s3, rp, k, e1, ?_⟩
    cases k with
    | true => exact z
    | false => exact ⟨false, rfl, z⟩
  · obtain ⟨pv, O', as', F', w', g', s', rp, k, e, q⟩ := z
    subst e
    cases (show Dq F' v (.bool k) from rp)
    exact ⟨k, rfl, O', as', F', w', g', s', q⟩
@[irreducible] def rU1 (X : Cx) (f : Value → Sem Value) : V → Hp → VK → Prop := fun vx H Q => ∀ pins s σ v, Inv X pins σ H s → RelV vx v → wpAny (model X.prog X.w) X.A (f v) (EP X pins σ Q) X.xe s
def UnA (X : Ax) (f : Value → Sem Value) (x : PV) (O : Own) (Φ : PV → Own → Prop) : Prop := ∀ as F H vx, Wd X.k O as F H → RPV X.k F as x vx → rU1 X.c f vx H (PQ X.k as F Φ)
theorem ae_un {op : UnaryOp} (h : AE X a ρ O fun x O1 => UnA X (unaryOp op) x O1 Φ) : AE X (.UnaryOp op a pos) ρ O Φ := fun as F σ H w r => by
  refine tE_of (pe_un (r := rU1 X.c (unaryOp op)) (fun pins s σ _ _ v _ I rx h => by unfold rU1 at h; exact h pins s σ v I rx) pe_tE) ?_
  refine h.run w r fun x O1 as1 F1 v1 H1 w1 g1 s1 rx r1 h1 => ?_
  have z1 := h1 as1 F1 H1 v1 w1 rx
  unfold rU1 at z1 ⊢
  exact fun pins s σ' v I q1 => thn (z1 pins s σ' v I q1) fun _ _ ⟨v3, H3, I3, r3, z⟩ => ⟨v3, H3, I3, r3, z.back g1 s1⟩
/-! ### and, or, not, if, as values -/
theorem ae_one {op : BoolOp} (h : AE X a ρ O Φ) : AE X (.BoolOp op [a] pos) ρ O Φ := fun as F σ H w r => tE_of (pe_one pe_tE) (h as F σ H w r)
theorem ae_and {rest : List Expr} (h : AE X a ρ O (IsB fun k O1 => if k = true then AE X (.BoolOp .And (b :: rest) pos) ρ O1 Φ else Φ (.d (.bool false)) O1)) : AE X (.BoolOp .And (a :: b :: rest) pos) ρ O Φ := fun as F σ H w r => by
  refine tE_of (pe_and pe_tE pe_tE) ?_
  refine h.run w r fun x O1 as1 F1 v1 H1 w1 g1 s1 rx r1 ⟨k, e1, z⟩ => ?_
  subst e1
  cases (show Dq F1 v1 (.bool k) from rx)
  refine ⟨k, rfl, ?_⟩
  cases k with
  | false =>
    simp only [Bool.false_eq_true, if_false] at z ⊢
    exact ⟨.d (.bool false), O1, as1, F1, w1, g1, s1, .bl false, z⟩
  | true =>
    simp only [if_true] at z ⊢
    exact tE_mono (z as1 F1 σ H1 w1 r1) fun _ _ q => q.back g1 s1
theorem ae_or {rest : List Expr} (h : AE X a ρ O (IsB fun k O1 => if k = true then Φ (.d (.bool true)) O1 else AE X (.BoolOp .Or (b :: rest) pos) ρ O1 Φ)) : AE X (.BoolOp .Or (a :: b :: rest) pos) ρ O Φ := fun as F σ H w r => by
  refine tE_of (pe_or pe_tE pe_tE) ?_
  refine h.run w r fun x O1 as1 F1 v1 H1 w1 g1 s1 rx r1 ⟨k, e1, z⟩ => ?_
  subst e1
  cases (show Dq F1 v1 (.bool k) from rx)
  refine ⟨k, rfl, ?_⟩
  cases k with
  | true =>
    simp only [if_true] at z ⊢
    exact ⟨.d (.bool true), O1, as1, F1, w1, g1, s1, .bl true, z⟩
  | false =>
    simp only [Bool.false_eq_true, if_false] at z ⊢
    exact tE_mono (z as1 F1 σ H1 w1 r1) fun _ _ q => q.back g1 s1
theorem ae_not (h : AE X a ρ O (IsB fun k O1 => Φ (.d (.bool (!k))) O1)) : AE X (.UnaryOp .Not a pos) ρ O Φ := fun as F σ H w r => by
  refine tE_of (pe_not pe_tE) ?_
  refine h.run w r fun x O1 as1 F1 v1 H1 w1 g1 s1 rx r1 ⟨k, e1, z⟩ => ?_
  subst e1
  cases (show Dq F1 v1 (.bool k) from rx)
  exact ⟨k, rfl, .d (.bool (!k)), O1, as1, F1, w1, g1, s1, .bl (!k), z⟩
theorem ae_if (h : AT X c ρ O fun k O1 => if k = true then AE X a ρ O1 Φ else AE X b ρ O1 Φ) : AE X (.IfExp c a b pos) ρ O Φ := fun as F σ H w r => by
  refine tE_of (pe_ifExp pt_tT pe_tE pe_tE) ?_
  refine h.run w r fun k O1 as1 F1 H1 w1 g1 s1 r1 z => ?_
  cases k with
  | true =>
    simp only [if_true] at z ⊢
    exact tE_mono (z as1 F1 σ H1 w1 r1) fun _ _ q => q.back g1 s1
  | false =>
    simp only [Bool.false_eq_true, if_false] at z ⊢
    exact tE_mono (z as1 F1 σ H1 w1 r1) fun _ _ q => q.back g1 s1
/-! ### tests -/
variable {Ψ : Bool → Own → Prop}
theorem at_val (h : AE X e ρ O (IsB Ψ)) (he : ∀ whole, isTrue e X.env whole = (do let v ← whole; standAt e.pos; holding [v] (truthy v)) := by intro _; rfl) : AT X e ρ O Ψ := fun as F σ H w r => by
  refine tT_of (pt_val pe_tE he) ?_
  refine h.run w r fun x O1 as1 F1 v1 H1 w1 g1 s1 rx r1 ⟨k, e1, z⟩ => ?_
  subst e1
  cases (show Dq F1 v1 (.bool k) from rx)
  exact ⟨k, rfl, O1, as1, F1, w1, g1, s1, z⟩
theorem at_cmp {op : CmpOp} (h : AE X a ρ O fun x O1 => AE X b ρ O1 fun y O2 => BinA X (compareOp op) x y O2 (IsB Ψ)) (hm : behindInMarks op b = false := by first | exact nobehind _ (by decide) (by decide) | rfl) : AT X (.Compare a [op] [b] pos) ρ O Ψ := fun as F σ H w r => by
  refine tT_of (pt_cmpR op_rB pe_tE pe_tE hm) ?_
  refine h.run w r fun x O1 as1 F1 v1 H1 w1 g1 s1 rx r1 h1 => ?_
  refine h1.run w1 r1 fun y O2 as2 F2 v2 H2 w2 g2 s2 ry r2 h2 => ?_
  refine rB_mono (h2 as2 F2 H2 v1 v2 w2 (rx.mono s2 g2) ry) fun v3 H3 ⟨pv, O3, as3, F3, w3, g3, s3, rp, k, e1, z⟩ => ?_
  subst e1
  cases (show Dq F3 v3 (.bool k) from rp)
  exact ⟨k, rfl, O3, as3, F3, w3, (g1.trans g2).trans g3, (s1.trans s2).trans s3, z⟩
theorem at_w (h : AW X e ρ O Ψ) : AT X e ρ O Ψ := fun as F σ H w r => tT_of (pw_tW.pt) (h as F σ H w r)
theorem aw_and1 (h : AT X a ρ O Ψ) : AW X (.BoolOp .And [a] pos) ρ O Ψ := fun as F σ H w r => tW_of (pw_and1 pt_tT) (h as F σ H w r)
theorem aw_or1 (h : AT X a ρ O Ψ) : AW X (.BoolOp .Or [a] pos) ρ O Ψ := fun as F σ H w r => tW_of (pw_or1 pt_tT) (h as F σ H w r)
theorem aw_and {rest : List Expr} (h : AT X a ρ O fun k O1 => if k = true then AW X (.BoolOp .And (b :: rest) pos) ρ O1 Ψ else Ψ false O1) : AW X (.BoolOp .And (a :: b :: rest) pos) ρ O Ψ := fun as F σ H w r => by
  refine tW_of (pw_and pt_tT pw_tW) ?_
  refine h.run w r fun k O1 as1 F1 H1 w1 g1 s1 r1 z => ?_
  cases k with
  | true =>
    simp only [if_true] at z ⊢
    exact tW_mono (z as1 F1 σ H1 w1 r1) fun _ _ q => q.back g1 s1
  | false =>
    simp only [Bool.false_eq_true, if_false] at z ⊢
    exact ⟨O1, as1, F1, w1, g1, s1, z⟩
theorem aw_or {rest : List Expr} (h : AT X a ρ O fun k O1 => if k = true then Ψ true O1 else AW X (.BoolOp .Or (b :: rest) pos) ρ O1 Ψ) : AW X (.BoolOp .Or (a :: b :: rest) pos) ρ O Ψ := fun as F σ H w r => by
  refine tW_of (pw_or pt_tT pw_tW) ?_
  refine h.run w r fun k O1 as1 F1 H1 w1 g1 s1 r1 z => ?_
  cases k with
  | false =>
    simp only [Bool.false_eq_true, if_false] at z ⊢
    exact tW_mono (z as1 F1 σ H1 w1 r1) fun _ _ q => q.back g1 s1
  | true =>
    simp only [if_true] at z ⊢
    exact ⟨O1, as1, F1, w1, g1, s1, z⟩
theorem at_not (h : AT X a ρ O fun k O1 => Ψ (!k) O1) : AT X (.UnaryOp .Not a pos) ρ O Ψ := fun as F σ H w r => tT_of (pt_not pt_tT) (h as F σ H w r)
/-! ### arguments, displays -/
theorem aa_nil {Φ : List PV → Own → Prop} (k : Φ [] O) : AA X [] ρ O Φ := fun as F σ H w r => tA_of pa_nil ⟨[], O, as, F, w, Gr.refl _, Same.refl _, .nil, k⟩
theorem aa_cons {Φ : List PV → Own → Prop} (h : AE X e ρ O fun x O1 => AA X es ρ O1 fun xs O2 => Φ (x :: xs) O2) (hs : starEach (e :: es) X.env = (false, eval e X.env) :: starEach es X.env := by rfl) : AA X (e :: es) ρ O Φ := fun as F σ H w r => by
  refine tA_of (pa_cons pe_tE pa_tA hs) ?_
  refine h.run w r fun x O1 as1 F1 v1 H1 w1 g1 s1 rx r1 h1 => ?_
  refine h1.run w1 r1 fun xs O2 as2 F2 v2 H2 w2 g2 s2 ry r2 h2 => ?_
  exact ⟨x :: xs, O2, as2, F2, w2, g1.trans g2, s1.trans s2, .cons (rx.mono s2 g2) ry, h2⟩
theorem RPs.len {K : KF} {F : Hp} {as : List Addr} {xs : List PV} {vs : List V} (h : RPs K F as xs vs) : xs.length = vs.length := Paired.length h
/-- a display of data: frozen at once -/
theorem ae_tupD {x1 : Nat} (h : AA X es ρ O fun xs O1 => ∃ ds, xs = ds.map PV.d ∧ ds.length ≤ 16000000 ∧ Φ (.d (.tuple ds)) O1) : AE X (.Tuple es x1 pos) ρ O Φ := fun as F σ H w r => by
  refine tE_of (pe_tup pa_tA) ?_
  refine h.run w r fun xs O1 as1 F1 vs H1 w1 g1 s1 rx r1 ⟨ds, e1, hl, q⟩ => ?_
  subst e1
  have l := rx.len
  rw [List.length_map] at l
  refine ⟨by rw [← l, sizeLine_eq]; omega, fun p hp => ?_⟩
  obtain ⟨w2, s2⟩ := w1.data (h := .tup vs) hp
  exact ⟨.d (.tuple ds), O1, as1, _, w2, g1, s1.trans s2, .tup upd_same (DqAll_same s2 (rps_data rx)), q⟩
theorem ae_lstD (h : AA X es ρ O fun xs O1 => ∃ ds, xs = ds.map PV.d ∧ ds.length ≤ 16000000 ∧ Φ (.d (.list ds)) O1) : AE X (.List es pos) ρ O Φ := fun as F σ H w r => by
  refine tE_of (pe_lst pa_tA) ?_
  refine h.run w r fun xs O1 as1 F1 vs H1 w1 g1 s1 rx r1 ⟨ds, e1, hl, q⟩ => ?_
  subst e1
  have l := rx.len
  rw [List.length_map] at l
  refine ⟨by rw [← l, sizeLine_eq]; omega, fun p hp => ?_⟩
  obtain ⟨w2, s2⟩ := w1.data (h := .lst vs) hp
  exact ⟨.d (.list ds), O1, as1, _, w2, g1, s1.trans s2, .lst upd_same (DqAll_same s2 (rps_data rx)), q⟩
theorem Wd.at_new {K : KF} (w : Wd K O as F H) (p : Addr) : (as ++ [p])[O.length]? = some p := by
  rw [List.getElem?_append_right (by rw [w.len]; exact Nat.le_refl _), w.len]
  simp
/-- a display, owned -/
theorem ae_lstO (h : AA X es ρ O fun xs O1 => xs.length ≤ 16000000 ∧ Φ (.o O1.length) (O1 ++ [.lst xs])) : AE X (.List es pos) ρ O Φ := fun as F σ H w r => by
  refine tE_of (pe_lst pa_tA) ?_
  refine h.run w r fun xs O1 as1 F1 vs H1 w1 g1 s1 rx r1 ⟨hl, q⟩ => ?_
  have l := rx.len
  refine ⟨by rw [← l, sizeLine_eq]; omega, fun p hp => ?_⟩
  have w2 := w1.new (ob := .lst xs) (h := .lst vs) hp ⟨vs, rfl, rx⟩ (fun z => nomatch z)
  exact ⟨.o O1.length, _, _, F1, w2, g1.trans (Gr.app _ _), s1, ⟨p, w1.at_new p, rfl⟩, q⟩
theorem ae_tupO {x1 : Nat} (h : AA X es ρ O fun xs O1 => xs.length ≤ 16000000 ∧ Φ (.o O1.length) (O1 ++ [.tup xs])) : AE X (.Tuple es x1 pos) ρ O Φ := fun as F σ H w r => by
  refine tE_of (pe_tup pa_tA) ?_
  refine h.run w r fun xs O1 as1 F1 vs H1 w1 g1 s1 rx r1 ⟨hl, q⟩ => ?_
  have l := rx.len
  refine ⟨by rw [← l, sizeLine_eq]; omega, fun p hp => ?_⟩
  have w2 := w1.new (ob := .tup xs) (h := .tup vs) hp ⟨vs, rfl, rx⟩ (fun z => nomatch z)
  exact ⟨.o O1.length, _, _, F1, w2, g1.trans (Gr.app _ _), s1, ⟨p, w1.at_new p, rfl⟩, q⟩
/-! ### subscripts, slices -/
@[irreducible] def rIxX (X : Cx) : R2 := fun vx vy H Q => ∀ value slice pins s σ v u, Inv X pins σ H s → RelV vx v → RelV vy u → subscripted slice false v u = operate [v, u] (getItem v u) → wpAny (model X.prog X.w) X.A (subscriptTail value slice v u) (EP X pins σ Q) X.xe s
theorem ix_rIxX : IxR X.c (rIxX X.c) := fun value slice pins s σ _ _ _ v u _ I rx ry h hs => by unfold rIxX at h; exact h value slice pins s σ v u I rx ry hs
def IxA (X : Ax) (x y : PV) (O : Own) (Φ : PV → Own → Prop) : Prop := ∀ as F H vx vy, Wd X.k O as F H → RPV X.k F as x vx → RPV X.k F as y vy → rIxX X.c vx vy H (PQ X.k as F Φ)
theorem ixa_of {r : R2} {x y : PV} (h : IxR X.c r) (k : ∀ as F H vx vy, Wd X.k O as F H → RPV X.k F as x vx → RPV X.k F as y vy → r vx vy H (PQ X.k as F Φ)) : IxA X x y O Φ :=
  fun as F H vx vy w rx ry => by unfold rIxX; exact fun value slice pins s σ v u I r1 r2 hs => h value slice pins s σ H vx vy v u _ I r1 r2 (k as F H vx vy w rx ry) hs
theorem ae_ix (h : AE X a ρ O fun x O1 => AE X b ρ O1 fun y O2 => IxA X x y O2 Φ) (hs : PlainIx b := by exact fun _ _ => rfl) : AE X (.Subscript a b pos) ρ O Φ := fun as F σ H w r => by
  refine tE_of (pe_ix ix_rIxX pe_tE pe_tE hs) ?_
  refine h.run w r fun x O1 as1 F1 v1 H1 w1 g1 s1 rx r1 h1 => ?_
  refine h1.run w1 r1 fun y O2 as2 F2 v2 H2 w2 g2 s2 ry r2 h2 => ?_
  have z1 := h2 as2 F2 H2 v1 v2 w2 (rx.mono s2 g2) ry
  unfold rIxX at z1 ⊢
  exact fun value slice pins s σ' v u I q1 q2 hp => thn (z1 value slice pins s σ' v u I q1 q2 hp) fun _ _ ⟨v3, H3, I3, r3, z⟩ => ⟨v3, H3, I3, r3, z.back (g1.trans g2) (s1.trans s2)⟩
def AO1 (X : Ax) (e : Option Expr) (ρ : Env1) (O : Own) (Φ : Option Int → Own → Prop) : Prop := match e with
  | none => Φ none O
  | some e => AE X e ρ O fun x O1 => ∃ i, x = .d (.int i) ∧ Φ (some i) O1
def tOp1 (X : Cx) (e : Option Expr) : TO := match e with
  | none => tNoPart
  | some e => tPart (tE X e)
theorem po_tOp1 {e : Option Expr} : PO X.c e (tOp1 X.c e) := by
  cases e with
  | none => exact po_none
  | some e => exact po_some pe_tE
/-- the slice's rule is fixed by the sliced thing's form; kr: which -/
theorem ae_slice {lo hi : Option Expr} {R : V → Option Int → Option Int → Hp → VK → Prop} (hr : SlR X.c R) (hm : ∀ v i j H Q Q', R v i j H Q → (∀ z H', Q z H' → Q' z H') → R v i j H Q')
    (h : AE X e ρ O fun x O1 => AO1 X lo ρ O1 fun i O2 => AO1 X hi ρ O2 fun j O3 => ∀ as F H vx, Wd X.k O3 as F H → RPV X.k F as x vx → R vx i j H (PQ X.k as F Φ)) : AE X (.Subscript e (.Slice lo hi none p2) pos) ρ O Φ := fun as F σ H w r => by
  refine tE_of (pe_slice hr pe_tE po_tOp1 po_tOp1) ?_
  refine h.run w r fun x O1 as1 F1 v1 H1 w1 g1 s1 rx r1 h1 => ?_
  have two : ∀ (i : Option Int) (O2 : Own) (as2 : List Addr) (F2 H2 : Hp), Wd X.k O2 as2 F2 H2 → Gr as1 as2 → Same F1 F2 → RS X.k F2 as2 ρ σ → (AO1 X hi ρ O2 fun j O3 => ∀ as F H vx, Wd X.k O3 as F H → RPV X.k F as x vx → R vx i j H (PQ X.k as F Φ)) →
      tOp1 X.c hi σ H2 fun j H3 => R v1 i j H3 (PQ X.k as F Φ) := fun i O2 as2 F2 H2 w2 g2 s2 r2 h2 => by
    cases hi with
    | none => exact hm _ _ _ _ _ _ (h2 as2 F2 H2 v1 w2 (rx.mono s2 g2)) fun _ _ z => PQ.back (g1.trans g2) (s1.trans s2) z
    | some hi =>
      refine AE.run h2 w2 r2 fun y O3 as3 F3 v3 H3 w3 g3 s3 ry r3 ⟨j, e3, h3⟩ => ?_
      subst e3
      cases (show Dq F3 v3 (.int j) from ry)
      exact ⟨j, rfl, hm _ _ _ _ _ _ (h3 as3 F3 H3 v1 w3 (rx.mono (s2.trans s3) (g2.trans g3))) fun _ _ z => PQ.back ((g1.trans g2).trans g3) ((s1.trans s2).trans s3) z⟩
  cases lo with
  | none => exact two none O1 as1 F1 H1 w1 (Gr.refl _) (Same.refl _) r1 h1
  | some lo =>
    refine AE.run h1 w1 r1 fun y O2 as2 F2 v2 H2 w2 g2 s2 ry r2 ⟨i, e2, h2⟩ => ?_
    subst e2
    cases (show Dq F2 v2 (.int i) from ry)
    exact ⟨i, rfl, two (some i) O2 as2 F2 H2 w2 g2 s2 r2 h2⟩
/-! ### calls of built-ins -/
@[irreducible] def rCX (X : Cx) (f : Value) : List V → Hp → VK → Prop := fun xs H Q => ∀ pins s σ us, Inv X pins σ H s → Vals xs us → wpAny (model X.prog X.w) X.A (call f us) (EP X pins σ Q) X.xe s
theorem cr_rCX {f : Value} : CallR X.c f (rCX X.c f) := fun pins s σ _ _ us _ I r h => by unfold rCX at h; exact h pins s σ us I r
def CallA (X : Ax) (f : Value) (xs : List PV) (O : Own) (Φ : PV → Own → Prop) : Prop := ∀ as F H vs, Wd X.k O as F H → RPs X.k F as xs vs → rCX X.c f vs H (PQ X.k as F Φ)
theorem calla_of {f : Value} {r : List V → Hp → VK → Prop} {xs : List PV} (h : CallR X.c f r) (k : ∀ as F H vs, Wd X.k O as F H → RPs X.k F as xs vs → r vs H (PQ X.k as F Φ)) : CallA X f xs O Φ :=
  fun as F H vs w rx => by unfold rCX; exact fun pins s σ us I r1 => h pins s σ H vs us _ I r1 (k as F H vs w rx)
theorem ae_callB {x : Str} {id : String} (hg : Gl X.c x) (hm : X.mg x = none) (hv : bootBuiltins x = some (.builtin id)) (h : AA X (e :: es) ρ O fun xs O1 => CallA X (.builtin id) xs O1 Φ) (hn : x ≠ "__name__" := by decide) (hdb : (x == ("__debug__" : Str)) = false := by decide)
    (he : starEach (e :: es) X.env = (false, eval e X.env) :: starEach es X.env := by rfl) (hpl : (backTo pos (starEach es X.env)).any (·.1) = false := by rfl) : AE X (.Call (.Name x p) (e :: es) [] pos) ρ O Φ := fun as F σ H w r => by
  refine tE_of (pe_callB cr_rCX hg hm hv pa_tA hn hdb he hpl) ?_
  refine h.run w r fun xs O1 as1 F1 v1 H1 w1 g1 s1 rx r1 h1 => ?_
  have z1 := h1 as1 F1 H1 v1 w1 rx
  unfold rCX at z1 ⊢
  exact fun pins s σ' us I q1 => thn (z1 pins s σ' us I q1) fun _ _ ⟨v3, H3, I3, r3, z⟩ => ⟨v3, H3, I3, r3, z.back g1 s1⟩
theorem ae_callTy {x : Str} {T : String} (hg : Gl X.c x) (hm : X.mg x = none) (hv : bootBuiltins x = some (.type T)) (h : AA X (e :: es) ρ O fun xs O1 => CallA X (.type T) xs O1 Φ) (hn : x ≠ "__name__" := by decide) (hdb : (x == ("__debug__" : Str)) = false := by decide)
    (he : starEach (e :: es) X.env = (false, eval e X.env) :: starEach es X.env := by rfl) (hpl : (backTo pos (starEach es X.env)).any (·.1) = false := by rfl) : AE X (.Call (.Name x p) (e :: es) [] pos) ρ O Φ := fun as F σ H w r => by
  refine tE_of (pe_callTy cr_rCX hg hm hv pa_tA hn hdb he hpl) ?_
  refine h.run w r fun xs O1 as1 F1 v1 H1 w1 g1 s1 rx r1 h1 => ?_
  have z1 := h1 as1 F1 H1 v1 w1 rx
  unfold rCX at z1 ⊢
  exact fun pins s σ' us I q1 => thn (z1 pins s σ' us I q1) fun _ _ ⟨v3, H3, I3, r3, z⟩ => ⟨v3, H3, I3, r3, z.back g1 s1⟩
/-! ### methods of built-in types -/
@[irreducible] def rMX (X : Cx) (id : String) : V → List V → Hp → VK → Prop := fun x xs H Q => ∀ pins s σ v us, Inv X pins σ H s → RelV x v → Vals xs us → wpAny (model X.prog X.w) X.A (call (.builtin id) (v :: us)) (EP X pins σ Q) X.xe s
theorem mt_rMX {id : String} : MtR X.c id (rMX X.c id) := fun pins s σ _ _ _ v us _ I rx r h => by unfold rMX at h; exact h pins s σ v us I rx r
theorem rMX_mono {id : String} {x : V} {xs : List V} {Q Q' : VK} (h : rMX X.c id x xs H Q) (k : ∀ v H', Q v H' → Q' v H') : rMX X.c id x xs H Q' := by
  unfold rMX at h ⊢
  exact fun pins s σ v us I q1 q2 => thn (h pins s σ v us I q1 q2) fun _ _ ⟨v3, H3, I3, r3, z⟩ => ⟨v3, H3, I3, r3, k _ _ z⟩
def TyA (X : Ax) (T : String) (x : PV) (O : Own) : Prop := ∀ as F H v, Wd X.k O as F H → RPV X.k F as x v → tyV X.K T v H
def MtA (X : Ax) (id : String) (x : PV) (xs : List PV) (O : Own) (Φ : PV → Own → Prop) : Prop := ∀ as F H v vs, Wd X.k O as F H → RPV X.k F as x v → RPs X.k F as xs vs → rMX X.c id v vs H (PQ X.k as F Φ)
theorem mta_of {id : String} {r : V → List V → Hp → VK → Prop} {x : PV} {xs : List PV} (h : MtR X.c id r) (k : ∀ as F H v vs, Wd X.k O as F H → RPV X.k F as x v → RPs X.k F as xs vs → r v vs H (PQ X.k as F Φ)) : MtA X id x xs O Φ :=
  fun as F H v vs w rx rxs => by unfold rMX; exact fun pins s σ u us I r1 r2 => h pins s σ H v vs u us _ I r1 r2 (k as F H v vs w rx rxs)
theorem ae_bm {o : Expr} {T id : String} {name : Str} {apos : Pos} (pa : PlainAttrs T) (slot : Slot T name id) (hty : typeOf (.builtin id) = pure (.type "method_descriptor")) (h : AE X o ρ O fun x O1 => TyA X T x O1 ∧ AA X (e :: es) ρ O1 fun xs O2 => MtA X id x xs O2 Φ)
    (hbase : attributeBase o name X.env (eval o X.env) = eval o X.env := by rfl)
    (hfew : ((backTo pos (starEach (e :: es) X.env)).all (fun x => !x.1) && (backToKw pos (keywordEach [] X.env)).all (fun x => x.1.isSome)
      && decide ((e :: es).length + ([] : List Keyword).length + (if ([] : List Keyword).isEmpty then 0 else 1) < 30)) = true := by rfl)
    (hline : (apos.endLine == pos.line) = true := by rfl) (hs : starEach (e :: es) X.env = (false, eval e X.env) :: starEach es X.env := by rfl) (hplain : (backTo pos (starEach es X.env)).any (·.1) = false := by rfl) : AE X (.Call (.Attribute o name apos) (e :: es) [] pos) ρ O Φ := fun as F σ H w r => by
  refine tE_of (pe_bm pa slot hty mt_rMX pe_tE pa_tA hbase hfew hline hs hplain) ?_
  refine h.run w r fun x O1 as1 F1 v1 H1 w1 g1 s1 rx r1 ⟨ty, h1⟩ => ?_
  refine ⟨ty as1 F1 H1 v1 w1 rx, h1.run w1 r1 fun xs O2 as2 F2 v2 H2 w2 g2 s2 ry r2 h2 => ?_⟩
  exact rMX_mono (h2 as2 F2 H2 v1 v2 w2 (rx.mono s2 g2) ry) fun _ _ z => z.back (g1.trans g2) (s1.trans s2)
end
end Al
namespace Al
open PySem PySem.Spec L2
open PyProof.Rows hiding St
/-! ### ghosts: freezing, letting go -/
def PV.blw (m : Nat) : PV → Bool
  | .o i => decide (i < m)
  | .p y z => y.blw m && z.blw m
  | _ => true
def AO.below (m : Nat) : AO → Bool
  | .lst xs => xs.all (PV.blw m)
  | .tup xs => xs.all (PV.blw m)
  | .dK kvs => kvs.all fun p => p.2.blw m
  | .dT kvs => kvs.all fun p => p.2.blw m
  | .ins _ fs => fs.all fun p => p.2.blw m
  | .gone => true
  | .tbl _ _ => true
  | .xo _ => true
def PV.frz (i : Nat) (x : PyData) : PV → PV
  | .o j => if j = i then .d x else .o j
  | .p y z => .p (y.frz i x) (z.frz i x)
  | q => q
def AO.frz (i : Nat) (x : PyData) : AO → AO
  | .lst xs => .lst (xs.map (PV.frz i x))
  | .tup xs => .tup (xs.map (PV.frz i x))
  | .dK kvs => .dK (kvs.map fun p => (p.1, p.2.frz i x))
  | .dT kvs => .dT (kvs.map fun p => (p.1, p.2.frz i x))
  | .ins c fs => .ins c (fs.map fun p => (p.1, p.2.frz i x))
  | .gone => .gone
  | .tbl P q => .tbl P q
  | .xo R => .xo R
def frzO (i : Nat) (x : PyData) (O : Own) : Own := (O.set i .gone).map (AO.frz i x)
def frzE (i : Nat) (x : PyData) (ρ : Env1) : Env1 := ρ.map fun q => q.map (PV.frz i x)
section
variable {K : KF} {O : Own} {as : List Addr} {F H : Hp}
theorem RPV.frz {i : Nat} {x : PyData} {a : Addr} (ha : as[i]? = some a) (hd : Dq F (.ref a) x) : ∀ {p : PV} {v : V}, RPV K F as p v → RPV K F as (p.frz i x) v
  | .p _ _, _, ⟨b, u1, u2, z, h, q1, q2⟩ => ⟨b, u1, u2, z, h, RPV.frz ha hd q1, RPV.frz ha hd q2⟩
  | .d _, _, h => h
  | .x _, _, h => h
  | .v _, _, h => h
  | .s _, _, h => h
  | .fn _, _, h => h
  | .o j, v, ⟨b, h, z⟩ => by
    show RPV K F as (if j = i then PV.d x else PV.o j) v
    by_cases e : j = i
    · rw [if_pos e]
      subst e
      rw [ha] at h
      cases h
      rw [z]
      exact hd
    · rw [if_neg e]
      exact ⟨b, h, z⟩
theorem paired_map {α β γ : Type} {R : α → β → Prop} {S : γ → β → Prop} {f : α → γ} (h : ∀ a b, R a b → S (f a) b) : ∀ {l : List α} {m : List β}, Paired R l m → Paired S (l.map f) m
  | _, _, .nil => .nil
  | _, _, .cons r t => .cons (h _ _ r) (paired_map h t)
theorem ROb.frz {i : Nat} {x : PyData} {a : Addr} (ha : as[i]? = some a) (hd : Dq F (.ref a) x) : ∀ {p : AO} {h : HO}, ROb K F as p h → ROb K F as (p.frz i x) h
  | .lst _, _, ⟨vs, h, r⟩ => ⟨vs, h, paired_map (fun _ _ z => RPV.frz ha hd z) r⟩
  | .tup _, _, ⟨vs, h, r⟩ => ⟨vs, h, paired_map (fun _ _ z => RPV.frz ha hd z) r⟩
  | .dK _, _, ⟨vs, h, r⟩ => ⟨vs, h, paired_map (fun _ _ z => ⟨z.1, RPV.frz ha hd z.2⟩) r⟩
  | .dT _, _, ⟨vs, h, r⟩ => ⟨vs, h, paired_map (fun _ _ z => ⟨z.1, RPV.frz ha hd z.2⟩) r⟩
  | .ins _ _, _, ⟨C, dx, ws, m, h, r⟩ => ⟨C, dx, ws, m, h, paired_map (fun _ _ z => ⟨z.1, RPV.frz ha hd z.2⟩) r⟩
  | .gone, _, _ => trivial
  | .tbl _ _, _, h => h
  | .xo _, _, h => h
theorem OwnAt.frz {i : Nat} {x : PyData} {a b : Addr} (ha : as[i]? = some a) (hd : Dq F (.ref a) x) : ∀ {p : AO}, OwnAt K F H as b p → OwnAt K F H as b (p.frz i x)
  | .lst _, ⟨n, h, e, r⟩ => ⟨n, h, e, ROb.frz ha hd r⟩
  | .tup _, ⟨n, h, e, r⟩ => ⟨n, h, e, ROb.frz ha hd r⟩
  | .dK _, ⟨n, h, e, r⟩ => ⟨n, h, e, ROb.frz ha hd r⟩
  | .dT _, ⟨n, h, e, r⟩ => ⟨n, h, e, ROb.frz ha hd r⟩
  | .ins _ _, ⟨n, h, e, r⟩ => ⟨n, h, e, ROb.frz ha hd r⟩
  | .gone, h => h
  | .tbl _ _, h => h
  | .xo _, h => h
theorem Wd.frz (w : Wd K O as F H) {i : Nat} {x : PyData} {a : Addr} (ha : as[i]? = some a) (hd : Dq F (.ref a) x) : Wd K (O.map (AO.frz i x)) as F H :=
  ⟨w.fa, w.fF, by simp [w.len], w.nd, w.ex, fun j b ob h1 h2 => by
    rw [List.getElem?_map, Option.map_eq_some_iff] at h1
    obtain ⟨o, h3, rfl⟩ := h1
    exact OwnAt.frz ha hd (w.own j b o h3 h2)⟩
theorem Wd.frzL (w : Wd K O as F H) {i : Nat} {ds : List PyData} (hO : O[i]? = some (.lst (ds.map PV.d))) :
    ∃ a F', as[i]? = some a ∧ Wd K (frzO i (.list ds) O) as F' H ∧ Same F F' ∧ Dq F' (.ref a) (.list ds) := by
  obtain ⟨a, F', h1, h2, h3, h4⟩ := w.freeze hO
  exact ⟨a, F', h1, h2.frz h1 h4, h3, h4⟩
theorem Wd.frzT (w : Wd K O as F H) {i : Nat} {ds : List PyData} (hO : O[i]? = some (.tup (ds.map PV.d))) :
    ∃ a F', as[i]? = some a ∧ Wd K (frzO i (.tuple ds) O) as F' H ∧ Same F F' ∧ Dq F' (.ref a) (.tuple ds) := by
  obtain ⟨a, F', h1, h2, h3, h4⟩ := w.freezeT hO
  exact ⟨a, F', h1, h2.frz h1 h4, h3, h4⟩
theorem RS.frz {i : Nat} {x : PyData} {a : Addr} (ha : as[i]? = some a) (hd : Dq F (.ref a) x) {ρ : Env1} {σ : L2.St} (r : RS K F as ρ σ) : RS K F as (frzE i x ρ) σ :=
  paired_map (fun p q z pv e => by
    cases p with
    | none => cases e
    | some p =>
      cases e
      obtain ⟨v, h1, h2⟩ := z p rfl
      exact ⟨v, h1, RPV.frz ha hd h2⟩) r
theorem RPV.take {m : Nat} : ∀ {p : PV} {v : V}, p.blw m = true → RPV K F as p v → RPV K F (as.take m) p v
  | .p _ _, _, hb, ⟨b, u1, u2, z, h, q1, q2⟩ => by
    have hb' := Bool.and_eq_true_iff.mp hb
    exact ⟨b, u1, u2, z, h, RPV.take hb'.1 q1, RPV.take hb'.2 q2⟩
  | .d _, _, _, h => h
  | .x _, _, _, h => h
  | .v _, _, _, h => h
  | .s _, _, _, h => h
  | .fn _, _, _, h => h
  | .o j, v, hb, ⟨b, h, z⟩ => ⟨b, by rw [List.getElem?_take_of_lt (of_decide_eq_true hb)]; exact h, z⟩
theorem RPs.take {m : Nat} : ∀ {p : List PV} {v : List V}, p.all (PV.blw m) = true → RPs K F as p v → RPs K F (as.take m) p v
  | _, _, _, .nil => .nil
  | _, _, hb, .cons h t => by
    rw [List.all_cons, Bool.and_eq_true] at hb
    exact .cons (RPV.take hb.1 h) (RPs.take hb.2 t)
theorem kv_take {κ : Type} {m : Nat} : ∀ {p : List (κ × PV)} {v : List (κ × V)}, (p.all fun q => q.2.blw m) = true → Paired (fun (p : κ × PV) (q : κ × V) => p.1 = q.1 ∧ RPV K F as p.2 q.2) p v → Paired (fun (p : κ × PV) (q : κ × V) => p.1 = q.1 ∧ RPV K F (as.take m) p.2 q.2) p v
  | _, _, _, .nil => .nil
  | _, _, hb, .cons h t => by
    rw [List.all_cons, Bool.and_eq_true] at hb
    exact .cons ⟨h.1, RPV.take hb.1 h.2⟩ (kv_take hb.2 t)
theorem OwnAt.take {m : Nat} {b : Addr} : ∀ {p : AO}, p.below m = true → OwnAt K F H as b p → OwnAt K F H (as.take m) b p
  | .lst _, hb, ⟨n, h, e, vs, z, r⟩ => ⟨n, h, e, vs, z, RPs.take hb r⟩
  | .tup _, hb, ⟨n, h, e, vs, z, r⟩ => ⟨n, h, e, vs, z, RPs.take hb r⟩
  | .dK _, hb, ⟨n, h, e, vs, z, r⟩ => ⟨n, h, e, vs, z, kv_take hb r⟩
  | .dT _, hb, ⟨n, h, e, vs, z, r⟩ => ⟨n, h, e, vs, z, kv_take hb r⟩
  | .ins _ _, hb, ⟨n, h, e, C, dx, ws, g, z, r⟩ => ⟨n, h, e, C, dx, ws, g, z, kv_take hb r⟩
  | .gone, _, h => h
  | .tbl _ _, _, h => h
  | .xo _, _, h => h
theorem Gr.take {as0 : List Addr} {m : Nat} (g : Gr as0 as) (h : as0.length ≤ m) : Gr as0 (as.take m) := fun i a e => by
  have := (List.getElem?_eq_some_iff.mp e).1
  rw [List.getElem?_take_of_lt (by omega)]
  exact g i a e
theorem Gr.le {as0 : List Addr} (g : Gr as0 as) : as0.length ≤ as.length := by
  refine Decidable.byContradiction fun h => ?_
  have h1 : as.length < as0.length := by omega
  have := g as.length _ (List.getElem?_eq_getElem h1)
  rw [List.getElem?_eq_none (Nat.le_refl _)] at this
  cases this
theorem Wd.take (w : Wd K O as F H) {m : Nat} (hm0 : K.a0.length ≤ m) (hb : (O.take m).all (AO.below m) = true) : Wd K (O.take m) (as.take m) F H := by
  refine ⟨w.fa.take hm0, w.fF, by simp [w.len], w.nd.sublist (List.take_sublist _ _), w.ex, fun i a ob h1 h2 => ?_⟩
  have hm : ob ∈ O.take m := List.mem_of_getElem? h1
  have hi : i < m := by
    have := (List.getElem?_eq_some_iff.mp h1).1
    rw [List.length_take] at this
    omega
  rw [List.getElem?_take_of_lt hi] at h1 h2
  exact OwnAt.take (List.all_eq_true.mp hb ob hm) (w.own i a ob h1 h2)
end
/-- the object n + 1 takes the number n -/
def PV.ren (n : Nat) : PV → PV
  | .o j => if j = n + 1 then .o n else .o j
  | .p y z => .p (y.ren n) (z.ren n)
  | q => q
/-- it does not speak of the object n -/
def PV.miss (n : Nat) : PV → Bool
  | .o j => decide (j < n) || decide (j = n + 1)
  | .p y z => y.miss n && z.miss n
  | _ => true
section
variable {K : KF} {as : List Addr} {F H : Hp} {n : Nat} {p q : Addr}
theorem RPV.ren (hl : as.length = n) : ∀ {x : PV} {v : V}, x.miss n = true → RPV K F (as ++ [p, q]) x v → RPV K F (as ++ [q]) (x.ren n) v
  | .d _, _, _, h => h
  | .v _, _, _, h => h
  | .s _, _, _, h => h
  | .fn _, _, _, h => h
  | .x _, _, _, h => h
  | .p _ _, _, hm, ⟨b, u1, u2, z, h, q1, q2⟩ => by
    have hm' := Bool.and_eq_true_iff.mp hm
    exact ⟨b, u1, u2, z, h, RPV.ren hl hm'.1 q1, RPV.ren hl hm'.2 q2⟩
  | .o j, v, hm, ⟨b, h, z⟩ => by
    have hm' : j < n ∨ j = n + 1 := by simpa [PV.miss] using hm
    show RPV K F (as ++ [q]) (if j = n + 1 then PV.o n else PV.o j) v
    rcases hm' with h1 | h1
    · rw [if_neg (by omega)]
      refine ⟨b, ?_, z⟩
      rw [List.getElem?_append_left (by omega)] at h ⊢
      exact h
    · rw [if_pos h1]
      refine ⟨b, ?_, z⟩
      rw [List.getElem?_append_right (by omega)] at h ⊢
      rw [hl, Nat.sub_self]
      rw [hl, show j - n = 1 by omega] at h
      exact h
theorem Wd.slide {O : Own} {x y : AO} (w : Wd K (O ++ [x, y]) as F H) (h0 : K.a0.length ≤ O.length) (hO : O.all (AO.below O.length) = true) (hy : y.below O.length = true) : ∃ as1 p q, as = as1 ++ [p, q] ∧ as1.length = O.length ∧ Wd K (O ++ [y]) (as1 ++ [q]) F H := by
  have hl := w.len
  rw [List.length_append] at hl
  have e1 : as = as.take O.length ++ as.drop O.length := (List.take_append_drop _ _).symm
  have hd : (as.drop O.length).length = 2 := by rw [List.length_drop, hl]; simp
  obtain ⟨p, q, e2⟩ : ∃ p q, as.drop O.length = [p, q] := by
    match as.drop O.length, hd with
    | [p, q], _ => exact ⟨p, q, rfl⟩
  rw [e2] at e1
  have l1 : (as.take O.length).length = O.length := by rw [List.length_take, hl]; omega
  refine ⟨as.take O.length, p, q, e1, l1, ?_⟩
  have g0 : Gr (as.take O.length) as := fun i a e => by
    have := (List.getElem?_eq_some_iff.mp e).1
    rw [List.getElem?_take_of_lt (by omega)] at e
    exact e
  have nd := w.nd
  rw [e1] at nd
  refine ⟨(w.fa.take h0).trans (Gr.app _ _), w.fF, by simp [l1], ?_, w.ex, fun i a ob h1 h2 => ?_⟩
  · rw [List.nodup_append] at nd ⊢
    exact ⟨nd.1, by simp, fun a ha b hb e => nd.2.2 a ha b (by rw [List.mem_singleton.mp hb]; simp) e⟩
  · have fin : ∀ {ob : AO} {a : Addr}, ob.below O.length = true → OwnAt K F H as a ob → OwnAt K F H (as.take O.length ++ [q]) a ob := fun hb z => (OwnAt.take hb z).step (Same.refl _) (Gr.app _ _) rfl (fun z => z)
    by_cases hi : i < O.length
    · rw [List.getElem?_append_left hi] at h1
      rw [List.getElem?_append_left (by omega)] at h2
      exact fin (List.all_eq_true.mp hO ob (List.mem_of_getElem? h1)) (w.own i a ob (by rw [List.getElem?_append_left hi]; exact h1) (g0 _ _ h2))
    · have hi2 : i = O.length := by
        have := (List.getElem?_eq_some_iff.mp h1).1
        simp at this
        omega
      subst hi2
      rw [List.getElem?_append_right (Nat.le_refl _), Nat.sub_self] at h1
      rw [List.getElem?_append_right (by omega), l1, Nat.sub_self] at h2
      have e3 : ob = y := by simpa using h1.symm
      have e4 : a = q := by simpa using h2.symm
      subst e3 e4
      refine fin hy (w.own (O.length + 1) a ob (by rw [List.getElem?_append_right (by omega)]; simp) ?_)
      rw [e1, List.getElem?_append_right (by rw [l1]; omega), l1]
      simp
end
inductive Gh (b : Nat) (Φ : PV → Own → Prop) : PV → Own → Prop
  | keep {pv : PV} {O : Own} : Φ pv O → Gh b Φ pv O
  | frL {pv : PV} {O : Own} (i : Nat) {ds : List PyData} : O[i]? = some (.lst (ds.map PV.d)) → Gh b Φ (pv.frz i (.list ds)) (frzO i (.list ds) O) → Gh b Φ pv O
  | frT {pv : PV} {O : Own} (i : Nat) {ds : List PyData} : O[i]? = some (.tup (ds.map PV.d)) → Gh b Φ (pv.frz i (.tuple ds)) (frzO i (.tuple ds) O) → Gh b Φ pv O
  | drop {pv : PV} {O : Own} (m : Nat) : b ≤ m → pv.blw m = true → (O.take m).all (AO.below m) = true → Gh b Φ pv (O.take m) → Gh b Φ pv O
  | slide {pv : PV} {O : Own} {x y : AO} : b ≤ O.length → pv.miss O.length = true → O.all (AO.below O.length) = true → y.below O.length = true → Gh b Φ (pv.ren O.length) (O ++ [y]) → Gh b Φ pv (O ++ [x, y])
theorem gr_cut {as0 as1 : List Addr} {p q : Addr} (g : Gr as0 (as1 ++ [p, q])) (h : as0.length ≤ as1.length) : Gr as0 (as1 ++ [q]) := fun i a e => by
  have := (List.getElem?_eq_some_iff.mp e).1
  have z := g i a e
  rw [List.getElem?_append_left (by omega)] at z ⊢
  exact z
theorem Gh.sound {K : KF} {as0 : List Addr} {F0 : Hp} {b : Nat} {Φ : PV → Own → Prop} (hb : as0.length ≤ b) (hf : K.a0.length ≤ as0.length) {pv : PV} {O : Own} (h : Gh b Φ pv O) : ∀ {as : List Addr} {F H : Hp} {v : V}, Wd K O as F H → Gr as0 as → Same F0 F → RPV K F as pv v → PQ K as0 F0 Φ v H := by
  induction h with
  | keep q => intro as F H v w g s r; exact ⟨_, _, as, F, w, g, s, r, q⟩
  | frL i e _ ih =>
    intro as F H v w g s r
    obtain ⟨a, F', h1, h2, h3, h4⟩ := w.frzL e
    exact ih h2 g (s.trans h3) (RPV.frz h1 h4 (r.mono h3 (Gr.refl _)))
  | frT i e _ ih =>
    intro as F H v w g s r
    obtain ⟨a, F', h1, h2, h3, h4⟩ := w.frzT e
    exact ih h2 g (s.trans h3) (RPV.frz h1 h4 (r.mono h3 (Gr.refl _)))
  | drop m e1 e2 e3 _ ih =>
    intro as F H v w g s r
    exact ih (w.take (Nat.le_trans hf (Nat.le_trans hb e1)) e3) (g.take (Nat.le_trans hb e1)) s (RPV.take e2 r)
  | slide e1 e2 e3 e4 _ ih =>
    intro as F H v w g s r
    obtain ⟨as1, p, q, rfl, l1, w'⟩ := w.slide (Nat.le_trans hf (Nat.le_trans hb e1)) e3 e4
    exact ih w' (gr_cut g (by omega)) s (RPV.ren l1 e2 r)
theorem PQ.gh {K : KF} {as : List Addr} {F : Hp} {b : Nat} {Φ : PV → Own → Prop} {v : V} {H : Hp} (hb : as.length ≤ b) (hf : K.a0.length ≤ as.length) (h : PQ K as F (Gh b Φ) v H) : PQ K as F Φ v H :=
  let ⟨_, _, _, _, w, g, e, r, q⟩ := h
  q.sound hb hf w g e r
inductive SGh (b : Nat) (Ψ : Env1 → Own → Prop) : Env1 → Own → Prop
  | keep {ρ : Env1} {O : Own} : Ψ ρ O → SGh b Ψ ρ O
  | frL {ρ : Env1} {O : Own} (i : Nat) {ds : List PyData} : O[i]? = some (.lst (ds.map PV.d)) → SGh b Ψ (frzE i (.list ds) ρ) (frzO i (.list ds) O) → SGh b Ψ ρ O
  | frT {ρ : Env1} {O : Own} (i : Nat) {ds : List PyData} : O[i]? = some (.tup (ds.map PV.d)) → SGh b Ψ (frzE i (.tuple ds) ρ) (frzO i (.tuple ds) O) → SGh b Ψ ρ O
  | unset {ρ : Env1} {O : Own} (i : Nat) : SGh b Ψ (ρ.set i none) O → SGh b Ψ ρ O
  | drop {ρ : Env1} {O : Own} (m : Nat) : b ≤ m → (ρ.all fun q => q.all (PV.blw m)) = true → (O.take m).all (AO.below m) = true → SGh b Ψ ρ (O.take m) → SGh b Ψ ρ O
  | slide {ρ : Env1} {O : Own} {x y : AO} : b ≤ O.length → (ρ.all fun q => q.all (PV.miss O.length)) = true → O.all (AO.below O.length) = true → y.below O.length = true → SGh b Ψ (ρ.map fun q => q.map (PV.ren O.length)) (O ++ [y]) → SGh b Ψ ρ (O ++ [x, y])
theorem RS.ren {K : KF} {F : Hp} {as : List Addr} {n : Nat} {p q : Addr} (hl : as.length = n) : ∀ {ρ : Env1} {σ : L2.St}, (ρ.all fun q => q.all (PV.miss n)) = true → RS K F (as ++ [p, q]) ρ σ → RS K F (as ++ [q]) (ρ.map fun q => q.map (PV.ren n)) σ
  | _, _, _, .nil => .nil
  | x :: _, _, hb, .cons h t => by
    rw [List.all_cons, Bool.and_eq_true] at hb
    refine .cons (fun pv e => ?_) (RS.ren hl hb.2 t)
    cases x with
    | none => cases e
    | some y =>
      cases e
      obtain ⟨v, h1, h2⟩ := h y rfl
      exact ⟨v, h1, RPV.ren hl hb.1 h2⟩
theorem RS.take {K : KF} {F : Hp} {as : List Addr} {m : Nat} : ∀ {ρ : Env1} {σ : L2.St}, (ρ.all fun q => q.all (PV.blw m)) = true → RS K F as ρ σ → RS K F (as.take m) ρ σ
  | _, _, _, .nil => .nil
  | p :: _, _, hb, .cons h t => by
    rw [List.all_cons, Bool.and_eq_true] at hb
    refine .cons (fun pv e => ?_) (RS.take hb.2 t)
    subst e
    obtain ⟨v, h1, h2⟩ := h pv rfl
    exact ⟨v, h1, RPV.take hb.1 h2⟩
theorem RS.unset1 {K : KF} {as : List Addr} {F : Hp} : ∀ {ρ : Env1} {σ : L2.St} (i : Nat), RS K F as ρ σ → RS K F as (ρ.set i none) σ
  | _, _, _, .nil => .nil
  | _, _, 0, .cons _ t => .cons (fun pv' e => nomatch e) t
  | _, _, i + 1, .cons p t => .cons p (RS.unset1 i t)
theorem SGh.sound {K : KF} {as0 : List Addr} {F0 : Hp} {b : Nat} {Ψ : Env1 → Own → Prop} (hb : as0.length ≤ b) (hf : K.a0.length ≤ as0.length) {ρ : Env1} {O : Own} (h : SGh b Ψ ρ O) : ∀ {as : List Addr} {F H : Hp} {σ : L2.St}, Wd K O as F H → Gr as0 as → Same F0 F → RS K F as ρ σ → SQ K as0 F0 Ψ σ H := by
  induction h with
  | keep q => intro as F H v w g s r; exact ⟨_, _, as, F, w, g, s, r, q⟩
  | frL i e _ ih =>
    intro as F H v w g s r
    obtain ⟨a, F', h1, h2, h3, h4⟩ := w.frzL e
    exact ih h2 g (s.trans h3) (RS.frz h1 h4 (r.mono h3 (Gr.refl _)))
  | frT i e _ ih =>
    intro as F H v w g s r
    obtain ⟨a, F', h1, h2, h3, h4⟩ := w.frzT e
    exact ih h2 g (s.trans h3) (RS.frz h1 h4 (r.mono h3 (Gr.refl _)))
  | unset i _ ih => intro as F H v w g s r; exact ih w g s (RS.unset1 i r)
  | drop m e1 e2 e3 _ ih =>
    intro as F H v w g s r
    exact ih (w.take (Nat.le_trans hf (Nat.le_trans hb e1)) e3) (g.take (Nat.le_trans hb e1)) s (RS.take e2 r)
  | slide e1 e2 e3 e4 _ ih =>
    intro as F H v w g s r
    obtain ⟨as1, p, q, rfl, l1, w'⟩ := w.slide (Nat.le_trans hf (Nat.le_trans hb e1)) e3 e4
    exact ih w' (gr_cut g (by omega)) s (RS.ren l1 e2 r)
theorem SQ.gh {K : KF} {as : List Addr} {F : Hp} {b : Nat} {Ψ : Env1 → Own → Prop} {σ : L2.St} {H : Hp} (hb : as.length ≤ b) (hf : K.a0.length ≤ as.length) (h : SQ K as F (SGh b Ψ) σ H) : SQ K as F Ψ σ H :=
  let ⟨_, _, _, _, w, g, e, r, q⟩ := h
  q.sound hb hf w g e r
theorem rps1 {K : KF} {F : Hp} {as : List Addr} {x : PV} {vs : List V} (h : RPs K F as [x] vs) : ∃ v, vs = [v] ∧ RPV K F as x v := by
  cases h with
  | cons h t => cases t; exact ⟨_, rfl, h⟩
theorem rps2 {K : KF} {F : Hp} {as : List Addr} {x y : PV} {vs : List V} (h : RPs K F as [x, y] vs) : ∃ v u, vs = [v, u] ∧ RPV K F as x v ∧ RPV K F as y u := by
  cases h with
  | cons h t =>
    obtain ⟨u, rfl, r⟩ := rps1 t
    exact ⟨_, _, rfl, h, r⟩
theorem tS_le {X : Ax} {st : Stmt} {D D' : Ends} {σ : L2.St} {H : Hp} (h : tS X.c st D σ H) (l : Ends.Le D D') : tS X.c st D' σ H := tS_mono l h
theorem tSs_le {X : Ax} {st : List Stmt} {D D' : Ends} {σ : L2.St} {H : Hp} (h : tSs X.c st D σ H) (l : Ends.Le D D') : tSs X.c st D' σ H := tSs_mono l h
section
variable {X : Ax} {e a b c : Expr} {es : List Expr} {ρ : Env1} {O : Own} {Φ : PV → Own → Prop} {as : List Addr} {F H : Hp} {σ : L2.St} {pos p p2 : Pos} {st : Stmt} {sts rest : List Stmt} {D : AEnds}
theorem AE.gh (h : AE X e ρ O (Gh O.length Φ)) : AE X e ρ O Φ := fun as F σ H w r => tE_mono (h as F σ H w r) fun _ _ z => z.gh (by rw [w.len]; exact Nat.le_refl _) w.fa.le
/-! ### statements -/
theorem as_nil (k : D.nx ρ O) : ASs X [] ρ O D := fun as F σ H w r => tSs_of pss_nil ⟨ρ, O, as, F, w, Gr.refl _, Same.refl _, r, k⟩
theorem as_cons (h : AS X st ρ O { D with nx := fun ρ' O' => ASs X rest ρ' O' D }) : ASs X (st :: rest) ρ O D := fun as F σ H w r => by
  refine tSs_of (pss_cons ps_tS pss_tSs) ?_
  refine tS_le (h as F σ H w r) ⟨fun σ' H' z => ?_, fun _ _ z => z, fun _ _ z => z, fun _ _ z => z⟩
  obtain ⟨ρ', O', as', F', w', g, s, r', q⟩ := z
  exact tSs_mono (AEnds.back g s) (q as' F' σ' H' w' r')
theorem as_expr (h : AE X e ρ O fun _ O1 => D.nx ρ O1) (hs : swapsWith e none pos.line X.env = pure false := by rfl) : AS X (.Expr e pos) ρ O D := fun as F σ H w r => by
  refine tS_of (ps_expr pe_tE hs) ?_
  exact h.run w r fun pv O1 as1 F1 v H1 w1 g s _ r1 q => ⟨ρ, O1, as1, F1, w1, g, s, r1, q⟩
theorem as_ret (h : AE X e ρ O D.rt) : AS X (.Return (some e) pos) ρ O D := fun as F σ H w r => tS_of (ps_ret pe_tE) (h as F σ H w r)
theorem as_if {s1 s2 : List Stmt} (h : AT X c ρ O fun k O1 => if k = true then ASs X s1 ρ O1 D else ASs X s2 ρ O1 D) : AS X (.If c s1 s2 pos) ρ O D := fun as F σ H w r => by
  refine tS_of (ps_if pt_tT pss_tSs pss_tSs) ?_
  refine h.run w r fun k O1 as1 F1 H1 w1 g1 s1 r1 z => ?_
  cases k with
  | true =>
    simp only [if_true] at z ⊢
    exact tSs_mono (AEnds.back g1 s1) (z as1 F1 σ H1 w1 r1)
  | false =>
    simp only [Bool.false_eq_true, if_false] at z ⊢
    exact tSs_mono (AEnds.back g1 s1) (z as1 F1 σ H1 w1 r1)
theorem as_set (i : Nat) {x : Str} {pos' : Pos} (hN : X.N.Nodup) (h : AE X e ρ O fun v O1 => D.nx (ρ.set i (some v)) O1) (hi : X.N[i]? = some x := by rfl) (hx : Loc X.env.scope x := by first | exact Or.inl rfl | exact Or.inr rfl)
    (hs : swapsWith e (some (.Name x pos')) pos.line X.env = pure false := by rfl) (hf : X.fn x = true ∨ X.env.scope.names.lookup x = some .local := by first | exact .inl rfl | exact .inr rfl | assumption) : AS X (.Assign [.Name x pos'] e pos) ρ O D := fun as F σ H w r => by
  refine tS_of (ps_set hN hi hx pe_tE hs hf) ?_
  exact h.run w r fun pv O1 as1 F1 v H1 w1 g s rv r1 q => ⟨_, O1, as1, F1, w1, g, s, r1.set rv i, q⟩
theorem as_asg {tg : Expr} (h : AE X e ρ O fun v O1 => AG X tg v ρ O1 D.nx) (hs : swapsWithSole [tg] e pos.line X.env = pure false := by rfl) (hw : swappedStores [tg] e X.env = pure none := by rfl)
    (h1 : (assignEach [tg] X.env).map (·.2) = [assign tg X.env] := by rfl) : AS X (.Assign [tg] e pos) ρ O D := fun as F σ H w r => by
  refine tS_of (ps_asg pe_tE pg_tG hs hw h1) ?_
  refine h.run w r fun pv O1 as1 F1 v H1 w1 g s rv r1 q => ?_
  exact tG_mono (q as1 F1 σ H1 v w1 r1 rv) fun _ _ z => z.back g s
/-! ### targets -/
variable {Ψ : Env1 → Own → Prop} {x : PV}
theorem ag_name (i : Nat) {n : Str} (hN : X.N.Nodup) (k : Ψ (ρ.set i (some x)) O) (hi : X.N[i]? = some n := by rfl) (hx : Loc X.env.scope n := by first | exact Or.inl rfl | exact Or.inr rfl) (hf : X.fn n = true ∨ X.env.scope.names.lookup n = some .local := by first | exact .inl rfl | exact .inr rfl | assumption) : AG X (.Name n pos) x ρ O Ψ :=
  fun as F σ H v w r rv => tG_of (pg_name hN hi hx hf) ⟨_, O, as, F, w, Gr.refl _, Same.refl _, r.set rv i, k⟩
@[irreducible] def tGs (X : Cx) (ts : List Expr) : TGs := fun vs σ H Q => ∀ pins s us, Inv X pins σ H s → Vals vs us → wpAny (model X.prog X.w) X.A (assignInOrder ((assignEach ts X.env).map (·.2)) us) (fun _ s' => ∃ σ' H', Inv X pins σ' H' s' ∧ Q σ' H') X.xe s
theorem pgs_tGs {ts : List Expr} : PGs X.c ts (tGs X.c ts) := ⟨fun pins s _ _ _ us _ I r h => by unfold tGs at h; exact h pins s us I r⟩
def AGs (X : Ax) (ts : List Expr) (xs : List PV) (ρ : Env1) (O : Own) (Ψ : Env1 → Own → Prop) : Prop := ∀ as F σ H vs, Wd X.k O as F H → RS X.k F as ρ σ → RPs X.k F as xs vs → tGs X.c ts vs σ H (SQ X.k as F Ψ)
theorem tGs_of {ts : List Expr} {t : TGs} {vs : List V} {Q : L2.St → Hp → Prop} (h : PGs X.c ts t) (q : t vs σ H Q) : tGs X.c ts vs σ H Q := by unfold tGs; exact fun pins s us I r => h.run pins s σ H vs us Q I r q
theorem tGs_mono {ts : List Expr} {vs : List V} {Q Q' : L2.St → Hp → Prop} (h : tGs X.c ts vs σ H Q) (q : ∀ σ' H', Q σ' H' → Q' σ' H') : tGs X.c ts vs σ H Q' := by
  unfold tGs at h ⊢
  exact fun pins s us I r => thn (h pins s us I r) fun _ _ ⟨σ', H', I', z⟩ => ⟨σ', H', I', q σ' H' z⟩
theorem ags_nil (k : Ψ ρ O) : AGs X [] [] ρ O Ψ := fun as F σ H vs w r rv => by
  cases rv
  exact tGs_of pgs_nil ⟨rfl, ρ, O, as, F, w, Gr.refl _, Same.refl _, r, k⟩
theorem ags_cons {xs : List PV} (h : AG X e x ρ O fun ρ1 O1 => AGs X es xs ρ1 O1 Ψ) (hs : (assignEach (e :: es) X.env).map (·.2) = assign e X.env :: (assignEach es X.env).map (·.2) := by rfl) : AGs X (e :: es) (x :: xs) ρ O Ψ := fun as F σ H vs w r rv => by
  cases rv with
  | cons r1 rs =>
    refine tGs_of (pgs_cons pg_tG pgs_tGs hs) ?_
    refine ⟨_, _, rfl, tG_mono (h as F σ H _ w r r1) fun σ' H' ⟨ρ1, O1, as1, F1, w1, g1, s1, r2, q⟩ => ?_⟩
    exact tGs_mono (q as1 F1 σ' H' _ w1 r2 (RPs.mono s1 g1 rs)) fun _ _ z => z.back g1 s1
/-- a, b, .. = a tuple of data -/
theorem ag_tup {k : Nat} {ds : List PyData} (hc : X.calm = true) (h : AGs X es (ds.map PV.d) ρ O Ψ) (hn : (assignEach es X.env).length = ds.length := by rfl) (hst : (assignEach es X.env).findIdx? (·.1) = none := by rfl) : AG X (.Tuple es k pos) (.d (.tuple ds)) ρ O Ψ := fun as F σ H v w r rv => by
  refine tG_of (pg_tup hc pgs_tGs hn hst) ?_
  cases (show Dq F v (.tuple ds) from rv) with
  | tup hs ha => exact ⟨_, _, rfl, SqT.of (w.ex _ _ hs), ha.len, h as F σ H _ w r (data_rps ha)⟩
theorem Wd.rd {K : KF} (w : Wd K O as F H) {a : Addr} {u : HO} (h : F a = some u) : H a = some u := w.ex _ _ h
/-- an owned list's item stored -/
theorem ag_subL {o i : Expr} {x : PV} (h : AE X o ρ O fun po O1 => AE X i ρ O1 fun pi O2 => ∃ n k j xs, po = .o n ∧ pi = .d (.int k) ∧ O2[n]? = some (.lst xs) ∧ ixN xs.length k = some j ∧ Ψ ρ (O2.set n (.lst (xs.set j x))))
    (ha : ∀ v, assign (.Subscript o i pos) X.env v = (do
      let ov ← holding [v] (eval o X.env)
      let iv ← holding [v, ov] (eval i X.env)
      standAt pos
      holding [v, ov, iv] (setItem ov iv v)
      release [v, ov, iv] []) := by intro _; rfl) : AG X (.Subscript o i pos) x ρ O Ψ := fun as F σ H v w r rv => by
  refine tG_of (pg_sub pe_tE pe_tE set_list ha) ?_
  refine h.run w r fun po O1 as1 F1 v1 H1 w1 g1 s1 r1 rr1 h1 => ?_
  refine h1.run w1 rr1 fun pi O2 as2 F2 v2 H2 w2 g2 s2 r2 rr2 ⟨n, k, j, xs, e1, e2, e3, e4, q⟩ => ?_
  subst e1; subst e2
  obtain ⟨a, fa, ea⟩ := r1
  subst ea
  cases (show Dq F2 v2 (.int k) from r2)
  obtain ⟨a', h1', fn, ho, hh, vs, e5, rvs⟩ := w2.at_ e3
  have e6 : a' = a := Option.some.inj (h1'.symm.trans (g2 n a fa))
  subst e6; subst e5
  refine ⟨a', vs, k, j, rfl, rfl, hh, by rw [← rvs.len]; exact e4, ?_⟩
  have rset : ∀ {ps : List PV} {vs : List V} (j : Nat), RPs X.k F2 as2 ps vs → RPs X.k F2 as2 (ps.set j x) (vs.set j v) := by
    intro ps vs j h
    induction h generalizing j with
    | nil => exact .nil
    | cons h t ih =>
      cases j with
      | zero => exact .cons (rv.mono (s1.trans s2) (g1.trans g2)) t
      | succ j => exact .cons h (ih j)
  exact ⟨ρ, _, as2, F2, w2.set (ob := .lst (xs.set j x)) (h := .lst (vs.set j v)) h1' fn ⟨_, rfl, rset j rvs⟩ (fun z => nomatch z), g1.trans g2, s1.trans s2, rr2, q⟩
/-! ### while -/
/-! ### what is walked: the items, told ahead -/
@[irreducible] def tI (X : Cx) (tg iter : Expr) : TI := fun σ H R => ∀ pins s, Inv X pins σ H s → wpAny (model X.prog X.w) X.A (eval iter X.env) (fun v s1 => wpAny (model X.prog X.w) X.A (pyIter v) (PIE X pins σ tg R) X.xe s1) X.xe s
theorem pi_tI {tg iter : Expr} : PI X.c tg iter (tI X.c tg iter) := ⟨fun pins s _ _ _ I h => by unfold tI at h; exact h pins s I⟩
theorem tI_of {tg iter : Expr} {wi : TI} {R : It → Hp → Prop} (h : PI X.c tg iter wi) (q : wi σ H R) : tI X.c tg iter σ H R := by unfold tI; exact fun pins s I => h.run pins s σ H R I q
/-- J gives the items, one by one, as long as G holds of the owned objects -/
def JOk (K : KF) (J : It) (items : List PV) (G : Own → Prop) (as0 : List Addr) (F0 : Hp) : Prop := ∀ O as F H, Wd K O as F H → Gr as0 as → Same F0 F → G O →
  (∀ i, items.length ≤ i → J.stop i H) ∧ (∀ i x, items[i]? = some x → J.go i H ∧ ∀ v H', J.yld i H v H' → ∃ F', Wd K O as F' H' ∧ Same F F' ∧ RPV K F' as x v)
def AI (X : Ax) (tg iter : Expr) (ρ : Env1) (O : Own) (Ψ : List PV → (Own → Prop) → Own → Prop) : Prop := ∀ as F σ H, Wd X.k O as F H → RS X.k F as ρ σ → ∀ R : It → Hp → Prop,
  (∀ J H1 items G O1 as1 F1, Wd X.k O1 as1 F1 H1 → Gr as as1 → Same F F1 → JOk X.k J items G as1 F1 → Ψ items G O1 → R J H1) → tI X.c tg iter σ H R
theorem ai_list {tg iter : Expr} {Ψ : List PV → (Own → Prop) → Own → Prop} (h : AE X iter ρ O fun x O1 => ∃ ds, x = .d (.list ds) ∧ Ψ (ds.map PV.d) (fun _ => True) O1) : AI X tg iter ρ O Ψ := fun as F σ H w r R k => by
  refine tI_of (pi_list pe_tE) ?_
  refine h.run w r fun x O1 as1 F1 v1 H1 w1 g1 s1 rx r1 ⟨ds, e1, q⟩ => ?_
  subst e1
  cases (show Dq F1 v1 (.list ds) from rx) with
  | @lst a xs ds hs ha =>
    refine ⟨a, rfl, ⟨xs, SqL.of (w1.rd hs)⟩, k _ H1 _ _ O1 as1 F1 w1 g1 s1 (fun O' as' F' H' w' g' s' _ => ?_) q⟩
    have hq : SqL X.K H' a xs := SqL.of (w'.rd (s' _ _ hs))
    refine ⟨fun i hi => ⟨xs, hq, by rw [List.length_map, ← ha.len] at hi; exact hi⟩, fun i x hx => ?_⟩
    rw [List.getElem?_map, Option.map_eq_some_iff] at hx
    obtain ⟨d, hd, rfl⟩ := hx
    obtain ⟨v, hv, hdv⟩ := ha.get hd
    refine ⟨⟨xs, v, hq, hv⟩, fun v' H2 hy => ?_⟩
    obtain ⟨e2, hy⟩ := hy
    subst e2
    have e3 : v = v' := Option.some.inj (hv.symm.trans (hy xs hq))
    subst e3
    exact ⟨F', w', Same.refl _, Dq_same s' hdv⟩
/-- an owned list that the loop leaves as it is -/
theorem ai_listO {tg iter : Expr} {Ψ : List PV → (Own → Prop) → Own → Prop} (h : AE X iter ρ O fun x O1 => ∃ n xs, x = .o n ∧ O1[n]? = some (.lst xs) ∧ Ψ xs (fun O => O[n]? = some (.lst xs)) O1) : AI X tg iter ρ O Ψ := fun as F σ H w r R k => by
  refine tI_of (pi_list pe_tE) ?_
  refine h.run w r fun x O1 as1 F1 v1 H1 w1 g1 s1 rx r1 ⟨n, xs, e1, e2, q⟩ => ?_
  subst e1
  obtain ⟨a, fa, ea⟩ := rx
  subst ea
  have look : ∀ {O' as' F' H'}, Wd X.k O' as' F' H' → Gr as1 as' → O'[n]? = some (.lst xs) → ∃ vs, SqL X.K H' a vs ∧ RPs X.k F' as' xs vs := fun {O' as' F' H'} w' g' eo => by
    obtain ⟨a', h1', fn, ho, hh, vs, e5, rvs⟩ := w'.at_ eo
    have e6 : a' = a := Option.some.inj (h1'.symm.trans (g' n a fa))
    subst e6; subst e5
    exact ⟨vs, SqL.of hh, rvs⟩
  obtain ⟨vs1, hq1, _⟩ := look w1 (Gr.refl _) e2
  refine ⟨a, rfl, ⟨vs1, hq1⟩, k _ H1 _ _ O1 as1 F1 w1 g1 s1 (fun O' as' F' H' w' g' s' hG => ?_) q⟩
  obtain ⟨vs, hq, rvs⟩ := look w' g' hG
  refine ⟨fun i hi => ⟨vs, hq, by rw [← rvs.len]; exact hi⟩, fun i x hx => ?_⟩
  have rget : ∀ {ps : List PV} {vs : List V} {i : Nat} {x : PV}, RPs X.k F' as' ps vs → ps[i]? = some x → ∃ v, vs[i]? = some v ∧ RPV X.k F' as' x v := by
    intro ps vs i x h
    induction h generalizing i with
    | nil => intro e; simp at e
    | cons h t ih =>
      intro e
      cases i with
      | zero => cases e; exact ⟨_, rfl, h⟩
      | succ i => exact ih e
  obtain ⟨v, hv, hdv⟩ := rget rvs hx
  refine ⟨⟨vs, v, hq, hv⟩, fun v' H2 hy => ?_⟩
  obtain ⟨e2, hy⟩ := hy
  subst e2
  have e3 : v = v' := Option.some.inj (hv.symm.trans (hy vs hq))
  subst e3
  exact ⟨F', w', Same.refl _, hdv⟩
def rngP (lo : Int) (n : Nat) : List PV := (List.range n).map fun i => PV.d (.int (lo + (i : Nat)))
theorem jok_rng {K : KF} {lo : Int} {n : Nat} {as0 : List Addr} {F0 : Hp} : JOk K (Itr lo n) (rngP lo n) (fun _ => True) as0 F0 := fun O as F H w _ _ _ => by
  refine ⟨fun i hi => by unfold rngP at hi; rw [List.length_map, List.length_range] at hi; exact hi, fun i x hx => ?_⟩
  unfold rngP at hx
  rw [List.getElem?_map, Option.map_eq_some_iff] at hx
  obtain ⟨d, hd, rfl⟩ := hx
  have hi := (List.getElem?_eq_some_iff.mp hd).1
  rw [List.length_range] at hi
  rw [List.getElem?_range hi] at hd
  have e0 : i = d := Option.some.inj hd
  subst e0
  refine ⟨hi, fun v' H2 hy => ?_⟩
  obtain ⟨e2, hy⟩ := hy
  subst e2 hy
  exact ⟨F, w, Same.refl _, .int _⟩
theorem ai_range1 {tg : Expr} {Ψ : List PV → (Own → Prop) → Own → Prop} (hg : Gl X.c "range") (hm : X.mg "range" = none) (h : AA X [a] ρ O fun xs O1 => ∃ j : Int, xs = [.d (.int j)] ∧ -(2 ^ 62) ≤ j ∧ j < 2 ^ 62 ∧ Ψ (rngP 0 j.toNat) (fun _ => True) O1) (hs : starEach [a] X.env = [(false, eval a X.env)] := by rfl) :
    AI X tg (.Call (.Name "range" p) [a] [] pos) ρ O Ψ := fun as F σ H w r R k => by
  refine tI_of (pi_range1 hg hm pa_tA hs) ?_
  refine h.run w r fun xs O1 as1 F1 v1 H1 w1 g1 s1 rx r1 ⟨j, e1, h1, h2, q⟩ => ?_
  subst e1
  obtain ⟨va, rfl, ra⟩ := rps1 rx
  cases (show Dq F1 va (.int j) from ra)
  exact ⟨j, rfl, h1, h2, k _ H1 _ _ O1 as1 F1 w1 g1 s1 jok_rng q⟩
def chrP (z : Str) : List PV := z.cps.toList.map fun c => PV.d (.str ⟨#[c]⟩)
theorem ai_str {tg iter : Expr} {Ψ : List PV → (Own → Prop) → Own → Prop} (h : AE X iter ρ O fun x O1 => ∃ z, x = .d (.str z) ∧ Ψ (chrP z) (fun _ => True) O1) : AI X tg iter ρ O Ψ := fun as F σ H w r R k => by
  refine tI_of (pi_str pe_tE) ?_
  refine h.run w r fun x O1 as1 F1 v1 H1 w1 g1 s1 rx r1 ⟨z, e1, q⟩ => ?_
  subst e1
  cases (show Dq F1 v1 (.str z) from rx)
  refine ⟨z, rfl, k _ H1 _ _ O1 as1 F1 w1 g1 s1 (fun O' as' F' H' w' g' s' _ => ?_) q⟩
  unfold chrP
  refine ⟨fun i hi => by rw [List.length_map, Array.length_toList] at hi; exact hi, fun i x hx => ?_⟩
  rw [List.getElem?_map, Option.map_eq_some_iff] at hx
  obtain ⟨c, hc, rfl⟩ := hx
  rw [Array.getElem?_toList] at hc
  refine ⟨(Array.getElem?_eq_some_iff.mp hc).1, fun v' H2 hy => ?_⟩
  obtain ⟨e2, c', hc', e3⟩ := hy
  subst e2; subst e3
  have e4 : c = c' := Option.some.inj (hc.symm.trans hc')
  subst e4
  exact ⟨F', w', Same.refl _, .str _⟩
/-! ### for -/
theorem as_for {tg iter : Expr} {body : List Stmt} (hp : PassesOwn (model X.prog X.w) X.A X.env X.c.xe) (hc : X.calm = true) (h : AI X tg iter ρ O fun items G O1 => ∃ I : Nat → Env1 → Own → Prop, I 0 ρ O1 ∧ (∀ i ρ O, I i ρ O → G O) ∧
      (∀ i x ρ O, items[i]? = some x → I i ρ O → AG X tg x ρ O fun ρ' O' => ASs X body ρ' O' { D with nx := SGh O1.length (I (i + 1)), ct := SGh O1.length (I (i + 1)), bk := D.nx }) ∧ (∀ ρ O, I items.length ρ O → D.nx ρ O))
    (hs : ∀ x, foldedSetIterable iter X.env x = pure x := by intro _; rfl) : AS X (.For tg iter body [] pos) ρ O D := fun as F σ H w r => by
  refine tS_of (ps_for hp hc pi_tI pg_tG pss_tSs hs) ?_
  refine h as F σ H w r _ fun J H1 items G O1 as1 F1 w1 g1 s1 jok ⟨I, i0, iG, step, done⟩ => ?_
  refine ⟨fun i m σ H => m + i = items.length ∧ SQ X.k as1 F1 (I i) σ H, ⟨items.length, by omega, ρ, O1, as1, F1, w1, Gr.refl _, Same.refl _, r.mono s1 g1, i0⟩, ?_⟩
  rintro i m σ2 H2 ⟨hm, ρ2, O2, as2, F2, w2, g2, s2, r2, q2⟩
  obtain ⟨j1, j2⟩ := jok O2 as2 F2 H2 w2 g2 s2 (iG _ _ _ q2)
  by_cases hi : i < items.length
  · obtain ⟨hgo, hy⟩ := j2 i items[i] (List.getElem?_eq_getElem hi)
    refine .inr ⟨hgo, SQ X.k as1 F1 (I (i + 1)), fun σ' H' z => ⟨m - 1, by omega, by omega, z⟩, fun v H' hyl => ?_⟩
    obtain ⟨F3, w3, s3, rv⟩ := hy v H' hyl
    refine tG_mono (step i _ ρ2 O2 (List.getElem?_eq_getElem hi) q2 as2 F3 σ2 H' v w3 (r2.mono s3 (Gr.refl _)) rv) fun σ4 H4 ⟨ρ4, O4, as4, F4, w4, g4, s4, r4, q4⟩ => ?_
    have nxt : ∀ {σ' H'}, SQ X.k as4 F4 (SGh O1.length (I (i + 1))) σ' H' → SQ X.k as1 F1 (I (i + 1)) σ' H' := fun z => (z.back (g2.trans g4) ((s2.trans s3).trans s4)).gh (by rw [w1.len]; exact Nat.le_refl _) w1.fa.le
    exact tSs_le (q4 as4 F4 σ4 H4 w4 r4) ⟨fun _ _ z => nxt z, fun _ _ z => PQ.back (g1.trans (g2.trans g4)) (s1.trans ((s2.trans s3).trans s4)) z, fun _ _ z => SQ.back (g1.trans (g2.trans g4)) (s1.trans ((s2.trans s3).trans s4)) z, fun _ _ z => nxt z⟩
  · have e : i = items.length := by omega
    subst e
    exact .inl ⟨j1 _ (Nat.le_refl _), ρ2, O2, as2, F2, w2, g1.trans g2, s1.trans s2, r2, done _ _ q2⟩
end
end Al
namespace Al
open PySem PySem.Spec L2
open PyProof.Rows hiding St
/-! ### comprehensions -/
def wipeA (ρ : Env1) : List Nat → Env1
  | [] => ρ
  | v :: vs => (wipeA ρ vs).set v none
theorem RS.wipe {K : KF} {as : List Addr} {F : Hp} {ρ : Env1} {σ : L2.St} (r : RS K F as ρ σ) : ∀ vs : List Nat, RS K F as (wipeA ρ vs) (wipe σ vs)
  | [] => r
  | v :: vs => (RS.wipe r vs).unset v none
theorem wipe_set_mem {i : Nat} {x : Option V} : ∀ {vs : List Nat} {σ : L2.St}, i ∈ vs → wipe (σ.set i x) vs = wipe σ vs
  | v :: vs, σ, h => by
    show (wipe (σ.set i x) vs).set v none = (wipe σ vs).set v none
    by_cases hv : i ∈ vs
    · rw [wipe_set_mem hv]
    · have e : i = v := by
        rcases List.mem_cons.mp h with e | e
        · exact e
        · exact absurd e hv
      subst e
      have : ∀ {vs : List Nat} {σ : L2.St}, i ∉ vs → wipe (σ.set i x) vs = (wipe σ vs).set i x := by
        intro vs
        induction vs with
        | nil => intro σ _; rfl
        | cons u us ih =>
          intro σ hu
          simp only [List.mem_cons, not_or] at hu
          show (wipe (σ.set i x) us).set u none = ((wipe σ us).set u none).set i x
          rw [ih hu.2, List.set_comm _ _ hu.1]
      rw [this hv, List.set_set]
theorem wipe_wipe (σ : L2.St) : ∀ vs : List Nat, wipe (wipe σ vs) vs = wipe σ vs := by
  have gen : ∀ (us vs : List Nat) (σ : L2.St), (∀ u ∈ us, u ∈ vs) → wipe (wipe σ us) vs = wipe σ vs := by
    intro us
    induction us with
    | nil => intro vs σ _; rfl
    | cons u us ih =>
      intro vs σ h
      show wipe ((wipe σ us).set u none) vs = _
      rw [wipe_set_mem (h u (by simp)), ih vs σ (fun x hx => h x (List.mem_cons_of_mem _ hx))]
  exact fun vs => gen vs vs σ (fun _ h => h)
/-- a target that stores only at the places vs -/
def Wipes (vs : List Nat) (g : TG) : Prop := ∀ v σ H Q, g v σ H Q → g v σ H fun σ2 H2 => wipe σ2 vs = wipe σ vs ∧ Q σ2 H2
theorem wipes_name {vs : List Nat} {i : Nat} (h : i ∈ vs) : Wipes vs (gName i) := fun v σ H Q q => ⟨wipe_set_mem h, q⟩
def TGMono (g : TG) : Prop := ∀ v σ H Q Q', g v σ H Q → (∀ σ' H', Q σ' H' → Q' σ' H') → g v σ H Q'
theorem mono_name {i : Nat} : TGMono (gName i) := fun _ _ _ _ _ q k => k _ _ q
/-- an abstract reading of a target's reading -/
def AGr (K : KF) (g : TG) (x : PV) (ρ : Env1) (O : Own) (Ψ : Env1 → Own → Prop) : Prop := ∀ as F σ H v, Wd K O as F H → RS K F as ρ σ → RPV K F as x v → g v σ H (SQ K as F Ψ)
section
variable {K : KF} {x : PV} {xs : List PV} {ρ : Env1} {O : Own} {Ψ : Env1 → Own → Prop}
theorem agr_name {i : Nat} (k : Ψ (ρ.set i (some x)) O) : AGr K (gName i) x ρ O Ψ := fun as F σ H v w r rv => ⟨_, O, as, F, w, Gr.refl _, Same.refl _, r.set rv i, k⟩
end
section
variable {X : Ax} {e a b c elt tg iter : Expr} {ifs es : List Expr} {ρ : Env1} {O : Own} {Φ : PV → Own → Prop} {as : List Addr} {F H : Hp} {σ : L2.St} {pos p p2 : Pos} {scope : Scope}
abbrev Ax.blk (X : Ax) (s : Shared) (H : Hp) (scope : Scope) (e : Env) (fp : List Addr) : Ax := ⟨X.c.blk s H scope e fp, X.a0, X.F0⟩
def AEb (X : Ax) (scope : Scope) (e : Expr) (ρ : Env1) (O : Own) (Φ : PV → Own → Prop) : Prop := ∀ (s : Shared) (H : Hp) (C : Addr) (cl : List (Str × Addr)) (fp : List Addr), AE (X.blk s H scope (compEnvC scope cl C X.env) fp) e ρ O Φ
@[irreducible] def tTs (X : Cx) (ifs : List Expr) : TT := fun σ H Q => ∀ pins s, Inv X pins σ H s → wpAny (model X.prog X.w) X.A (forIn ifs true fun c r => if r = true then do let ok ← isTrue c X.env (eval c X.env); pure (ForInStep.yield ok) else pure (ForInStep.yield r)) (TP X pins σ Q) X.xe s
def ATs (X : Ax) (ifs : List Expr) (ρ : Env1) (O : Own) (Φ : Bool → Own → Prop) : Prop := ∀ as F σ H, Wd X.k O as F H → RS X.k F as ρ σ → tTs X.c ifs σ H (PQb X.k as F Φ)
theorem pts_tTs : PTs X.c ifs (tTs X.c ifs) := ⟨fun pins s _ _ _ I h => by unfold tTs at h; exact h pins s I⟩
theorem tTs_of {t : TT} {Q : Bool → Hp → Prop} (h : PTs X.c ifs t) (q : t σ H Q) : tTs X.c ifs σ H Q := by unfold tTs; exact fun pins s I => h.run pins s σ H Q I q
theorem tTs_mono {Q Q' : Bool → Hp → Prop} (h : tTs X.c ifs σ H Q) (k : ∀ b H', Q b H' → Q' b H') : tTs X.c ifs σ H Q' := by
  unfold tTs at h ⊢
  exact fun pins s I => thn (h pins s I) fun _ _ ⟨H', I', z⟩ => ⟨H', I', k _ _ z⟩
theorem ats_nil {Φ : Bool → Own → Prop} (k : Φ true O) : ATs X [] ρ O Φ := fun as F σ H w r => tTs_of pts_nil ⟨O, as, F, w, Gr.refl _, Same.refl _, k⟩
theorem ats_one {Φ : Bool → Own → Prop} (h : AT X c ρ O Φ) : ATs X [c] ρ O Φ := fun as F σ H w r => tTs_of (pts_one pt_tT) (h as F σ H w r)
def ATb (X : Ax) (scope : Scope) (ifs : List Expr) (ρ : Env1) (O : Own) (Φ : Bool → Own → Prop) : Prop := ∀ (s : Shared) (H : Hp) (C : Addr) (cl : List (Str × Addr)) (fp : List Addr), ATs (X.blk s H scope (compEnvC scope cl C X.env) fp) ifs ρ O Φ
def teB (X : Ax) (scope : Scope) (e : Expr) : TE := fun σ H Q => ∀ (s0 : Shared) (H0 : Hp) (C : Addr) (cl : List (Str × Addr)) (fp : List Addr), tE (X.blk s0 H0 scope (compEnvC scope cl C X.env) fp).c e σ H Q
def ttB (X : Ax) (scope : Scope) (ifs : List Expr) : TT := fun σ H Q => ∀ (s0 : Shared) (H0 : Hp) (C : Addr) (cl : List (Str × Addr)) (fp : List Addr), tTs (X.blk s0 H0 scope (compEnvC scope cl C X.env) fp).c ifs σ H Q
/-- what is asked of a comprehension -/
def LcA (X : Ax) (scope : Scope) (elt tg iter : Expr) (ifs : List Expr) (g : TG) (vs : List Nat) (ρ : Env1) (O : Own) (Φ : PV → Own → Prop) : Prop := AI X tg iter ρ O fun items G O1 => ∃ I : Nat → List PV → Own → Prop, I 0 [] (O1 ++ [.lst []]) ∧
  (∀ i acc O, I i acc O → O[O1.length]? = some (.lst acc) ∧ G O) ∧
  (∀ i x acc O, items[i]? = some x → I i acc O → AGr X.k g x (wipeA ρ vs) O fun ρ2 O2 => ATb X scope ifs ρ2 O2 fun b O3 =>
    if b = true then AEb X scope elt ρ2 O3 fun y O4 => ∃ acc', O4[O1.length]? = some (.lst acc') ∧ acc'.length < 16000000 ∧ I (i + 1) (acc' ++ [y]) (O4.set O1.length (.lst (acc' ++ [y]))) else I (i + 1) acc O3) ∧
  (∀ acc O', I items.length acc O' → Gh O.length Φ (.o O1.length) O')
theorem lc_reads {g : TG} {vs : List Nat} {Q : VK} (wg : Wipes vs g) (mg : TGMono g) (h : LcA X scope elt tg iter ifs g vs ρ O Φ) (w : Wd X.k O as F H) (r : RS X.k F as ρ σ) (hQ : ∀ v H', PQ X.k as F Φ v H' → Q v H') :
    tLc (tI X.c tg iter) g (ttB X scope ifs) (teB X scope elt) vs σ H Q := by
  refine h as F σ H w r _ fun J H1 items G O1 as1 F1 w1 g1 s1 jok ⟨I, i0, iG, step, done⟩ => ?_
  intro D hD
  have wD := w1.new (ob := .lst []) (h := .lst []) hD ⟨[], rfl, .nil⟩ (fun z => nomatch z)
  have gD : Gr as1 (as1 ++ [D]) := Gr.app _ _
  have atD : (as1 ++ [D])[O1.length]? = some D := w1.at_new D
  refine ⟨fun i m H => m + i = items.length ∧ ∃ acc O2 as2 F2, Wd X.k O2 as2 F2 H ∧ Gr (as1 ++ [D]) as2 ∧ Same F1 F2 ∧ I i acc O2, ⟨items.length, by omega, [], _, _, F1, wD, Gr.refl _, Same.refl _, i0⟩, ?_⟩
  rintro i m H2 ⟨hm, acc, O2, as2, F2, w2, g2, s2, q2⟩
  obtain ⟨hacc, hGO⟩ := iG _ _ _ q2
  obtain ⟨j1, j2⟩ := jok O2 as2 F2 H2 w2 (gD.trans g2) s2 hGO
  by_cases hi : i < items.length
  · obtain ⟨hgo, hy⟩ := j2 i items[i] (List.getElem?_eq_getElem hi)
    refine .inr ⟨hgo, fun H => ∃ acc O2 as2 F2, Wd X.k O2 as2 F2 H ∧ Gr (as1 ++ [D]) as2 ∧ Same F1 F2 ∧ I (i + 1) acc O2, fun H' z => ⟨m - 1, by omega, by omega, z⟩, fun v H' hyl => ?_⟩
    obtain ⟨F3, w3, s3, rv⟩ := hy v H' hyl
    have r3 : RS X.k F3 as2 (wipeA ρ vs) (wipe σ vs) := (r.mono ((s1.trans s2).trans s3) ((g1.trans gD).trans g2)).wipe vs
    refine mg _ _ _ _ _ (wg _ _ _ _ (step i _ acc O2 (List.getElem?_eq_getElem hi) q2 as2 F3 (wipe σ vs) H' v w3 r3 rv)) fun σ4 H4 ⟨hw, ρ4, O4, as4, F4, w4, g4, s4, r4, q4⟩ => ?_
    refine ⟨hw.trans (wipe_wipe σ vs), fun s0 H0 C cl fp => tTs_mono (q4 s0 H0 C cl fp as4 F4 σ4 H4 w4 r4) fun b H5 ⟨O5, as5, F5, w5, g5, s5, q5⟩ => ?_⟩
    cases b with
    | false =>
      simp only [Bool.false_eq_true, if_false] at q5 ⊢
      exact ⟨acc, O5, as5, F5, w5, (g2.trans g4).trans g5, ((s2.trans s3).trans s4).trans s5, q5⟩
    | true =>
      simp only [if_true] at q5 ⊢
      intro s0 H0 C cl fp
      refine (q5 s0 H0 C cl fp).run w5 (r4.mono s5 g5) fun y O6 as6 F6 vy H6 w6 g6 s6 ry r6 ⟨acc', e6, l6, q6⟩ => ?_
      obtain ⟨aD, hD1, fD, hO, hh, vs', e7, rvs⟩ := w6.at_ e6
      have e8 : aD = D := Option.some.inj (hD1.symm.trans ((((g2.trans g4).trans g5).trans g6) _ _ atD))
      subst e8; subst e7
      refine ⟨vs', hh, by rw [← rvs.len, sizeLine_eq]; omega, acc' ++ [y], _, as6, F6, w6.set (ob := .lst (acc' ++ [y])) (h := .lst (vs' ++ [vy])) hD1 fD ⟨_, rfl, Paired.snoc rvs ry⟩ (fun z => nomatch z), ((g2.trans g4).trans g5).trans g6, (((s2.trans s3).trans s4).trans s5).trans s6, q6⟩
  · have e : i = items.length := by omega
    subst e
    refine .inl ⟨j1 _ (Nat.le_refl _), hQ _ _ ?_⟩
    exact (done _ _ q2).sound (by rw [w.len]; exact Nat.le_refl _) w.fa.le w2 ((g1.trans gD).trans g2) (s1.trans s2) ⟨D, g2 _ _ atD, rfl⟩
theorem ae_lc {own : List (Str × Nat)} {g : TG} (hc : X.calm = true) (hN : X.N.Nodup) (ok : BlkOk X.N X.env.scope scope own) (hg : ∀ (s : Shared) (H : Hp) (C : Addr) (cl : List (Str × Addr)) (fp : List Addr), PG (X.blk s H scope (compEnvC scope cl C X.env) fp).c tg g) (wg : Wipes (own.map (·.2)) g) (mg : TGMono g)
    (h : LcA X scope elt tg iter ifs g (own.map (·.2)) ρ O Φ) (hs : ∀ x, foldedSetIterable iter X.env x = pure x := by intro _; rfl) : AE X (.ListComp elt [⟨tg, iter, ifs, 0⟩] scope pos) ρ O Φ := fun as F σ H w r => by
  refine tE_of (pe_lc hc hN pi_tI ok hg (tt := ttB X scope ifs) (te := teB X scope elt) (fun s0 H0 C cl fp => ⟨fun pins s σ H Q I z => pts_tTs.run pins s σ H Q I (z s0 H0 C cl fp)⟩) (fun s0 H0 C cl fp => ⟨fun pins s σ H Q I z => pe_tE.run pins s σ H Q I (z s0 H0 C cl fp)⟩) hs) ?_
  exact lc_reads wg mg h w r fun _ _ z => z
theorem as_setLc {D : AEnds} (i : Nat) {y : Str} {py spos : Pos} {own : List (Str × Nat)} {g : TG} (hc : X.calm = true) (hN : X.N.Nodup) (ok : BlkOk X.N X.env.scope scope own) (hg : ∀ (s : Shared) (H : Hp) (C : Addr) (cl : List (Str × Addr)) (fp : List Addr), PG (X.blk s H scope (compEnvC scope cl C X.env) fp).c tg g) (wg : Wipes (own.map (·.2)) g) (mg : TGMono g)
    (h : LcA X scope elt tg iter ifs g (own.map (·.2)) ρ O fun v O1 => D.nx (ρ.set i (some v)) O1)
    (hsw : swapsWith (.ListComp elt [⟨tg, iter, ifs, 0⟩] scope pos) (some (.Name y py)) spos.line X.env = pure true) (hy : X.N[i]? = some y := by rfl) (hyl : X.env.scope.names.lookup y = some .local := by rfl)
    (hs : ∀ x, foldedSetIterable iter X.env x = pure x := by intro _; rfl) : AS X (.Assign [.Name y py] (.ListComp elt [⟨tg, iter, ifs, 0⟩] scope pos) spos) ρ O D := fun as F σ H w r => by
  refine tS_of (ps_setLc hc hN hy hyl hsw pi_tI ok hg (tt := ttB X scope ifs) (te := teB X scope elt) (fun s0 H0 C cl fp => ⟨fun pins s σ H Q I z => pts_tTs.run pins s σ H Q I (z s0 H0 C cl fp)⟩) (fun s0 H0 C cl fp => ⟨fun pins s σ H Q I z => pe_tE.run pins s σ H Q I (z s0 H0 C cl fp)⟩) hs) ?_
  refine lc_reads wg mg h w r fun v H' ⟨pv, O', as', F', w', g', s', rv, q⟩ => ?_
  exact ⟨_, O', as', F', w', g', s', (r.mono s' g').set rv i, q⟩
end
/-! ### rooms that know that nothing is being shown -/
structure RoomG (k : Nat) (A : Around) : Prop where
  r : Room k A
  g : A.guards = some []
theorem RoomG.mono {j k : Nat} {A : Around} (h : RoomG k A) (hj : j ≤ k) : RoomG j A := ⟨h.r.mono hj, h.g⟩
theorem RoomG.units {k : Nat} {A : Around} (h : RoomG k A) : A.units + 64 < cLine := h.r.units
theorem RoomG.un {k : Nat} {A : Around} (h : RoomG k A) : A.units + 16 * k + 200 < cLine := h.r.un
theorem hu65 {k : Nat} {A : Around} {e : Env} (h : RoomG k (A.deeper e)) : A.units + 3 + 65 < cLine := Nat.lt_of_le_of_lt (by show A.units + 3 + 65 ≤ (A.units + 3) + 16 * k + 200; omega) h.un
theorem hu66 {k : Nat} {A : Around} {e : Env} (h : RoomG k (A.deeper e)) : A.units + 3 + 66 < cLine := Nat.lt_of_le_of_lt (by show A.units + 3 + 66 ≤ (A.units + 3) + 16 * k + 200; omega) h.un
/-- the def at f keeps the promise sp -/
structure FnA (P : Program) (w : World) (K : PySem.W.Frag) (mg : Str → Option Value) (base : Heap) (CX : CXT) (k : Nat) (f : Addr) (fd : FuncData) (ps : List Str) (sp : Sp) : Prop where
  len : ∀ vs H Q E, sp vs H Q E → vs.length = ps.length
  run : ∀ (A : Around) (outer : List Env) (s : Shared) (H : Hp) (args : Args) (us : List Value) (vs : List V) (Q : VK) (E : XK), RoomG k A → Env0 P w K mg base A outer s H → BindsTo s fd args (ps.zip us) → Vals vs us → sp vs H Q E →
    codeAny (model P w) A (.call (.ref f) args) (CR CX outer P w H s Q E) s
theorem FnA.mono {P : Program} {w : World} {K : PySem.W.Frag} {mg : Str → Option Value} {base : Heap} {CX : CXT} {j k : Nat} {f : Addr} {fd : FuncData} {ps : List Str} {sp : Sp} (F : FnA P w K mg base CX j f fd ps sp) (h : j ≤ k) :
    FnA P w K mg base CX k f fd ps sp := ⟨F.len, fun A outer s H args us vs Q E hr => F.run A outer s H args us vs Q E (hr.mono h)⟩
theorem guards_deeper {A : Around} {e : Env} (h : A.guards = some []) : (A.deeper e).guards = some [] := h
theorem fnA_of {CX : CXT} {P : Program} {w : World} {K : PySem.W.Frag} {mg : Str → Option Value} {base : Heap} {k : Nat} {f : Addr} {name qual : Str} {params : Arguments} {body : List Stmt} {scope : Scope} {dV kV doc pm cdv ct oc : Value} {an od : Option Addr}
    {osl : Array (Option Value)} {N ps : List Str} {sp : Sp} (lk : K.lookup f = some ⟨oc, od, .func (PySem.W.fnOf name qual params body scope dV kV doc pm an cdv ct), osl⟩) (hcd : PySem.W.codeIn K cdv qual = true) (S : FnScope N ps scope)
    (len : ∀ vs H Q E, sp vs H Q E → vs.length = ps.length)
    (hbody : ∀ (A : Around) (outer : List Env) (s : Shared) (H : Hp) (vs : List V) (Q : VK) (E : XK), RoomG k (A.deeper (envOfC qual scope s.heap.objs.size f cdv)) → sp vs H Q E →
      ∃ t, PSs (cxOf CX P w K mg base N qual scope f cdv A outer s H E) body t ∧ t { nx := fun _ H' => Q .non H', rt := Q } (L2.start N vs) H) :
    FnA P w K mg base CX (k + 1) f (PySem.W.fnOf name qual params body scope dV kV doc pm an cdv ct) ps sp := by
  refine ⟨len, fun A outer s H args us vs Q E hr e0 hb r hsp => ?_⟩
  have hl := len _ _ _ _ hsp
  have KX : K.In s.heap := e0.mod.kin.keeps fun b o e => (e0.bs b o e).1
  have lim : s.heap.NoLimit := e0.mod.nolimit.keeps fun b o e => (e0.bs b o e).1
  have hkind : ∀ y ∈ ps.zip us, scope.names.lookup y.1 = some .local ∨ (scope.names.lookup y.1 = some .cell ∧ ((cellsFrom (s.heap.objs.size + 1) scope.names []).lookup y.1).isSome = true) := fun ⟨n, v⟩ hy => by
    rcases S.par n (List.of_mem_zip hy).1 with q | q
    · exact .inl q
    · exact .inr ⟨q, PySem.W.cellsFrom_some _ _ _ (.inl q)⟩
  refine codeAny_call_function hr.r.depth (KX _ _ lk) rfl S.co S.gen rfl (PySem.W.codeRec_of KX hcd) (hb _ _ _ _ ?_)
  refine wpAny_newFunctionEnv_cells S.kind hkind fun env he s1 x => ?_
  subst he
  refine ⟨lim.keeps x.toInCall.keep, codeAny_func ?_⟩
  obtain ⟨t, ht, hq⟩ := hbody A outer s H vs Q E ⟨hr.r.deeper _, guards_deeper hr.g⟩ hsp
  have I : Inv (cxOf CX P w K mg base N qual scope f cdv A outer s H E) [] (L2.start N vs) H s1 := inv_start S hr.r.hd e0 hl r x
  refine wpAny_mono (ht.run [] s1 (L2.start N vs) H _ I hq) (fun fl s' hs => ?_) fun e s' hs => hs
  have fin : ∀ {σ' : L2.St} {H' : Hp} {v : V} {u : Value}, Inv (cxOf CX P w K mg base N qual scope f cdv A outer s H E) [] σ' H' s' → RelV v u → Q v H' → CE outer P w H s Q u s' :=
    fun {σ' H' v u} J rv q => ⟨v, H', J.os, J.bare, J.base, J.hok, rv, q⟩
  cases fl with
  | ret u =>
    obtain ⟨v, σ', H', J, rv, q⟩ := hs
    exact fin J rv q
  | next =>
    obtain ⟨σ', H', J, q⟩ := hs
    exact fin (v := V.non) (u := Value.none) J rfl q
  | brk =>
    obtain ⟨_, _, _, q⟩ := hs
    exact False.elim q
  | cont =>
    obtain ⟨_, _, _, q⟩ := hs
    exact False.elim q
/-! ### promises -/
/-- what holds when an exception has left: Ξ -/
def XQ (K : KF) (as : List Addr) (F : Hp) (Ξ : Ex → Own → Prop) : XK := fun cls d H' => ∃ e O' as' F', Wd K O' as' F' H' ∧ Gr as as' ∧ Same F F' ∧ XRel K F' e cls d ∧ Ξ e O'
/-- an abstract promise: R args O Φ Ξ is what must hold so that the call comes to a value and owned objects of which Φ holds, or raises an exception of which Ξ holds -/
abbrev RX := List PV → Own → (PV → Own → Prop) → (Ex → Own → Prop) → Prop
/-- a promise of a def that raises nothing -/
abbrev RA := List PV → Own → (PV → Own → Prop) → Prop
abbrev up (R : RA) : RX := fun args O Φ _ => R args O Φ
def spA (K : PySem.W.Frag) (mg : Str → Option Value) (R : RX) : Sp := fun vs H Q E => ∃ O as F args Φ Ξ, Wd ⟨K, mg, as, F⟩ O as F H ∧ RPs ⟨K, mg, as, F⟩ F as args vs ∧ R args O Φ Ξ ∧ (∀ v H', PQ ⟨K, mg, as, F⟩ as F Φ v H' → Q v H') ∧ ∀ cls d H', XQ ⟨K, mg, as, F⟩ as F Ξ cls d H' → E cls d H'
theorem rps_app {K : KF} {F : Hp} {as : List Addr} : ∀ {ps : List PV} {vs : List V}, RPs K F as ps vs → ∀ {ps' : List PV} {vs' : List V}, RPs K F as ps' vs' → RPs K F as (ps ++ ps') (vs ++ vs')
  | _, _, .nil, _, _, h => h
  | _, _, .cons h t, _, _, h' => .cons h (rps_app t h')
theorem rps_floor {K : KF} {a1 : List Addr} {F1 : Hp} {F : Hp} {as : List Addr} : ∀ {p : List PV} {v : List V}, RPs K F as p v → RPs ⟨K.K, K.mg, a1, F1⟩ F as p v
  | _, _, .nil => .nil
  | _, _, .cons h t => .cons (rpv_floor h) (rps_floor t)
theorem PQ.lift {K : KF} {as : List Addr} {F : Hp} {a1 : List Addr} {F1 : Hp} {Φ : PV → Own → Prop} {v : V} {H : Hp} (g : Gr K.a0 as) (s : Same K.F0 F) (h : PQ ⟨K.K, K.mg, a1, F1⟩ as F Φ v H) : PQ K as F Φ v H := by
  obtain ⟨pv, O', as', F', w', g', s', r, q⟩ := h
  exact ⟨pv, O', as', F', w'.floor (g.trans g') (s.trans s'), g', s', rpv_floor (K := ⟨K.K, K.mg, a1, F1⟩) (a1 := K.a0) (F1 := K.F0) r, q⟩
theorem XQ.lift {K : KF} {as : List Addr} {F : Hp} {a1 : List Addr} {F1 : Hp} {Ξ : Ex → Own → Prop} {cls : Value} {d : Option Addr} {H : Hp} (g : Gr K.a0 as) (s : Same K.F0 F) (h : XQ ⟨K.K, K.mg, a1, F1⟩ as F Ξ cls d H) : XQ K as F Ξ cls d H := by
  obtain ⟨e, O', as', F', w', g', s', r, q⟩ := h
  exact ⟨e, O', as', F', w'.floor (g.trans g') (s.trans s'), g', s', r, q⟩
/-- what is raised here is taken: Ξ of the exception, the slots, the owned objects -/
def TakesA (X : Ax) (Ξ : Ex → Env1 → Own → Prop) : Prop := Takes X.c fun cls d σ H => ∃ e ρ O as F, Wd X.k O as F H ∧ RS X.k F as ρ σ ∧ XRel X.k F e cls d ∧ Ξ e ρ O
structure Gx where
  P : Program
  w : World
  K : PySem.W.Frag
  mg : Str → Option Value
  base : Heap
abbrev gx (X : Ax) : Gx := ⟨X.c.prog, X.c.w, X.c.K, X.c.mg, X.c.base⟩
abbrev Fn (G : Gx) (k : Nat) (f : Addr) (fd : FuncData) (ps : List Str) (R : RX) : Prop := FnA G.P G.w G.K G.mg G.base (CX G.P G.w) k f fd ps (spA G.K G.mg R)
/-- the def x: its parameters ps, the last of them filled up by dps where they are not written -/
def DefA (G : Gx) (k : Nat) (x : Str) (ps : List Str) (dps : List PV) (R : RX) : Prop :=
  ∃ f fd ds dvs, Fn G k f fd ps R ∧ G.mg x = some (.ref f) ∧ PySem.W.keepIn G.K (.ref f) = true ∧ Binds G.K fd ps ds ∧ Vals dvs ds ∧ ∀ KK F as, RPs KK F as dps dvs
/-- the def x called with n values by place and others by the names ks -/
def KwA (G : Gx) (k : Nat) (x : Str) (ps : List Str) (n : Nat) (ks : List Str) (gP : List PV → List PV → List PV) (R : RX) : Prop :=
  ∃ f fd g gV, Fn G k f fd ps R ∧ G.mg x = some (.ref f) ∧ PySem.W.keepIn G.K (.ref f) = true ∧ KBn G.K fd ps n ks g gV ∧ ∀ KK F as xs vs ys zs, RPs KK F as xs vs → RPs KK F as ys zs → RPs KK F as (gP xs ys) (gV vs zs)
theorem defA {G : Gx} {k : Nat} {x : Str} {ps : List Str} {R : RX} {f : Addr} {fd : FuncData} (h : Fn G k f fd ps R) (hg : G.mg x = some (.ref f)) (hk : PySem.W.keepIn G.K (.ref f) = true) (hb : Binds G.K fd ps []) : DefA G k x ps [] R :=
  ⟨f, fd, [], [], h, hg, hk, hb, .nil, fun _ _ _ => .nil⟩
/-- a weaker promise, with ghosts -/
theorem spA.imp {K : PySem.W.Frag} {mg : Str → Option Value} {R R' : RX} (h : ∀ args O Φ Ξ, R' args O Φ Ξ → R args O (Gh O.length Φ) (fun e O' => Ξ e O')) {vs : List V} {H : Hp} {Q : VK} {E : XK} (q : spA K mg R' vs H Q E) : spA K mg R vs H Q E := by
  obtain ⟨O, as, F, args, Φ, Ξ, w, rs, r, h1, h2⟩ := q
  exact ⟨O, as, F, args, _, _, w, rs, h _ _ _ _ r, fun v H' z => h1 v H' (PQ.gh (by rw [w.len]; exact Nat.le_refl _) w.fa.le z), h2⟩
theorem DefA.imp {G : Gx} {k : Nat} {x : Str} {ps : List Str} {dps : List PV} {R R' : RX} (D : DefA G k x ps dps R) (h : ∀ args O Φ Ξ, R' args O Φ Ξ → R args O (Gh O.length Φ) (fun e O' => Ξ e O')) : DefA G k x ps dps R' := by
  obtain ⟨f, fd, ds, dvs, h1, h2⟩ := D
  exact ⟨f, fd, ds, dvs, ⟨fun vs H Q E q => h1.len vs H Q E (spA.imp h q), fun A outer s H args us vs Q E hr he hb hv hs => h1.run A outer s H args us vs Q E hr he hb hv (spA.imp h hs)⟩, h2⟩
theorem KwA.imp {G : Gx} {k n : Nat} {x : Str} {ps ks : List Str} {gP : List PV → List PV → List PV} {R R' : RX} (D : KwA G k x ps n ks gP R) (h : ∀ args O Φ Ξ, R' args O Φ Ξ → R args O (Gh O.length Φ) (fun e O' => Ξ e O')) : KwA G k x ps n ks gP R' := by
  obtain ⟨f, fd, g, gV, h1, h2⟩ := D
  exact ⟨f, fd, g, gV, ⟨fun vs H Q E q => h1.len vs H Q E (spA.imp h q), fun A outer s H args us vs Q E hr he hb hv hs => h1.run A outer s H args us vs Q E hr he hb hv (spA.imp h hs)⟩, h2⟩
section
variable {X : Ax} {e : Expr} {es : List Expr} {kws : List Keyword} {ρ : Env1} {O : Own} {Φ : PV → Own → Prop} {as : List Addr} {F H : Hp} {σ : L2.St} {pos p p2 kpos : Pos}
/-- the callee runs; what it raises is wished for at the slots -/
theorem runA {k : Nat} {f : Addr} {fd : FuncData} {ps : List Str} {sp : Sp} {ds : List Value} {dvs : List V} {W : WX} {pins : List (Addr × Obj)} {s : Shared} {Q : VK} {us : List Value} {vs : List V} {E : XK} (F : FnA X.c.prog X.c.w X.c.K X.c.mg X.c.base (CX X.c.prog X.c.w) k f fd ps sp) (hr : RoomG k X.c.A) (hb : Binds X.c.K fd ps ds) (hd : Vals dvs ds) (tk : Takes X.c W)
    (hW : ∀ cls d H', E cls d H' → W cls d σ H') (I : Inv X.c pins σ H s) (r : Vals vs us) (h : sp (vs ++ dvs) H Q E) : wpAny (model X.c.prog X.c.w) X.c.A (call (.ref f) us) (L2.EP X.c pins σ Q) X.c.xe s := by
  have r2 : Vals (vs ++ dvs) (us ++ ds) := r.append hd
  have hl : (us ++ ds).length = ps.length := by rw [← r2.length]; exact F.len _ _ _ _ h
  refine wpAny_call (codeAny_mono (F.run X.c.A X.c.stack s H ⟨us, []⟩ (us ++ ds) (vs ++ dvs) Q E hr I.env0 (hb s us I.kIn hl) r2 h) fun r s' hq => ?_)
  cases r with
  | error e => exact tk e s' (XE.of_call I hW hq)
  | ok fl =>
    cases fl with
    | ret u => exact I.after hq
    | next => exact False.elim hq
    | brk => exact False.elim hq
    | cont => exact False.elim hq
theorem pe_callX {k : Nat} {f : Addr} {fd : FuncData} {ps : List Str} {sp : Sp} {ds : List Value} {dvs : List V} {W : WX} {x : Str} {t : TA} (F : FnA X.c.prog X.c.w X.c.K X.c.mg X.c.base (CX X.c.prog X.c.w) k f fd ps sp) (hr : RoomG k X.c.A) (hg : Gl X.c x) (hm : X.c.mg x = some (.ref f)) (hk : PySem.W.keepIn X.c.K (.ref f) = true) (hb : Binds X.c.K fd ps ds) (hd : Vals dvs ds) (tk : Takes X.c W)
    (ha : PA X.c (e :: es) t) (hdb : (x == ("__debug__" : Str)) = false := by decide) (he : starEach (e :: es) X.c.env = (false, eval e X.c.env) :: starEach es X.c.env := by rfl) (hpl : (backTo pos (starEach es X.c.env)).any (·.1) = false := by rfl) :
    PE X.c (.Call (.Name x p) (e :: es) [] pos) (fun σ H Q => t σ H fun vs H1 => ∃ E : XK, sp (vs ++ dvs) H1 Q E ∧ ∀ cls d H', E cls d H' → W cls d σ H') := by
  refine ⟨fun pins s σ H Q I h => ?_⟩
  refine wpAny_Call_Name_kw (ld_glob I hg hm ?_ hdb)
  refine PySem.W.callWith_K (h₀ := X.c.base) I.ok.mod.kin hk (thn (ha.run pos pins s σ H _ I h) fun us s1 ⟨vs, H1, I1, r, E, q, hW⟩ => ⟨I1.kIn, ?_⟩) he hpl
  exact runA F hr hb hd tk hW I1 r q
theorem pe_callX0 {k : Nat} {f : Addr} {fd : FuncData} {ps : List Str} {sp : Sp} {ds : List Value} {dvs : List V} {W : WX} {x : Str} (F : FnA X.c.prog X.c.w X.c.K X.c.mg X.c.base (CX X.c.prog X.c.w) k f fd ps sp) (hr : RoomG k X.c.A) (hg : Gl X.c x) (hm : X.c.mg x = some (.ref f)) (hk : PySem.W.keepIn X.c.K (.ref f) = true) (hb : Binds X.c.K fd ps ds) (hd : Vals dvs ds) (tk : Takes X.c W)
    (hdb : (x == ("__debug__" : Str)) = false := by decide) : PE X.c (.Call (.Name x p) [] [] pos) (fun σ H Q => ∃ E : XK, sp dvs H Q E ∧ ∀ cls d H', E cls d H' → W cls d σ H') := by
  refine ⟨fun pins s σ H Q I h => ?_⟩
  obtain ⟨E, q, hW⟩ := h
  refine wpAny_Call_Name_kw (ld_glob I hg hm ?_ hdb)
  exact PySem.W.callWith_K0 I.kIn hk (runA (us := []) F hr hb hd tk hW I .nil q)
/-- f(e, ..): Ξ takes what it raises -/
theorem ae_callX {k : Nat} {ps : List Str} {dps : List PV} {R : RX} {x : Str} {Ξ : Ex → Env1 → Own → Prop} (G : DefA (gx X) k x ps dps R) (hr : RoomG k X.A) (tk : TakesA X Ξ)
    (h : AA X (e :: es) ρ O fun args O1 => R (args ++ dps) O1 Φ fun ex O2 => Ξ ex ρ O2) (hg : Gl X.c x := by rfl) (hdb : (x == ("__debug__" : Str)) = false := by decide) (he : starEach (e :: es) X.env = (false, eval e X.env) :: starEach es X.env := by rfl) (hpl : (backTo pos (starEach es X.env)).any (·.1) = false := by rfl) : AE X (.Call (.Name x p) (e :: es) [] pos) ρ O Φ := fun as F σ H w r => by
  obtain ⟨f, fd, ds, dvs, h1, h2, h3, h4, h5, h6⟩ := G
  refine tE_of (pe_callX h1 hr hg h2 h3 h4 h5 tk pa_tA hdb he hpl) ?_
  refine h.run w r fun args O1 as1 F1 vs H1 w1 g1 s1 rx r1 q => ?_
  refine ⟨XQ ⟨X.c.K, X.c.mg, as1, F1⟩ as1 F1 (fun ex O2 => Ξ ex ρ O2), ⟨O1, as1, F1, args ++ dps, Φ, _, w1.floor (Gr.refl _) (Same.refl _), ?_, q, fun v H' z => ?_, fun _ _ _ z => z⟩, fun cls d H' z => ?_⟩
  · exact rps_floor (K := X.k) (rps_app rx (h6 _ F1 as1))
  · exact PQ.back g1 s1 (PQ.lift (K := X.k) w1.fa w1.fF z)
  · obtain ⟨ex, O2, as2, F2, w2, g2, s2, rr, q2⟩ := XQ.lift (K := X.k) w1.fa w1.fF z
    exact ⟨ex, ρ, O2, as2, F2, w2, r1.mono s2 g2, rr, q2⟩
theorem ae_callX0 {k : Nat} {ps : List Str} {dps : List PV} {R : RX} {x : Str} {Ξ : Ex → Env1 → Own → Prop} (G : DefA (gx X) k x ps dps R) (hr : RoomG k X.A) (tk : TakesA X Ξ)
    (h : R dps O Φ fun ex O2 => Ξ ex ρ O2) (hg : Gl X.c x := by rfl) (hdb : (x == ("__debug__" : Str)) = false := by decide) : AE X (.Call (.Name x p) [] [] pos) ρ O Φ := fun as F σ H w r => by
  obtain ⟨f, fd, ds, dvs, h1, h2, h3, h4, h5, h6⟩ := G
  refine tE_of (pe_callX0 h1 hr hg h2 h3 h4 h5 tk hdb) ?_
  refine ⟨XQ ⟨X.c.K, X.c.mg, as, F⟩ as F (fun ex O2 => Ξ ex ρ O2), ⟨O, as, F, dps, Φ, _, w.floor (Gr.refl _) (Same.refl _), ?_, h, fun v H' z => ?_, fun _ _ _ z => z⟩, fun cls d H' z => ?_⟩
  · exact rps_floor (K := X.k) (h6 _ F as)
  · exact PQ.lift (K := X.k) w.fa w.fF z
  · obtain ⟨ex, O2, as2, F2, w2, g2, s2, rr, q2⟩ := XQ.lift (K := X.k) w.fa w.fF z
    exact ⟨ex, ρ, O2, as2, F2, w2, r.mono s2 g2, rr, q2⟩
/-- a def that raises nothing -/
theorem AA.mono {Φ Φ' : List PV → Own → Prop} (h : AA X es ρ O Φ) (k : ∀ xs O, Φ xs O → Φ' xs O) : AA X es ρ O Φ' := fun as F σ H w r =>
  tA_mono (h as F σ H w r) fun v H' ⟨pv, O1, as1, F1, w1, g, e1, rp, q⟩ => ⟨pv, O1, as1, F1, w1, g, e1, rp, k _ _ q⟩
theorem takes_none {X : Ax} : TakesA X fun _ _ _ => False := fun u s' ⟨_, _, _, _, _, _, _, _, _, _, _, _, _, _, _, _, z⟩ => by
  obtain ⟨_, _, _, _, _, _, _, _, q⟩ := z
  exact q.elim
theorem ae_callD {k : Nat} {ps : List Str} {dps : List PV} {R : RA} {x : Str} (G : DefA (gx X) k x ps dps (up R)) (hr : RoomG k X.A)
    (h : AA X (e :: es) ρ O fun args O1 => R (args ++ dps) O1 Φ) (hg : Gl X.c x := by rfl) (hdb : (x == ("__debug__" : Str)) = false := by decide) (he : starEach (e :: es) X.env = (false, eval e X.env) :: starEach es X.env := by rfl) (hpl : (backTo pos (starEach es X.env)).any (·.1) = false := by rfl) : AE X (.Call (.Name x p) (e :: es) [] pos) ρ O Φ :=
  ae_callX (Ξ := fun _ _ _ => False) G hr takes_none h hg hdb he hpl
theorem ae_callA {k : Nat} {ps : List Str} {R : RA} {x : Str} (G : DefA (gx X) k x ps [] (up R)) (hr : RoomG k X.A)
    (h : AA X (e :: es) ρ O fun args O1 => R args O1 Φ) (hg : Gl X.c x := by rfl) (hdb : (x == ("__debug__" : Str)) = false := by decide) (he : starEach (e :: es) X.env = (false, eval e X.env) :: starEach es X.env := by rfl) (hpl : (backTo pos (starEach es X.env)).any (·.1) = false := by rfl) : AE X (.Call (.Name x p) (e :: es) [] pos) ρ O Φ :=
  ae_callD G hr (h.mono fun xs O1 q => by rw [List.append_nil]; exact q) hg hdb he hpl
/-- .. what it tells is frozen, or let go -/
theorem ae_callF {k : Nat} {ps : List Str} {R : RA} {x : Str} (G : DefA (gx X) k x ps [] (up R)) (hr : RoomG k X.A)
    (h : AA X (e :: es) ρ O fun args O1 => R args O1 (Gh O1.length Φ)) (hg : Gl X.c x := by rfl) (hdb : (x == ("__debug__" : Str)) = false := by decide) (he : starEach (e :: es) X.env = (false, eval e X.env) :: starEach es X.env := by rfl) (hpl : (backTo pos (starEach es X.env)).any (·.1) = false := by rfl) : AE X (.Call (.Name x p) (e :: es) [] pos) ρ O Φ :=
  ae_callA (R := fun args O Φ => R args O (Gh O.length Φ)) (G.imp fun _ _ _ _ h => h) hr h hg hdb he hpl
end
section
variable {P : Program} {w : World} {K : PySem.W.Frag} {mg : Str → Option Value} {base : Heap}
/-- where the body of a def stands -/
abbrev axN (P : Program) (w : World) (K : PySem.W.Frag) (mg : Str → Option Value) (base : Heap) (N : List Str) (qual : Str) (scope : Scope) (f : Addr) (cdv : Value) (A : Around) (outer : List Env) (s : Shared) (H : Hp) (E : XK) (as : List Addr) (F : Hp) : Ax :=
  ⟨(cxOf (CX P w) P w K mg base N qual scope f cdv A outer s H E).nox, as, F⟩
abbrev axX (P : Program) (w : World) (K : PySem.W.Frag) (mg : Str → Option Value) (base : Heap) (N : List Str) (qual : Str) (scope : Scope) (f : Addr) (cdv : Value) (A : Around) (outer : List Env) (s : Shared) (H : Hp) (E : XK) (as : List Addr) (F : Hp) : Ax :=
  ⟨cxOf (CX P w) P w K mg base N qual scope f cdv A outer s H E, as, F⟩
theorem okA {x qual : Str} {st : Stmt} {f : Addr} {fd : FuncData} {N ps : List Str} {k : Nat} {R : RX} (F : Fun K x qual st f fd) (S : FnScope N ps (defScope st)) (len : ∀ args O Φ Ξ, R args O Φ Ξ → args.length = ps.length)
    (hbody : ∀ (cdv : Value) (A : Around) (outer : List Env) (s : Shared) (H : Hp) (E : XK) (as0 : List Addr) (F0 : Hp) (args : List PV) (O : Own) (Φ : PV → Own → Prop) (Ξ : Ex → Own → Prop), RoomG k (A.deeper (envOfC qual (defScope st) s.heap.objs.size f cdv)) → R args O Φ Ξ →
      ASs (axN P w K mg base N qual (defScope st) f cdv A outer s H E as0 F0) (defBody st) (args.map some ++ List.replicate (N.length - args.length) none) O { nx := fun _ O' => Gh O.length Φ (.d .none) O', rt := Gh O.length Φ }) : Fn ⟨P, w, K, mg, base⟩ (k + 1) f fd ps R := by
  obtain ⟨oc, od, kV, doc, pm, an, cdv, ct, osl, rfl, lk, hcd⟩ := F.ex
  refine fnA_of lk hcd S (fun vs H Q E h => ?_) fun A outer s H vs Q E hr h => ?_
  · obtain ⟨O, as, F, args, Φ, Ξ, w, rs, q, _⟩ := h
    rw [← rs.len]
    exact len _ _ _ _ q
  · obtain ⟨O, as, F, args, Φ, Ξ, w0, rs, q, hQ, hE⟩ := h
    have z := hbody cdv A outer s H E as F args O Φ Ξ hr q as F (L2.start N vs) H w0 (by unfold L2.start; rw [← rs.len]; exact RS.start _ rs)
    refine ⟨_, (pss_tSs (X := (axN P w K mg base N qual (defScope st) f cdv A outer s H E as F).c)).nox, ?_⟩
    refine tSs_le z ⟨fun σ' H' y => ?_, fun v H' y => ?_, fun _ _ y => ?_, fun _ _ y => ?_⟩
    · obtain ⟨ρ', O', as', F', w', g', s', r', q'⟩ := y
      exact hQ _ _ (q'.sound (by rw [w0.len]; exact Nat.le_refl _) w0.fa.le w' g' s' .non)
    · exact hQ _ _ (PQ.gh (by rw [w0.len]; exact Nat.le_refl _) w0.fa.le y)
    · obtain ⟨_, _, _, _, _, _, _, _, z⟩ := y
      exact z
    · obtain ⟨_, _, _, _, _, _, _, _, z⟩ := y
      exact z
/-- ghosts at a raise: what is owned beyond b is let go -/
inductive XGh (b : Nat) (Ξ : Ex → Own → Prop) : Ex → Own → Prop
  | keep {e : Ex} {O : Own} : Ξ e O → XGh b Ξ e O
  | drop {e : Ex} {O : Own} (m : Nat) : b ≤ m → (O.take m).all (AO.below m) = true → XGh b Ξ e (O.take m) → XGh b Ξ e O
theorem XGh.sound {K : KF} {as0 : List Addr} {F0 : Hp} {b : Nat} {Ξ : Ex → Own → Prop} (hb : as0.length ≤ b) (hf : K.a0.length ≤ as0.length) {e : Ex} {O : Own} (h : XGh b Ξ e O) : ∀ {as : List Addr} {F H : Hp} {cls : Value} {d : Option Addr}, Wd K O as F H → Gr as0 as → Same F0 F → XRel K F e cls d → XQ K as0 F0 Ξ cls d H := by
  induction h with
  | keep q => intro as F H cls d w g s r; exact ⟨_, _, as, F, w, g, s, r, q⟩
  | drop m e1 e3 _ ih =>
    intro as F H cls d w g s r
    exact ih (w.take (Nat.le_trans hf (Nat.le_trans hb e1)) e3) (g.take (Nat.le_trans hb e1)) s r
end
end Al
namespace Al
open PySem PySem.Spec L2
open PyProof.Rows hiding St
section
variable {X : Ax} {O : Own} {Φ : PV → Own → Prop} {i j : Int} {x y : Str}
abbrev pI (i : Int) : PV := .d (.int i)
abbrev pB (i : Bool) : PV := .d (.bool i)
abbrev pS (i : Str) : PV := .d (.str i)
abbrev pN : PV := .d .none
abbrev pL (xs : List PyData) : PV := .d (.list xs)
abbrev pT (xs : List PyData) : PV := .d (.tuple xs)
theorem b_I0 {f : Value → Value → Sem Value} {g : Int → Int → V} {pg : PV} (h : OpR X.c f (rI0 g)) (k : Φ pg O) (hv : ∀ F as, RPV X.k F as pg (g i j)) : BinA X f (pI i) (pI j) O Φ := bina_of h fun as F H vx vy w rx ry => by
  cases (show Dq F vx (.int i) from rx)
  cases (show Dq F vy (.int j) from ry)
  exact ⟨i, j, rfl, rfl, PQ.mk w (hv _ _) k⟩
theorem b_I {f : Value → Value → Sem Value} {C : Int → Int → Prop} {g : Int → Int → V} {pg : PV} (h : OpR X.c f (rI C g)) (hC : C i j) (k : Φ pg O) (hv : ∀ F as, RPV X.k F as pg (g i j)) : BinA X f (pI i) (pI j) O Φ := bina_of h fun as F H vx vy w rx ry => by
  cases (show Dq F vx (.int i) from rx)
  cases (show Dq F vy (.int j) from ry)
  exact ⟨i, j, rfl, rfl, hC, PQ.mk w (hv _ _) k⟩
theorem b_add (k : Φ (pI (i + j)) O) : BinA X (binaryOp .Add) (pI i) (pI j) O Φ := b_I0 op_add k (fun _ _ => Dq.int _)
theorem b_sub (k : Φ (pI (i - j)) O) : BinA X (binaryOp .Sub) (pI i) (pI j) O Φ := b_I0 op_sub k (fun _ _ => Dq.int _)
theorem b_mul (hC : CMul i j) (k : Φ (pI (i * j)) O) : BinA X (binaryOp .Mult) (pI i) (pI j) O Φ := b_I op_mul hC k (fun _ _ => Dq.int _)
theorem b_mulW (hC : CMulW i j) (k : Φ (pI (i * j)) O) : BinA X (binaryOp .Mult) (pI i) (pI j) O Φ := b_I op_mulW hC k (fun _ _ => Dq.int _)
theorem b_fdiv (hC : CDiv i j) (k : Φ (pI (i / j)) O) : BinA X (binaryOp .FloorDiv) (pI i) (pI j) O Φ := b_I op_fdiv hC k (fun _ _ => Dq.int _)
theorem b_mod (hC : 0 < j) (k : Φ (pI (i % j)) O) : BinA X (binaryOp .Mod) (pI i) (pI j) O Φ := b_I op_mod hC k (fun _ _ => Dq.int _)
theorem b_pow (hC : CPow i j) (k : Φ (pI (i ^ j.toNat)) O) : BinA X (binaryOp .Pow) (pI i) (pI j) O Φ := b_I op_pow hC k (fun _ _ => Dq.int _)
theorem b_lt (k : Φ (pB (decide (i < j))) O) : BinA X (compareOp .Lt) (pI i) (pI j) O Φ := b_I0 op_lt k (fun _ _ => Dq.bl _)
theorem b_le (k : Φ (pB (decide (i ≤ j))) O) : BinA X (compareOp .LtE) (pI i) (pI j) O Φ := b_I0 op_le k (fun _ _ => Dq.bl _)
theorem b_gt (k : Φ (pB (decide (j < i))) O) : BinA X (compareOp .Gt) (pI i) (pI j) O Φ := b_I0 op_gt k (fun _ _ => Dq.bl _)
theorem b_ge (k : Φ (pB (decide (j ≤ i))) O) : BinA X (compareOp .GtE) (pI i) (pI j) O Φ := b_I0 op_ge k (fun _ _ => Dq.bl _)
theorem ib_add (k : Φ (pI (i + j)) O) : BinA X (inplaceOp .Add) (pI i) (pI j) O Φ := b_I0 iop_add k (fun _ _ => Dq.int _)
theorem b_eqI (k : Φ (pB (decide (i = j))) O) : BinA X (compareOp .Eq) (pI i) (pI j) O Φ := bina_of op_eq fun as F H vx vy w rx ry => by
  cases (show Dq F vx (.int i) from rx)
  cases (show Dq F vy (.int j) from ry)
  have e : decide (V.int i = V.int j) = decide (i = j) := by simp
  exact ⟨rfl, by rw [e]; exact PQ.mk w (show RPV X.k F as (pB _) _ from Dq.bl _) k⟩
theorem b_neI (k : Φ (pB (!decide (i = j))) O) : BinA X (compareOp .NotEq) (pI i) (pI j) O Φ := bina_of op_ne fun as F H vx vy w rx ry => by
  cases (show Dq F vx (.int i) from rx)
  cases (show Dq F vy (.int j) from ry)
  have e : decide (V.int i = V.int j) = decide (i = j) := by simp
  exact ⟨rfl, by rw [e]; exact PQ.mk w (show RPV X.k F as (pB _) _ from Dq.bl _) k⟩
theorem b_eqS (k : Φ (pB (decide (x = y))) O) : BinA X (compareOp .Eq) (pS x) (pS y) O Φ := bina_of op_eq fun as F H vx vy w rx ry => by
  cases (show Dq F vx (.str x) from rx)
  cases (show Dq F vy (.str y) from ry)
  have e : decide (V.str x = V.str y) = decide (x = y) := by simp
  exact ⟨rfl, by rw [e]; exact PQ.mk w (show RPV X.k F as (pB _) _ from Dq.bl _) k⟩
theorem b_neS (k : Φ (pB (!decide (x = y))) O) : BinA X (compareOp .NotEq) (pS x) (pS y) O Φ := bina_of op_ne fun as F H vx vy w rx ry => by
  cases (show Dq F vx (.str x) from rx)
  cases (show Dq F vy (.str y) from ry)
  have e : decide (V.str x = V.str y) = decide (x = y) := by simp
  exact ⟨rfl, by rw [e]; exact PQ.mk w (show RPV X.k F as (pB _) _ from Dq.bl _) k⟩
theorem b_eqB {a b : Bool} (k : Φ (pB (decide (a = b))) O) : BinA X (compareOp .Eq) (pB a) (pB b) O Φ := bina_of op_eq fun as F H vx vy w rx ry => by
  cases (show Dq F vx (.bool a) from rx)
  cases (show Dq F vy (.bool b) from ry)
  have e : decide (V.bl a = V.bl b) = decide (a = b) := by simp
  exact ⟨rfl, by rw [e]; exact PQ.mk w (show RPV X.k F as (pB _) _ from Dq.bl _) k⟩
theorem b_leS (k : Φ (pB (!decide (y.cps.toList < x.cps.toList))) O) : BinA X (compareOp .LtE) (pS x) (pS y) O Φ := bina_of op_le_str fun as F H vx vy w rx ry => by
  cases (show Dq F vx (.str x) from rx)
  cases (show Dq F vy (.str y) from ry)
  exact ⟨x, y, rfl, rfl, PQ.mk w (show RPV X.k F as (pB _) _ from Dq.bl _) k⟩
theorem b_ltS (k : Φ (pB (decide (x.cps.toList < y.cps.toList))) O) : BinA X (compareOp .Lt) (pS x) (pS y) O Φ := bina_of op_lt_str fun as F H vx vy w rx ry => by
  cases (show Dq F vx (.str x) from rx)
  cases (show Dq F vy (.str y) from ry)
  exact ⟨x, y, rfl, rfl, PQ.mk w (show RPV X.k F as (pB _) _ from Dq.bl _) k⟩
/-- one sign in a text -/
theorem b_inSign {c : Nat} (k : Φ (pB (decide (c ∈ y.cps.toList))) O) : BinA X (compareOp .In) (pS ⟨#[c]⟩) (pS y) O Φ := bina_of op_in_sign fun as F H vx vy w rx ry => by
  cases (show Dq F vx (.str ⟨#[c]⟩) from rx)
  cases (show Dq F vy (.str y) from ry)
  exact ⟨c, y, rfl, rfl, PQ.mk w (show RPV X.k F as (pB _) _ from Dq.bl _) k⟩
theorem op_mulS : OpR X.c (binaryOp .Mult) (fun x y H Q => ∃ z n, x = .str z ∧ y = .int n ∧ MulOk z n ∧ Q (.str (Txt.mul z n)) H) := by
  intro pins s σ H x y v u Q I rx ry h
  obtain ⟨z, n, rfl, rfl, hm, q⟩ := h
  obtain ⟨t, rfl⟩ := rx
  obtain ⟨t', rfl⟩ := ry
  exact SB.mul hm fun t' k => ⟨.str _, H, I.tok _, ⟨_, rfl⟩, q⟩
theorem b_mulS (hm : MulOk x j) (k : Φ (pS (Txt.mul x j)) O) : BinA X (binaryOp .Mult) (pS x) (pI j) O Φ := bina_of op_mulS fun as F H vx vy w rx ry => by
  cases (show Dq F vx (.str x) from rx)
  cases (show Dq F vy (.int j) from ry)
  exact ⟨x, j, rfl, rfl, hm, PQ.mk w (show RPV X.k F as (pS _) _ from Dq.str _) k⟩
def isNon : PV → Bool
  | .d .none => true
  | _ => false
def NotV : PV → Prop
  | .v x => x ≠ .non
  | _ => True
theorem isNon_iff {K : KF} {F : Hp} {as : List Addr} {a : PV} {v : V} (hv : NotV a) (h : RPV K F as a v) : decide (v = V.non) = isNon a := by
  cases a with
  | d x =>
    cases (show Dq F v x from h) with
    | non => rfl
    | _ => rfl
  | o i => obtain ⟨p, _, rfl⟩ := h; rfl
  | v x => cases (show v = x from h); exact decide_eq_false hv
  | s ns => obtain ⟨p, rfl, _⟩ := h; rfl
  | x e => obtain ⟨p, _, _, rfl, _⟩ := h; rfl
  | p x y => obtain ⟨a, _, _, rfl, _⟩ := h; rfl
  | fn G => obtain ⟨f, rfl, _⟩ := h; rfl
theorem b_notN {a : PV} (hv : NotV a) (k : Φ (pB (!isNon a)) O) : BinA X (compareOp .IsNot) a pN O Φ := bina_of op_notN fun as F H vx vy w rx ry => by
  cases (show Dq F vy .none from ry)
  refine ⟨rfl, ?_⟩
  rw [isNon_iff hv rx]
  exact PQ.mk w (show RPV X.k F as (pB _) _ from Dq.bl _) k
/-- list + list, of data -/
theorem b_addL {xs ys : List PyData} (hz : xs.length + ys.length ≤ sizeLine) (k : Φ (pL (xs ++ ys)) O) : BinA X (binaryOp .Add) (pL xs) (pL ys) O Φ := bina_of op_cat fun as F H vx vy w rx ry => by
  cases (show Dq F vx (.list xs) from rx) with
  | lst hs ha =>
    cases (show Dq F vy (.list ys) from ry) with
    | lst hs2 ha2 =>
      refine ⟨_, _, _, _, rfl, rfl, w.rd hs, w.rd hs2, by rw [ha.len, ha2.len]; exact hz, fun p hp => ?_⟩
      obtain ⟨w2, s2⟩ := w.data hp
      exact ⟨pL (xs ++ ys), O, as, _, w2, Gr.refl _, s2, Dq.lst upd_same (DqAll_same s2 (ha.app ha2)), k⟩
/-- x in xs, a list of data -/
theorem b_inL {a : PyData} {xs : List PyData} (hu : X.A.units + 65 < cLine) (ha : SeqAt.shaped a = true) (hb : SeqAt.shaped (.list xs) = true) (k : Φ (pB (xs.any fun y => PyData.eqv y a)) O) : BinA X (compareOp .In) (.d a) (pL xs) O Φ := bina_of (op_inD hu) fun as F H vx vy w rx ry =>
  ⟨a, xs, (Dq_same w.ex rx).dp (sh_cl ha), (Dq_same w.ex ry).dp (sh_cl hb), ha, hb, PQ.mk w (show RPV X.k F as (pB _) _ from Dq.bl _) k⟩
/-! ### subscripts -/
theorem DqAll.atI {F : Hp} {vs : List V} {xs : List PyData} (h : DqAll F vs xs) {i : Int} {x : PyData} (e : atI xs i = some x) : ∃ v, L2.atI vs i = some v ∧ Dq F v x := by
  unfold L2.atI at e ⊢
  rw [h.len]
  cases hn : ixN xs.length i with
  | none => rw [hn] at e; cases e
  | some j =>
    rw [hn] at e
    exact h.get e
theorem ix_L {xs : List PyData} {a : PyData} (h : atI xs i = some a) (k : Φ (.d a) O) : IxA X (pL xs) (pI i) O Φ := ixa_of ix_list fun as F H vx vy w rx ry => by
  cases (show Dq F vy (.int i) from ry)
  cases (show Dq F vx (.list xs) from rx) with
  | lst hs ha =>
    obtain ⟨v, h1, h2⟩ := ha.atI h
    exact ⟨_, _, i, v, rfl, rfl, .inl (.inl (w.rd hs)), h1, PQ.mk w (show RPV X.k F as (.d a) v from h2) k⟩
theorem ix_T {xs : List PyData} {a : PyData} (h : atI xs i = some a) (k : Φ (.d a) O) : IxA X (pT xs) (pI i) O Φ := ixa_of ix_tup fun as F H vx vy w rx ry => by
  cases (show Dq F vy (.int i) from ry)
  cases (show Dq F vx (.tuple xs) from rx) with
  | tup hs ha =>
    obtain ⟨v, h1, h2⟩ := ha.atI h
    exact ⟨_, _, i, v, rfl, rfl, .inl (.inl (w.rd hs)), h1, PQ.mk w (show RPV X.k F as (.d a) v from h2) k⟩
theorem ix_S {c : Nat} (hz : x.length ≤ sizeLine) (h : atI x.cps.toList i = some c) (k : Φ (pS ⟨#[c]⟩) O) : IxA X (pS x) (pI i) O Φ := ixa_of ix_str fun as F H vx vy w rx ry => by
  cases (show Dq F vy (.int i) from ry)
  cases (show Dq F vx (.str x) from rx)
  exact ⟨x, i, c, rfl, rfl, hz, h, PQ.mk w (show RPV X.k F as (pS _) _ from Dq.str _) k⟩
theorem RPs.get {K : KF} {F : Hp} {as : List Addr} : ∀ {ps : List PV} {vs : List V} {i : Nat} {x : PV}, RPs K F as ps vs → ps[i]? = some x → ∃ v, vs[i]? = some v ∧ RPV K F as x v
  | _, _, _, _, .nil, e => by simp at e
  | _, _, 0, _, .cons h _, e => by cases e; exact ⟨_, rfl, h⟩
  | _, _, i + 1, _, .cons _ t, e => RPs.get (i := i) t e
theorem RPs.atI {K : KF} {F : Hp} {as : List Addr} {ps : List PV} {vs : List V} (h : RPs K F as ps vs) {i : Int} {x : PV} (e : atI ps i = some x) : ∃ v, L2.atI vs i = some v ∧ RPV K F as x v := by
  unfold L2.atI at e ⊢
  rw [← h.len]
  cases hn : ixN ps.length i with
  | none => rw [hn] at e; cases e
  | some j =>
    rw [hn] at e
    exact h.get e
/-- an owned list's item -/
theorem ix_O {n : Nat} {ps : List PV} {a : PV} (hO : O[n]? = some (.lst ps)) (h : atI ps i = some a) (k : Φ a O) : IxA X (.o n) (pI i) O Φ := ixa_of ix_list fun as F H vx vy w rx ry => by
  cases (show Dq F vy (.int i) from ry)
  obtain ⟨p, hp, rfl⟩ := rx
  obtain ⟨p', h1, fn, ho, hh, vs, rfl, rvs⟩ := w.at_ hO
  have e6 : p' = p := Option.some.inj (h1.symm.trans hp)
  subst e6
  obtain ⟨v, h2, h3⟩ := rvs.atI h
  exact ⟨_, _, i, v, rfl, rfl, SqL.of hh, h2, PQ.mk w h3 k⟩
/-! ### slices -/
def cutI (xs : List Int) (lo hi : Option Int) : List Int := (xs.drop (HT.sIx xs.length 0 lo)).take (HT.sIx xs.length xs.length hi - HT.sIx xs.length 0 lo)
theorem ints_dq {F : Hp} : ∀ ns : List Int, DqAll F (ns.map V.int) (ns.map PyData.int)
  | [] => .nil
  | n :: ns => .cons (.int n) (ints_dq ns)
theorem slL_mono {K : PySem.W.Frag} : ∀ v i j H Q Q', rSlL K v i j H Q → (∀ z H', Q z H' → Q' z H') → rSlL K v i j H Q' := fun _ _ _ _ _ _ ⟨a, xs, e, h, q⟩ k => ⟨a, xs, e, h, fun p hp => k _ _ (q p hp)⟩
theorem cutV_ints (ns : List Int) (lo hi : Option Int) : cutV (ns.map V.int) lo hi = (cutI ns lo hi).map V.int := by
  unfold cutV cutI
  rw [List.length_map, List.map_take, List.map_drop]
theorem sl_s {ns : List Int} {lo hi : Option Int} (k : Φ (pL ((cutI ns lo hi).map PyData.int)) O) : ∀ as F H vx, Wd X.k O as F H → RPV X.k F as (.s ns) vx → rSlL X.K vx lo hi H (PQ X.k as F Φ) := fun as F H vx w rx => by
  obtain ⟨a, rfl, hs⟩ := rx
  refine ⟨_, _, rfl, w.ex.seq hs, fun p hp => ?_⟩
  obtain ⟨w2, s2⟩ := w.data (h := .lst (cutV (ns.map V.int) lo hi)) hp
  refine ⟨pL ((cutI ns lo hi).map PyData.int), O, as, _, w2, Gr.refl _, s2, Dq.lst upd_same ?_, k⟩
  rw [cutV_ints]
  exact ints_dq _
/-! ### calls of built-ins -/
theorem c_lenS (hz : x.length ≤ sizeLine) (k : Φ (pI (x.length : Nat)) O) : CallA X (.builtin "len") [pS x] O Φ := calla_of call_len_str fun as F H vs w rx => by
  obtain ⟨v, rfl, r⟩ := rps1 rx
  cases (show Dq F v (.str x) from r)
  exact ⟨x, rfl, hz, PQ.mk w (show RPV X.k F as (pI _) _ from Dq.int _) k⟩
theorem c_lenL {xs : List PyData} (k : Φ (pI (xs.length : Nat)) O) : CallA X (.builtin "len") [pL xs] O Φ := calla_of call_len_seq fun as F H vs w rx => by
  obtain ⟨v, rfl, r⟩ := rps1 rx
  cases (show Dq F v (.list xs) from r) with
  | lst hs ha => exact ⟨_, _, rfl, .inl (SqL.of (w.rd hs)), by rw [ha.len]; exact PQ.mk w (show RPV X.k F as (pI _) _ from Dq.int _) k⟩
theorem c_lenT {xs : List PyData} (k : Φ (pI (xs.length : Nat)) O) : CallA X (.builtin "len") [pT xs] O Φ := calla_of call_len_seq fun as F H vs w rx => by
  obtain ⟨v, rfl, r⟩ := rps1 rx
  cases (show Dq F v (.tuple xs) from r) with
  | tup hs ha => exact ⟨_, _, rfl, .inr (SqT.of (w.rd hs)), by rw [ha.len]; exact PQ.mk w (show RPV X.k F as (pI _) _ from Dq.int _) k⟩
theorem c_lens {ns : List Int} (k : Φ (pI (ns.length : Nat)) O) : CallA X (.builtin "len") [.s ns] O Φ := calla_of call_len_seq fun as F H vs w rx => by
  obtain ⟨v, rfl, a, rfl, hs⟩ := rps1 rx
  exact ⟨_, _, rfl, .inl (w.ex.seq hs), by rw [List.length_map]; exact PQ.mk w (show RPV X.k F as (pI _) _ from Dq.int _) k⟩
theorem c_max2 (hc : X.calm = true) (k : Φ (pI (if j > i then j else i)) O) : CallA X (.builtin "max") [pI i, pI j] O Φ := calla_of (call_max2 hc) fun as F H vs w rx => by
  obtain ⟨v, u, rfl, r1, r2⟩ := rps2 rx
  cases (show Dq F v (.int i) from r1)
  cases (show Dq F u (.int j) from r2)
  exact ⟨i, j, rfl, PQ.mk w (show RPV X.k F as (pI _) _ from Dq.int _) k⟩
theorem c_min2 (hc : X.calm = true) (k : Φ (pI (if j < i then j else i)) O) : CallA X (.builtin "min") [pI i, pI j] O Φ := calla_of (call_min2 hc) fun as F H vs w rx => by
  obtain ⟨v, u, rfl, r1, r2⟩ := rps2 rx
  cases (show Dq F v (.int i) from r1)
  cases (show Dq F u (.int j) from r2)
  exact ⟨i, j, rfl, PQ.mk w (show RPV X.k F as (pI _) _ from Dq.int _) k⟩
theorem c_intB {b : Bool} (k : Φ (pI (if b then 1 else 0)) O) : CallA X (.type "int") [pB b] O Φ := calla_of call_int1 fun as F H vs w rx => by
  obtain ⟨v, rfl, r1⟩ := rps1 rx
  cases (show Dq F v (.bool b) from r1)
  exact .inr ⟨b, rfl, PQ.mk w (show RPV X.k F as (pI _) _ from Dq.int _) k⟩
theorem intsV_dq {F : Hp} : ∀ {bs : List Int} {vs : List V}, DqAll F vs (bs.map PyData.int) → vs = bs.map V.int
  | [], _, h => by cases h; rfl
  | b :: bs, _, h => by
    cases h with
    | cons h t => cases h; rw [intsV_dq t]; rfl
theorem strsV_dq {F : Hp} : ∀ {bs : List Str} {vs : List V}, DqAll F vs (bs.map PyData.str) → vs = bs.map V.str
  | [], _, h => by cases h; rfl
  | b :: bs, _, h => by
    cases h with
    | cons h t => cases h; rw [strsV_dq t]; rfl
theorem c_sum {ns : List Int} (hc : X.calm = true) (k : Φ (pI ns.sum) O) : CallA X (.builtin "sum") [pL (ns.map PyData.int)] O Φ := calla_of (cr_sum hc) fun as F H vs w rx => by
  obtain ⟨v, rfl, r1⟩ := rps1 rx
  cases (show Dq F v (.list (ns.map PyData.int)) from r1) with
  | lst hs ha =>
    rw [intsV_dq ha] at hs
    exact ⟨_, ns, rfl, SqL.of (w.rd hs), PQ.mk w (show RPV X.k F as (pI _) _ from Dq.int _) k⟩
/-- the class's name of data -/
def tyD : PyData → String
  | .none => "NoneType"
  | .bool _ => "bool"
  | .int _ => "int"
  | .str _ => "str"
  | .list _ => "list"
  | .tuple _ => "tuple"
  | .dict _ => "dict"
/-- isinstance(x, T) of data -/
theorem c_isi {a : PyData} {T : String} {b : Bool} (hk : kitB (tyD a) T = some b) (k : Φ (pB b) O) : CallA X (.builtin "isinstance") [.d a, .v (.ty T)] O Φ := calla_of call_isi fun as F H vs w rx => by
  obtain ⟨v, u, rfl, r1, r2⟩ := rps2 rx
  cases (show u = V.ty T from r2)
  refine ⟨v, .ty T, .type (tyD a), .type T, b, rfl, .ty T, ?_, kit_ty hk, PQ.mk w (show RPV X.k F as (pB _) _ from Dq.bl _) k⟩
  cases (show Dq F v a from r1) with
  | non => exact .base .non
  | bl b => exact .base (.bl b)
  | int b => exact .base (.int b)
  | str b => exact .base (.str b)
  | lst hs ha => exact .base (.lst (w.rd hs))
  | tup hs ha => exact .base (.tup (w.rd hs))
  | dct hs => exact .base (.dK (w.rd hs))
/-! ### methods -/
theorem ty_S : TyA X "str" (pS x) O := fun as F H v w r => by
  cases (show Dq F v (.str x) from r)
  exact rfl
theorem ty_O {n : Nat} {ps : List PV} (hO : O[n]? = some (.lst ps)) : TyA X "list" (.o n) O := fun as F H v w r => by
  obtain ⟨p, hp, rfl⟩ := r
  obtain ⟨p', h1, fn, ho, hh, vs, rfl, rvs⟩ := w.at_ hO
  have e6 : p' = p := Option.some.inj (h1.symm.trans hp)
  subst e6
  exact .inl ⟨rfl, _, SqL.of hh⟩
theorem m_join {ys : List Str} (hz : (ys.map (·.length)).sum + ys.length * x.length ≤ 16777216) (k : Φ (pS (Txt.join x ys)) O) : MtA X "str.join" (pS x) [pL (ys.map PyData.str)] O Φ := mta_of mt_join fun as F H v vs w rx rxs => by
  cases (show Dq F v (.str x) from rx)
  obtain ⟨v, rfl, r1⟩ := rps1 rxs
  cases (show Dq F v (.list (ys.map PyData.str)) from r1) with
  | lst hs ha =>
    rw [strsV_dq ha] at hs
    exact ⟨x, _, ys, rfl, rfl, .inl (SqL.of (w.rd hs)), hz, PQ.mk w (show RPV X.k F as (pS _) _ from Dq.str _) k⟩
theorem m_append {n : Nat} {ps : List PV} {a : PV} (hO : O[n]? = some (.lst ps)) (hl : ps.length < 16000000) (k : Φ pN (O.set n (.lst (ps ++ [a])))) : MtA X "list.append" (.o n) [a] O Φ := mta_of mt_append fun as F H v vs w rx rxs => by
  obtain ⟨p, hp, rfl⟩ := rx
  obtain ⟨u, rfl, r1⟩ := rps1 rxs
  obtain ⟨p', h1, fn, ho, hh, vs, rfl, rvs⟩ := w.at_ hO
  have e6 : p' = p := Option.some.inj (h1.symm.trans hp)
  subst e6
  refine ⟨_, vs, u, rfl, rfl, hh, by rw [← rvs.len, sizeLine_eq]; omega, ?_⟩
  exact ⟨pN, _, as, F, w.set (ob := .lst (ps ++ [a])) (h := .lst (vs ++ [u])) h1 fn ⟨_, rfl, Paired.snoc rvs r1⟩ (fun z => nomatch z), Gr.refl _, Same.refl _, .non, k⟩
end
end Al
namespace Al
open PySem PySem.Spec L2
open PyProof.Rows hiding St
/-! ### the hand of a law -/
structure HandOk (a s : Int) : Prop where
  a0 : 0 ≤ a
  s0 : 0 ≤ s
  s1 : s < 2147483647
/-- a hand: the owned list [a, s] -/
abbrev hnd (a s : Int) : AO := .lst [pI a, pI s]
/-- draw(hand, n): some number below n, the hand otherwise -/
def rDraw : RA := fun args O Φ => ∃ h a s n, args = [.o h, pI n] ∧ O[h]? = some (hnd a s) ∧ HandOk a s ∧ 0 < n ∧ n < 1073741824 ∧ ∀ r a' s', HandOk a' s' → 0 ≤ r → r < n → Φ (pI r) (O.set h (hnd a' s'))
/-- hand(script, k) -/
def rHand : RA := fun args O Φ => ∃ ns k, args = [.s ns, pI k] ∧ 0 ≤ k ∧ k < 16000000 ∧ ∀ a s, HandOk a s → Φ (.o O.length) (O ++ [hnd a s])
end Al
namespace Al
open PySem PySem.Spec L2
open PyProof.Rows hiding St
theorem isB_mk {Φ : Bool → Own → Prop} {b : Bool} {O : Own} (h : Φ b O) : IsB Φ (pB b) O := ⟨b, rfl, h⟩
theorem ifd {c A B : Prop} [Decidable c] (h1 : c → A) (h2 : ¬ c → B) : if decide c = true then A else B := by
  by_cases h : c
  · rw [if_pos (decide_eq_true h)]; exact h1 h
  · rw [if_neg (by rw [decide_eq_false h]; exact Bool.false_ne_true)]; exact h2 h
theorem ifnd {c A B : Prop} [Decidable c] (h1 : ¬ c → A) (h2 : c → B) : if (!decide c) = true then A else B := by
  by_cases h : c
  · rw [decide_eq_true h]; exact iteF (h2 h)
  · rw [decide_eq_false h]; exact iteT (h1 h)
theorem ifnb {c : Bool} {A B : Prop} (h1 : c = false → A) (h2 : c = true → B) : if (!c) = true then A else B := by
  cases c with
  | true => exact iteF (h2 rfl)
  | false => exact iteT (h1 rfl)
end Al
namespace Al
open PySem PySem.Spec L2
open PyProof.Rows hiding St
/-! ### comprehensions, the forms one uses -/
/-- no owned object speaks of a number beyond -/
def ClO (O : Own) : Prop := O.all (AO.below O.length) = true
theorem pv_frz_below {n : Nat} {x : PyData} : ∀ {p : PV}, p.blw n = true → p.frz n x = p
  | .d _, _ => rfl
  | .v _, _ => rfl
  | .s _, _ => rfl
  | .fn _, _ => rfl
  | .x _, _ => rfl
  | .p y z, h => by
    have h' := Bool.and_eq_true_iff.mp h
    show PV.p (y.frz n x) (z.frz n x) = PV.p y z
    rw [pv_frz_below h'.1, pv_frz_below h'.2]
  | .o j, h => by
    have : j < n := of_decide_eq_true h
    show (if j = n then PV.d x else PV.o j) = PV.o j
    rw [if_neg (by omega)]
theorem pvs_frz_below {n : Nat} {x : PyData} : ∀ {p : List PV}, p.all (PV.blw n) = true → p.map (PV.frz n x) = p
  | [], _ => rfl
  | p :: ps, h => by
    rw [List.all_cons, Bool.and_eq_true] at h
    rw [List.map_cons, pv_frz_below h.1, pvs_frz_below h.2]
theorem kv_frz_below {κ : Type} {n : Nat} {x : PyData} : ∀ {p : List (κ × PV)}, (p.all fun q => q.2.blw n) = true → (p.map fun q => (q.1, q.2.frz n x)) = p
  | [], _ => rfl
  | p :: ps, h => by
    rw [List.all_cons, Bool.and_eq_true] at h
    rw [List.map_cons, pv_frz_below h.1, kv_frz_below h.2]
theorem ao_frz_below {n : Nat} {x : PyData} : ∀ {p : AO}, p.below n = true → p.frz n x = p
  | .lst _, h => congrArg AO.lst (pvs_frz_below h)
  | .tup _, h => congrArg AO.tup (pvs_frz_below h)
  | .dK _, h => congrArg AO.dK (kv_frz_below h)
  | .dT _, h => congrArg AO.dT (kv_frz_below h)
  | .ins c _, h => congrArg (AO.ins c) (kv_frz_below h)
  | .gone, _ => rfl
  | .tbl _ _, _ => rfl
  | .xo _, _ => rfl
theorem own_frz_below {n : Nat} {x : PyData} : ∀ {O : Own}, O.all (AO.below n) = true → O.map (AO.frz n x) = O
  | [], _ => rfl
  | p :: ps, h => by
    rw [List.all_cons, Bool.and_eq_true] at h
    rw [List.map_cons, ao_frz_below h.1, own_frz_below h.2]
/-- the owned list n, of data, is frozen and told, all behind it let go -/
theorem gh_list {b n : Nat} {Φ : PV → Own → Prop} {O : Own} {ds : List PyData} (hO : O[n]? = some (.lst (ds.map PV.d))) (hb : (O.take n).all (AO.below n) = true) (hle : b ≤ n) (k : Φ (pL ds) (O.take n)) : Gh b Φ (.o n) O := by
  have e : (frzO n (.list ds) O).take n = O.take n := by
    unfold frzO
    rw [← List.map_take, List.take_set_of_le (Nat.le_refl _), own_frz_below hb]
  refine .frL n hO ?_
  have e2 : (PV.o n).frz n (.list ds) = pL ds := by
    show (if n = n then PV.d (.list ds) else PV.o n) = _
    rw [if_pos rfl]
  rw [e2]
  refine .drop n hle rfl (by rw [e]; exact hb) ?_
  rw [e]
  exact .keep k
theorem gh_list0 {b : Nat} {Φ : PV → Own → Prop} {O : Own} {ds : List PyData} (hb : ClO O) (hle : b ≤ O.length) (k : Φ (pL ds) O) : Gh b Φ (.o O.length) (O ++ [.lst (ds.map PV.d)]) := by
  have e : (O ++ [AO.lst (ds.map PV.d)]).take O.length = O := by simp
  exact gh_list (ds := ds) (by simp) (by rw [e]; exact hb) hle (by rw [e]; exact k)
section
variable {X : Ax} {e a b c elt tg iter : Expr} {ifs es : List Expr} {ρ : Env1} {O : Own} {Φ : PV → Own → Prop} {pos p p2 : Pos} {scope : Scope} {g : TG} {vs : List Nat}
/-- each item, kept or not, gives what f says, and changes nothing -/
theorem lc_pureG {α : Type} (mg : TGMono g) (h : AI X tg iter ρ O fun items G O1 => ∃ (src : List α) (inj : α → PV) (f : α → Option PyData), items = src.map inj ∧ src.length ≤ 15999999 ∧ (∀ acc, G (O1 ++ [.lst acc])) ∧
      (∀ x ∈ src, ∀ acc : List PyData, AGr X.k g (inj x) (wipeA ρ vs) (O1 ++ [.lst (acc.map PV.d)]) fun ρ2 O2 => ATb X scope ifs ρ2 O2 fun b O3 => if b = true then AEb X scope elt ρ2 O3 fun y O4 => O4 = O1 ++ [.lst (acc.map PV.d)] ∧ ∃ d, f x = some d ∧ y = .d d else O3 = O1 ++ [.lst (acc.map PV.d)] ∧ f x = none) ∧
      Gh O.length Φ (.o O1.length) (O1 ++ [.lst ((src.filterMap f).map PV.d)])) : LcA X scope elt tg iter ifs g vs ρ O Φ := fun as F σ H w r R k => by
  refine h as F σ H w r R fun J H1 items G O1 as1 F1 w1 g1 s1 jok ⟨src, inj, f, hit, hlen, hG, step, done⟩ => ?_
  subst hit
  refine k J H1 _ G O1 as1 F1 w1 g1 s1 jok ⟨fun i acc O2 => O2 = O1 ++ [.lst acc] ∧ acc = ((src.take i).filterMap f).map PV.d, ⟨rfl, rfl⟩, ?_, ?_, ?_⟩
  · rintro i acc O2 ⟨rfl, _⟩
    exact ⟨by simp, hG acc⟩
  · rintro i x acc O2 hx ⟨rfl, hacc⟩
    rw [List.getElem?_map, Option.map_eq_some_iff] at hx
    obtain ⟨x, hx, rfl⟩ := hx
    have hm : x ∈ src := List.mem_of_getElem? hx
    have hi : i < src.length := (List.getElem?_eq_some_iff.mp hx).1
    have et : src.take (i + 1) = src.take i ++ [x] := by rw [List.take_add_one, hx]; rfl
    have hl : acc.length < 16000000 := by
      rw [hacc, List.length_map]
      have h1 := List.length_filterMap_le f (src.take i)
      rw [List.length_take] at h1
      omega
    intro as2 F2 σ2 H2 v w2 r2 rv
    have z := step x hm ((src.take i).filterMap f)
    rw [← hacc] at z
    replace z := z as2 F2 σ2 H2 v w2 r2 rv
    refine mg _ _ _ _ _ z fun σ' H' ⟨ρ3, O3, as', F', w', g', s', r', q⟩ => ⟨ρ3, O3, as', F', w', g', s', r', ?_⟩
    intro s0 H0 C cl fp as3 F3 σ3 H3 w3 r3
    refine tTs_mono (q s0 H0 C cl fp as3 F3 σ3 H3 w3 r3) fun b H5 ⟨O5, as5, F5, w5, g5, s5, q5⟩ => ⟨O5, as5, F5, w5, g5, s5, ?_⟩
    cases b with
    | false =>
      simp only [Bool.false_eq_true, if_false] at q5 ⊢
      exact ⟨q5.1, by rw [et, List.filterMap_append, hacc]; simp [q5.2]⟩
    | true =>
      simp only [if_true] at q5 ⊢
      intro s0 H0 C cl fp
      refine (q5 s0 H0 C cl fp).mono fun y O6 ⟨e6, d, e7, e8⟩ => ?_
      subst e6 e8
      refine ⟨acc, by simp, hl, by simp, ?_⟩
      rw [et, List.filterMap_append, hacc]
      simp [e7]
  · rintro acc O2 ⟨rfl, hacc⟩
    rw [List.length_map, List.take_length] at hacc
    subst hacc
    exact done
/-- .. the list frozen -/
theorem lc_pure {α : Type} (mg : TGMono g) (h : AI X tg iter ρ O fun items G O1 => O.length ≤ O1.length ∧ ClO O1 ∧ ∃ (src : List α) (inj : α → PV) (f : α → Option PyData), items = src.map inj ∧ src.length ≤ 15999999 ∧ (∀ acc, G (O1 ++ [.lst acc])) ∧
      (∀ x ∈ src, ∀ acc : List PyData, AGr X.k g (inj x) (wipeA ρ vs) (O1 ++ [.lst (acc.map PV.d)]) fun ρ2 O2 => ATb X scope ifs ρ2 O2 fun b O3 => if b = true then AEb X scope elt ρ2 O3 fun y O4 => O4 = O1 ++ [.lst (acc.map PV.d)] ∧ ∃ d, f x = some d ∧ y = .d d else O3 = O1 ++ [.lst (acc.map PV.d)] ∧ f x = none) ∧
      Φ (pL (src.filterMap f)) O1) : LcA X scope elt tg iter ifs g vs ρ O Φ := by
  refine lc_pureG (α := α) mg ?_
  intro as F σ H w r R k
  refine h as F σ H w r R fun J H1 items G O1 as1 F1 w1 g1 s1 jok ⟨hle, hcl, src, inj, f, hit, hlen, hG, step, done⟩ => ?_
  exact k J H1 items G O1 as1 F1 w1 g1 s1 jok ⟨src, inj, f, hit, hlen, hG, step, gh_list0 hcl hle done⟩
/-- .. every item kept -/
theorem lc_map {α : Type} (mg : TGMono g) (h : AI X tg iter ρ O fun items G O1 => O.length ≤ O1.length ∧ ClO O1 ∧ ∃ (src : List α) (inj : α → PV) (f : α → PyData), items = src.map inj ∧ src.length ≤ 15999999 ∧ (∀ acc, G (O1 ++ [.lst acc])) ∧
      (∀ x ∈ src, ∀ acc : List PyData, AGr X.k g (inj x) (wipeA ρ vs) (O1 ++ [.lst (acc.map PV.d)]) fun ρ2 O2 => AEb X scope elt ρ2 O2 fun y O4 => O4 = O1 ++ [.lst (acc.map PV.d)] ∧ y = .d (f x)) ∧
      Φ (pL (src.map f)) O1) : LcA X scope elt tg iter [] g vs ρ O Φ := by
  refine lc_pure (α := α) mg ?_
  intro as F σ H w r R k
  refine h as F σ H w r R fun J H1 items G O1 as1 F1 w1 g1 s1 jok ⟨hle, hcl, src, inj, f, hit, hlen, hG, step, done⟩ => ?_
  refine k J H1 items G O1 as1 F1 w1 g1 s1 jok ⟨hle, hcl, src, inj, fun x => some (f x), hit, hlen, hG, fun x hx acc => ?_, ?_⟩
  · intro as2 F2 σ2 H2 v w2 r2 rv
    refine mg _ _ _ _ _ (step x hx acc as2 F2 σ2 H2 v w2 r2 rv) fun σ' H' ⟨ρ3, O3, as', F', w', g', s', r', q⟩ => ⟨ρ3, O3, as', F', w', g', s', r', ?_⟩
    intro s0 H0 C cl fp
    refine ats_nil (iteT ?_)
    intro s0 H0 C cl fp
    exact (q s0 H0 C cl fp).mono fun y O4 ⟨e1, e2⟩ => ⟨e1, f x, rfl, e2⟩
  · rw [show (fun x => some (f x)) = some ∘ f from rfl, List.filterMap_eq_map]
    exact done
/-- .. every item kept -/
theorem lc_mapG {α : Type} (mg : TGMono g) (h : AI X tg iter ρ O fun items G O1 => ∃ (src : List α) (inj : α → PV) (f : α → PyData), items = src.map inj ∧ src.length ≤ 15999999 ∧ (∀ acc, G (O1 ++ [.lst acc])) ∧
      (∀ x ∈ src, ∀ acc : List PyData, AGr X.k g (inj x) (wipeA ρ vs) (O1 ++ [.lst (acc.map PV.d)]) fun ρ2 O2 => AEb X scope elt ρ2 O2 fun y O4 => O4 = O1 ++ [.lst (acc.map PV.d)] ∧ y = .d (f x)) ∧
      Gh O.length Φ (.o O1.length) (O1 ++ [.lst ((src.map f).map PV.d)])) : LcA X scope elt tg iter [] g vs ρ O Φ := by
  refine lc_pureG (α := α) mg ?_
  intro as F σ H w r R k
  refine h as F σ H w r R fun J H1 items G O1 as1 F1 w1 g1 s1 jok ⟨src, inj, f, hit, hlen, hG, step, done⟩ => ?_
  refine k J H1 items G O1 as1 F1 w1 g1 s1 jok ⟨src, inj, fun x => some (f x), hit, hlen, hG, fun x hx acc => ?_, ?_⟩
  · intro as2 F2 σ2 H2 v w2 r2 rv
    refine mg _ _ _ _ _ (step x hx acc as2 F2 σ2 H2 v w2 r2 rv) fun σ' H' ⟨ρ3, O3, as', F', w', g', s', r', q⟩ => ⟨ρ3, O3, as', F', w', g', s', r', ?_⟩
    intro s0 H0 C cl fp
    refine ats_nil (iteT ?_)
    intro s0 H0 C cl fp
    exact (q s0 H0 C cl fp).mono fun y O4 ⟨e1, e2⟩ => ⟨e1, f x, rfl, e2⟩
  · rw [show (fun x => some (f x)) = some ∘ f from rfl, List.filterMap_eq_map]
    exact done
/-- each item, kept or not, gives data of which Pd holds; the owned objects keep J -/
theorem lc_inv (mg : TGMono g) (h : AI X tg iter ρ O fun items G O1 => O.length ≤ O1.length ∧ items.length ≤ 15999999 ∧ ∃ (J : Own → Prop) (Pd : PV → PyData → Prop), J O1 ∧ (∀ O', J O' → O'.length = O1.length ∧ ClO O' ∧ ∀ acc, G (O' ++ [.lst acc])) ∧
      (∀ x ∈ items, ∀ O' (acc : List PyData), J O' → AGr X.k g x (wipeA ρ vs) (O' ++ [.lst (acc.map PV.d)]) fun ρ2 O2 => ATb X scope ifs ρ2 O2 fun b O3 => if b = true then AEb X scope elt ρ2 O3 fun y O4 => ∃ O'' d, O4 = O'' ++ [.lst (acc.map PV.d)] ∧ J O'' ∧ y = .d d ∧ Pd x d else ∃ O'', O3 = O'' ++ [.lst (acc.map PV.d)] ∧ J O'') ∧
      (∀ O' ds, J O' → (∀ d ∈ ds, ∃ x ∈ items, Pd x d) → ds.length ≤ items.length → Φ (pL ds) O')) : LcA X scope elt tg iter ifs g vs ρ O Φ := fun as F σ H w r R k => by
  refine h as F σ H w r R fun J H1 items G O1 as1 F1 w1 g1 s1 jok ⟨hle, hlen, Jo, Pd, j0, jc, step, done⟩ => ?_
  refine k J H1 items G O1 as1 F1 w1 g1 s1 jok ⟨fun i acc O2 => ∃ O' ds, O2 = O' ++ [.lst acc] ∧ Jo O' ∧ acc = ds.map PV.d ∧ (∀ d ∈ ds, ∃ x ∈ items, Pd x d) ∧ ds.length ≤ i, ⟨O1, [], rfl, j0, rfl, fun _ z => (nomatch z), Nat.le_refl _⟩, ?_, ?_, ?_⟩
  · rintro i acc O2 ⟨O', ds, rfl, hj, _⟩
    obtain ⟨h1, h2, h3⟩ := jc O' hj
    exact ⟨by rw [← h1]; simp, h3 acc⟩
  · rintro i x acc O2 hx ⟨O', ds, rfl, hj, hacc, hds, hdl⟩
    have hm : x ∈ items := List.mem_of_getElem? hx
    have hi : i < items.length := (List.getElem?_eq_some_iff.mp hx).1
    have hl : acc.length < 16000000 := by
      rw [hacc, List.length_map]
      omega
    intro as2 F2 σ2 H2 v w2 r2 rv
    have z := step x hm O' ds hj
    rw [← hacc] at z
    replace z := z as2 F2 σ2 H2 v w2 r2 rv
    refine mg _ _ _ _ _ z fun σ' H' ⟨ρ3, O3, as', F', w', g', s', r', q⟩ => ⟨ρ3, O3, as', F', w', g', s', r', ?_⟩
    intro s0 H0 C cl fp as3 F3 σ3 H3 w3 r3
    refine tTs_mono (q s0 H0 C cl fp as3 F3 σ3 H3 w3 r3) fun b H5 ⟨O5, as5, F5, w5, g5, s5, q5⟩ => ⟨O5, as5, F5, w5, g5, s5, ?_⟩
    cases b with
    | false =>
      simp only [Bool.false_eq_true, if_false] at q5 ⊢
      obtain ⟨O'', e5, j5⟩ := q5
      exact ⟨O'', ds, e5, j5, hacc, hds, by omega⟩
    | true =>
      simp only [if_true] at q5 ⊢
      intro s0 H0 C cl fp
      refine (q5 s0 H0 C cl fp).mono fun y O6 ⟨O'', d, e6, j6, e8, hd⟩ => ?_
      subst e6 e8
      have hlen2 : O''.length = O1.length := (jc O'' j6).1
      refine ⟨acc, by rw [← hlen2]; simp, hl, O'', ds ++ [d], by rw [← hlen2]; simp, j6, by rw [hacc]; simp, ?_, by simp; omega⟩
      intro d' hd'
      rcases List.mem_append.mp hd' with h1 | h1
      · exact hds d' h1
      · have : d' = d := by simpa using h1
        subst this
        exact ⟨x, hm, hd⟩
  · rintro acc O2 ⟨O', ds, rfl, hj, hacc, hds, hdl⟩
    obtain ⟨h1, h2, _⟩ := jc O' hj
    subst hacc
    rw [← h1]
    exact gh_list0 h2 (by omega) (done O' ds hj hds hdl)
theorem ao_some {Φ : Option Int → Own → Prop} (h : AE X e ρ O fun x O1 => ∃ i, x = pI i ∧ Φ (some i) O1) : AO1 X (some e) ρ O Φ := h
theorem ao_none {Φ : Option Int → Own → Prop} (h : Φ none O) : AO1 X none ρ O Φ := h
/-- a built-in class by its name -/
theorem ae_ty {x : Str} {T : String} (hm : X.c.mg x = none) (hv : bootBuiltins x = some (.type T)) (k : Φ (.v (.ty T)) O) (hg : Gl X.c x := by rfl) (hn : x ≠ "__name__" := by decide) (hd : (x == ("__debug__" : Str)) = false := by decide) : AE X (.Name x pos) ρ O Φ := ae_bltn (v := .ty T) hg hm hv rfl k hn hd
@[reducible] def isStr : PyData → Bool
  | .str _ => true
  | _ => false
theorem c_isStr {a : PyData} (k : Φ (pB (isStr a)) O) : CallA X (.builtin "isinstance") [.d a, .v (.ty "str")] O Φ := by
  refine c_isi ?_ k
  cases a with
  | none => show kitB "NoneType" "str" = some false; decide +kernel
  | bool _ => show kitB "bool" "str" = some false; decide +kernel
  | int _ => show kitB "int" "str" = some false; decide +kernel
  | str _ => show kitB "str" "str" = some true; decide +kernel
  | list _ => show kitB "list" "str" = some false; decide +kernel
  | tuple _ => show kitB "tuple" "str" = some false; decide +kernel
  | dict _ => show kitB "dict" "str" = some false; decide +kernel
@[reducible] def isInt : PyData → Bool
  | .int _ => true
  | .bool _ => true
  | _ => false
theorem c_isInt {a : PyData} (k : Φ (pB (isInt a)) O) : CallA X (.builtin "isinstance") [.d a, .v (.ty "int")] O Φ := by
  refine c_isi ?_ k
  cases a with
  | none => show kitB "NoneType" "int" = some false; decide +kernel
  | bool _ => show kitB "bool" "int" = some true; decide +kernel
  | int _ => show kitB "int" "int" = some true; decide +kernel
  | str _ => show kitB "str" "int" = some false; decide +kernel
  | list _ => show kitB "list" "int" = some false; decide +kernel
  | tuple _ => show kitB "tuple" "int" = some false; decide +kernel
  | dict _ => show kitB "dict" "int" = some false; decide +kernel
@[reducible] def isBool : PyData → Bool
  | .bool _ => true
  | _ => false
theorem c_isBool {a : PyData} (k : Φ (pB (isBool a)) O) : CallA X (.builtin "isinstance") [.d a, .v (.ty "bool")] O Φ := by
  refine c_isi ?_ k
  cases a with
  | none => show kitB "NoneType" "bool" = some false; decide +kernel
  | bool _ => show kitB "bool" "bool" = some true; decide +kernel
  | int _ => show kitB "int" "bool" = some false; decide +kernel
  | str _ => show kitB "str" "bool" = some false; decide +kernel
  | list _ => show kitB "list" "bool" = some false; decide +kernel
  | tuple _ => show kitB "tuple" "bool" = some false; decide +kernel
  | dict _ => show kitB "dict" "bool" = some false; decide +kernel
@[reducible] def isList : PyData → Bool
  | .list _ => true
  | _ => false
theorem c_isList {a : PyData} (k : Φ (pB (isList a)) O) : CallA X (.builtin "isinstance") [.d a, .v (.ty "list")] O Φ := by
  refine c_isi ?_ k
  cases a with
  | none => show kitB "NoneType" "list" = some false; decide +kernel
  | bool _ => show kitB "bool" "list" = some false; decide +kernel
  | int _ => show kitB "int" "list" = some false; decide +kernel
  | str _ => show kitB "str" "list" = some false; decide +kernel
  | list _ => show kitB "list" "list" = some true; decide +kernel
  | tuple _ => show kitB "tuple" "list" = some false; decide +kernel
  | dict _ => show kitB "dict" "list" = some false; decide +kernel
@[reducible] def isTup : PyData → Bool
  | .tuple _ => true
  | _ => false
theorem c_isTup {a : PyData} (k : Φ (pB (isTup a)) O) : CallA X (.builtin "isinstance") [.d a, .v (.ty "tuple")] O Φ := by
  refine c_isi ?_ k
  cases a with
  | none => show kitB "NoneType" "tuple" = some false; decide +kernel
  | bool _ => show kitB "bool" "tuple" = some false; decide +kernel
  | int _ => show kitB "int" "tuple" = some false; decide +kernel
  | str _ => show kitB "str" "tuple" = some false; decide +kernel
  | list _ => show kitB "list" "tuple" = some false; decide +kernel
  | tuple _ => show kitB "tuple" "tuple" = some true; decide +kernel
  | dict _ => show kitB "dict" "tuple" = some false; decide +kernel
theorem ae_globI {x : Str} {i : Int} {t : Tok} (hm : X.c.mg x = some (.int i t)) (k : Φ (pI i) O) (hg : Gl X.c x := by rfl) (hd : (x == ("__debug__" : Str)) = false := by decide) : AE X (.Name x pos) ρ O Φ := ae_glob (v := .int i) (pv := pI i) hg hm ⟨_, rfl⟩ (fun _ _ => Dq.int i) k hd
theorem ae_globS {x : Str} {i : Str} {t : Tok} (hm : X.c.mg x = some (.str i t)) (k : Φ (pS i) O) (hg : Gl X.c x := by rfl) (hd : (x == ("__debug__" : Str)) = false := by decide) : AE X (.Name x pos) ρ O Φ := ae_glob (v := .str i) (pv := pS i) hg hm ⟨_, rfl⟩ (fun _ _ => Dq.str i) k hd
end
end Al
namespace Al
open PySem PySem.Spec L2
open PyProof.Rows hiding St
theorem AS.mono {X : Ax} {st : Stmt} {ρ : Env1} {O : Own} {D D' : AEnds} (h : AS X st ρ O D) (h1 : ∀ ρ O, D.nx ρ O → D'.nx ρ O) (h2 : ∀ v O, D.rt v O → D'.rt v O) (h3 : ∀ ρ O, D.bk ρ O → D'.bk ρ O) (h4 : ∀ ρ O, D.ct ρ O → D'.ct ρ O) : AS X st ρ O D' := fun as F σ H w r =>
  tS_le (h as F σ H w r) ⟨fun _ _ ⟨ρ, O', as', F', w', g', s', r', q⟩ => ⟨ρ, O', as', F', w', g', s', r', h1 _ _ q⟩, fun _ _ ⟨ρ, O', as', F', w', g', s', r', q⟩ => ⟨ρ, O', as', F', w', g', s', r', h2 _ _ q⟩,
    fun _ _ ⟨ρ, O', as', F', w', g', s', r', q⟩ => ⟨ρ, O', as', F', w', g', s', r', h3 _ _ q⟩, fun _ _ ⟨ρ, O', as', F', w', g', s', r', q⟩ => ⟨ρ, O', as', F', w', g', s', r', h4 _ _ q⟩⟩
/-- what holds between a statement and the rest -/
theorem as_cut {X : Ax} {st : Stmt} {rest : List Stmt} {ρ : Env1} {O : Own} {D : AEnds} (Mid : Env1 → Own → Prop) (h1 : AS X st ρ O { D with nx := Mid }) (h2 : ∀ ρ' O', Mid ρ' O' → ASs X rest ρ' O' D) : ASs X (st :: rest) ρ O D :=
  as_cons (h1.mono (fun _ _ z => h2 _ _ z) (fun _ _ z => z) (fun _ _ z => z) (fun _ _ z => z))
theorem sz {n : Nat} (h : n ≤ 16000000) : n ≤ sizeLine := by rw [sizeLine_eq]; omega
theorem draw_at {O : Own} {h : Nat} {a s n : Int} {Φ : PV → Own → Prop} (hh : h < O.length) (ok : HandOk a s) (n0 : 0 < n) (n1 : n < 1073741824) (k : ∀ r a' s', HandOk a' s' → 0 ≤ r → r < n → Φ (pI r) (O.set h (hnd a' s'))) : rDraw [.o h, pI n] (O.set h (hnd a s)) Φ :=
  ⟨h, a, s, n, rfl, List.getElem?_set_self hh, ok, n0, n1, fun r a' s' o1 r0 r1 => by rw [List.set_set]; exact k r a' s' o1 r0 r1⟩
theorem set_same {O : Own} {h : Nat} {x : AO} (e : O[h]? = some x) : O.set h x = O := by
  obtain ⟨h1, h2⟩ := List.getElem?_eq_some_iff.mp e
  rw [← h2]
  exact List.set_getElem_self h1
theorem cl_set {O : Own} {h : Nat} {x : AO} (c : ClO O) (hx : x.below O.length = true) : ClO (O.set h x) := by
  unfold ClO at c ⊢
  rw [List.length_set, List.all_eq_true] at *
  intro y hy
  rcases List.mem_or_eq_of_mem_set hy with h1 | h1
  · exact c y h1
  · rw [h1]; exact hx
theorem cl_hnd {O : Own} {h : Nat} {a s : Int} (c : ClO O) : ClO (O.set h (hnd a s)) := cl_set c rfl
theorem pv_below_mono {m n : Nat} (hmn : m ≤ n) : ∀ {p : PV}, p.blw m = true → p.blw n = true
  | .o i, h => decide_eq_true (Nat.lt_of_lt_of_le (of_decide_eq_true h) hmn)
  | .p x y, h => by
    have h' := Bool.and_eq_true_iff.mp h
    exact Bool.and_eq_true_iff.mpr ⟨pv_below_mono hmn h'.1, pv_below_mono hmn h'.2⟩
  | .d _, _ => rfl
  | .v _, _ => rfl
  | .s _, _ => rfl
  | .fn _, _ => rfl
  | .x _, _ => rfl
theorem ao_below_mono {m n : Nat} (hmn : m ≤ n) {p : AO} (h : p.below m = true) : p.below n = true := by
  cases p with
  | lst xs => exact List.all_eq_true.mpr fun y hy => pv_below_mono hmn (List.all_eq_true.mp h y hy)
  | tup xs => exact List.all_eq_true.mpr fun y hy => pv_below_mono hmn (List.all_eq_true.mp h y hy)
  | dK kvs => exact List.all_eq_true.mpr fun y hy => pv_below_mono hmn (List.all_eq_true.mp h y hy)
  | dT kvs => exact List.all_eq_true.mpr fun y hy => pv_below_mono hmn (List.all_eq_true.mp h y hy)
  | ins c fs => exact List.all_eq_true.mpr fun y hy => pv_below_mono hmn (List.all_eq_true.mp h y hy)
  | gone => rfl
  | tbl _ _ => rfl
  | xo _ => rfl
theorem cl_app {O : Own} {x : AO} (c : ClO O) (hx : x.below (O.length + 1) = true) : ClO (O ++ [x]) := by
  unfold ClO at c ⊢
  rw [List.length_append, List.length_singleton, List.all_append, Bool.and_eq_true]
  refine ⟨List.all_eq_true.mpr fun y hy => ao_below_mono (by omega) (List.all_eq_true.mp c y hy), ?_⟩
  rw [List.all_cons, hx]; rfl
/-- data that are texts -/
theorem strs_of {P : Str → Prop} : ∀ {ds : List PyData}, (∀ d ∈ ds, ∃ z, d = .str z ∧ P z) → ∃ ys : List Str, ds = ys.map PyData.str ∧ ∀ y ∈ ys, P y
  | [], _ => ⟨[], rfl, fun _ h => (nomatch h)⟩
  | d :: ds, h => by
    obtain ⟨z, rfl, hz⟩ := h d (by simp)
    obtain ⟨ys, rfl, hy⟩ := strs_of (ds := ds) fun d hd => h d (List.mem_cons_of_mem _ hd)
    refine ⟨z :: ys, rfl, fun y hm => ?_⟩
    rcases List.mem_cons.mp hm with rfl | hm
    · exact hz
    · exact hy y hm
/-- a text's codes -/
abbrev cds (z : Str) : List Nat := z.cps.toList
theorem cds_len (z : Str) : (cds z).length = z.length := by unfold cds; rw [Array.length_toList]; rfl
theorem cds_app (x y : Str) : cds (x ++ y) = cds x ++ cds y := by
  show (x.cps ++ y.cps).toList = _
  simp
/-- ''.join -/
theorem cds_join0 : ∀ ys : List Str, cds (Txt.join (Str.ofString "") ys) = (ys.map cds).flatten := fun ys => by
  rw [TL.join_eq]
  induction ys with
  | nil => rfl
  | cons y r ih =>
    cases r with
    | nil => show cds y = _; simp
    | cons z r =>
      show cds (y ++ Str.ofString "" ++ Str.join (Str.ofString "") (z :: r)) = _
      rw [cds_app, cds_app, ih]
      have e : cds (Str.ofString "") = [] := by decide +kernel
      rw [e]
      simp
theorem join0_len {n : Nat} : ∀ {ys : List Str}, (∀ y ∈ ys, y.length ≤ n) → (Txt.join (Str.ofString "") ys).length ≤ ys.length * n ∧ (ys.map (·.length)).sum ≤ ys.length * n := fun {ys} h => by
  have key : ∀ {ys : List Str}, (∀ y ∈ ys, y.length ≤ n) → (ys.map cds).flatten.length ≤ ys.length * n ∧ (ys.map (·.length)).sum ≤ ys.length * n := by
    intro ys
    induction ys with
    | nil => intro _; simp
    | cons y r ih =>
      intro h
      have h1 := h y (by simp)
      obtain ⟨h2, h3⟩ := ih fun z hz => h z (List.mem_cons_of_mem _ hz)
      rw [List.map_cons, List.flatten_cons, List.length_append, cds_len, List.length_cons, List.map_cons, List.sum_cons, Nat.add_mul, Nat.one_mul]
      omega
  obtain ⟨h1, h2⟩ := key h
  rw [← cds_len, cds_join0]
  exact ⟨h1, h2⟩
theorem mulOk_small {x : Str} {n : Int} (hx : x.length ≤ 10000) (h0 : 0 ≤ n) (h1 : n ≤ 1000) : MulOk x n := by
  refine ⟨?_, fun hn _ => ?_, fun hn _ => ?_⟩
  · rw [decide_eq_false (by omega), decide_eq_false (by omega)]; rfl
  · intro hgt
    have : (9223372036854775 : Int) ≤ (2 ^ 63 - 1) / n := by
      refine Int.le_ediv_of_mul_le (by omega) ?_
      have : (9223372036854775 : Int) * n ≤ 9223372036854775 * 1000 := Int.mul_le_mul_of_nonneg_left h1 (by decide)
      omega
    omega
  · unfold Builtin.Str.tooLong
    have h2 : x.length * n.toNat ≤ 10000 * 1000 := Nat.mul_le_mul hx (by omega)
    have e : sizeLine = 16777216 := sizeLine_eq
    first
      | exact decide_eq_false (by omega)
      | (simp; omega)
/-- a text of at most m signs, all of them signs -/
def Ok (m : Nat) (z : Str) : Prop := z.length ≤ m ∧ ∀ c ∈ cds z, c < 1114112
theorem Ok.mono {m n : Nat} {z : Str} (h : Ok m z) (hmn : m ≤ n) : Ok n z := ⟨Nat.le_trans h.1 hmn, h.2⟩
theorem Ok.strOk {m : Nat} {z : Str} (h : Ok m z) : PyData.strOk z = true := by
  unfold PyData.strOk
  rw [Array.all_eq_true']
  intro c hc
  exact decide_eq_true (h.2 c (Array.mem_toList_iff.mpr hc))
theorem ok_one {c : Nat} (h : c < 1114112) : Ok 1 ⟨#[c]⟩ := ⟨Nat.le_refl _, fun x hx => by
  have : x = c := by simpa [cds] using hx
  rw [this]; exact h⟩
theorem cds_mul {x : Str} {n : Int} (h0 : 0 ≤ n) : cds (Txt.mul x n) = (List.replicate n.toNat (cds x)).flatten := by
  unfold Txt.mul
  by_cases h1 : n < 1
  · rw [if_pos h1]
    have : n = 0 := by omega
    subst this
    rfl
  · rw [if_neg h1]
    by_cases h2 : (n == 1 || x.length == 0) = true
    · rw [if_pos h2]
      rw [Bool.or_eq_true] at h2
      rcases h2 with h2 | h2
      · have : n = 1 := by simpa using h2
        subst this; simp
      · have h3 : x.length = 0 := by simpa using h2
        have h4 : cds x = [] := List.length_eq_zero_iff.mp (by rw [cds_len]; exact h3)
        rw [h4]; simp
    · rw [if_neg h2]
      have key : ∀ (k : Nat) (acc : Array Nat), ((List.replicate k x.cps).foldl (· ++ ·) acc).toList = acc.toList ++ (List.replicate k (cds x)).flatten := by
        intro k
        induction k with
        | zero => intro acc; simp
        | succ k ih => intro acc; rw [List.replicate_succ, List.foldl_cons, ih, List.replicate_succ]; simp [cds]
      show ((List.replicate n.toNat x.cps).foldl (· ++ ·) #[]).toList = _
      rw [key]; simp
/-- an item of a written text at a place within -/
theorem str_at {z : Str} {i : Int} {m : Nat} (hz : Ok m z) (h0 : 0 ≤ i) (h1 : i < z.length) : ∃ c, atI z.cps.toList i = some c ∧ c < 1114112 ∧ c ∈ cds z := by
  obtain ⟨k, rfl⟩ := Int.eq_ofNat_of_zero_le h0
  have hm : k < z.cps.toList.length := by
    have : z.cps.toList.length = z.length := cds_len z
    omega
  exact ⟨_, atI_nat (List.getElem?_eq_getElem hm), hz.2 _ (List.getElem_mem hm), List.getElem_mem hm⟩
/-- a written text: by decide +kernel -/
theorem ok_lit {z : Str} {m : Nat} (h : (decide (z.length ≤ m) && (cds z).all fun c => decide (c < 1114112)) = true) : Ok m z := by
  rw [Bool.and_eq_true, List.all_eq_true] at h
  exact ⟨of_decide_eq_true h.1, fun c hc => of_decide_eq_true (h.2 c hc)⟩
end Al
namespace Al
open PySem PySem.Spec L2
open PyProof.Rows hiding St
/-! ### sum(xs, start = c) -/
section
variable {prog : Program} {w : World} {A : Around} {E : Value → Shared → Prop} {s : Shared}
theorem kw_tree {id : String} {b : Builtin} {args : List Value} {kw : List (Str × Value)} {Q : Value → Shared → Prop} (hk : builtinKind id = none) (hp : plainId id = true) (hb : entryFor table id = some b) (ha : argsOk id ⟨args, kw⟩)
    (hc : wpAny (model prog w) A.in1 (b ⟨args, kw⟩) (fun fin s' => match fin with
      | .done f => (match (Except.ok f : Result) with | .ok (.ret v) => Q v s' | .ok _ => False | .error e => E e s')
      | .again c' => c'.quiet = true ∧ codeAny (model prog w) A c' (fun r s' => match r with | .ok (.ret v) => Q v s' | .ok _ => False | .error e => E e s') s') E s) :
    wpAny (model prog w) A (call (.builtin id) args kw) Q E s := by
  refine wpAny_call (codeAny_call_builtin hp hb ?_)
  simp only [checkBuiltinCall, hk]
  cases hsig : Manifest.signature? id with
  | none => exact wpAny_pure hc
  | some sig =>
    have h2 : Bind.checkArgs id sig ⟨args, kw⟩ = pure () := by simpa only [argsOk, hsig] using ha
    simp only [h2]
    exact wpAny_pure hc
theorem walks_shift {I : Addr} {fp wr : List Addr} {n : Nat} {P : Nat → Value → Prop} {St : Nat → Heap → Prop} (W : Walks prog w A I fp wr n P St) : Walks prog w A I fp wr (n + 1) (fun i v => ∃ j, i = j + 1 ∧ P j v) (fun i h => ∃ j, i = j + 1 ∧ St j h) where
  sub := W.sub
  frame := fun i h h' ⟨j, e, st⟩ hk => ⟨j, e, W.frame j h h' st hk⟩
  item := fun i s Q E hi ⟨j, e, st⟩ hQ => W.item j s Q E (by omega) st fun v h' tk p st' hk => hQ v h' tk ⟨j, e, p⟩ ⟨j + 1, by omega, st'⟩ hk
  done := fun s Q E ⟨j, e, st⟩ hQ => by
    have : n = j := by omega
    subst this
    exact W.done s Q E st hQ
  self := fun i s Q E ⟨j, e, st⟩ h => W.self j s Q E st h
def vSh (c : Int) (val : Nat → Int) : Nat → Int
  | 0 => c
  | j + 1 => val j
theorem preSum_shift (c : Int) (val : Nat → Int) : ∀ n, preSum (vSh c val) (n + 1) = c + preSum val n
  | 0 => by simp [preSum, vSh]
  | n + 1 => by rw [preSum, preSum_shift c val n, preSum]; show _ + val n = _; omega
theorem sum_start {l : Addr} {its : List Value} {ns : List Int} {c : Int} {t : Tok} {Q : Value → Shared → Prop} (hh : A.handled = none) (hl : s.heap.IsList l its.toArray) (hi : IntsAre its ns) (h0 : -(2 ^ 63) ≤ c) (h1 : c < 2 ^ 63)
    (h : ∀ h' tk t', (∀ b o, s.heap.get? b = some o → h'.get? b = some o) → Q (.int (c + ns.sum) t') { s with heap := h', toks := tk }) : wpAny (model prog w) A (call (.builtin "sum") [.ref l] [("start", .int c t)]) Q E s := by
  obtain ⟨xs, e⟩ := hi.allInts.items
  have hn : numsOf (intItems xs).toList = ns := by rw [← e]; exact hi.numsOf
  rw [nums_intItems] at hn
  rw [e] at hl
  refine kw_tree F.kind_sum F.plain_sum F.entry_sum (by unfold argsOk; kernel_rfl) ?_
  unfold Builtin.«sum»
  simp only [List.length_cons, List.length_nil]
  rw [if_neg (by decide)]
  refine wpAny_bind (wpAny_of_eq (show Builtin.Builtins.bindParams "sum" ["start"] 0 ⟨[], [("start", .int c t)]⟩ = pure [some (.int c t)] from rfl) ?_)
  refine wpAny_bind (iter_intList hl fun s₂ e2 st hfp hlI => ?_)
  have hfit : (decide (-(2 ^ 63) ≤ c) && decide (c < 2 ^ 63)) = true := by rw [decide_eq_true h0, decide_eq_true h1]; rfl
  show wpAny _ _ (if (decide (-(2 ^ 63) ≤ c) && decide (c < 2 ^ 63)) = true then _ else _) _ _ _
  rw [if_pos hfit]
  refine wpAny_bind (wpAny_rule (wpAny_bind (wpAny_mkInt ?_)))
  refine wpAny_bind (wpAny_pure ?_)
  simp only [List.forIn_cons, List.forIn_nil]
  refine wpAny_bind (wpAny_bind (wpAny_bind (wpAny_isInstance (T := "int") (b := false) (typeIs_int _ _ _) PySem.sub_int_str ?_)))
  simp only [Bool.false_eq_true, if_false]
  refine wpAny_pure (wpAny_bind (wpAny_bind (wpAny_isInstance (T := "int") (b := false) (typeIs_int _ _ _) PySem.sub_int_bytes ?_)))
  simp only [Bool.false_eq_true, if_false]
  refine wpAny_pure (wpAny_bind (wpAny_bind (wpAny_isInstance (T := "int") (b := false) (typeIs_int _ _ _) PySem.sub_int_bytearray ?_)))
  simp only [Bool.false_eq_true, if_false]
  refine wpAny_pure (wpAny_pure ?_)
  refine wpAny_bind (wpAny_newObj_type ?_)
  subst e2
  have W := walks_shift (Walks.list (prog := prog) (w := w) (A := A.in1) hh _ l hlI (intItems xs))
  have hSf : (s.heap.push { cls := .type "list_iterator", data := .fields #[.ref l, .int 0 0] }).objs.size ∉ [s.heap.objs.size, l] := fun hm => Nat.lt_irrefl _ (hfp _ hm)
  have hv : ∀ i v, (∃ j, i = j + 1 ∧ (intItems xs)[j]? = some v) → ∃ t, v = .int ((vSh c (numAt xs)) i) t := fun i v ⟨j, e, p⟩ => by
    subst e
    exact intItems_at p
  refine wpAny_pure ⟨plainId_quiet F.plain_sum_loop _, codeAny_sum_loopG W (vSh c (numAt xs)) hv _ hSf (intItems xs).size 1 _ s.toks 0 0 (Or.inl rfl) (by omega) (by omega)
    (W.frame _ _ _ ⟨0, rfl, st⟩ fun b _ o e => Heap.get?_push_of_some _ e) ?_ fun h' tk t' hk => ?_⟩
  · have e1 : preSum (vSh c (numAt xs)) 1 = c := by simp [preSum, vSh]
    rw [e1]
    exact Heap.get?_push_size _ rfl
  · have e1 : preSum (vSh c (numAt xs)) ((intItems xs).size + 1) = c + ns.sum := by
      rw [preSum_shift, preSum_eq, List.take_of_length_le (by simp [intItems]), hn]
    rw [e1]
    refine h h' tk t' fun b o e => hk b o ?_ ?_ ?_
    · intro hb
      have e7 : b = s.heap.objs.size := by simpa using hb
      exact Nat.lt_irrefl _ (e7 ▸ Heap.lt_size e)
    · rw [Heap.size_push]
      exact Nat.ne_of_lt (Nat.lt_succ_of_lt (Heap.lt_size e))
    · exact Heap.get?_push_of_some _ (Heap.get?_push_of_some _ e)
end
end Al
namespace Al
open PySem PySem.Spec L2
open PyProof.Rows hiding St
section
variable {X : Ax} {e a b c : Expr} {es : List Expr} {ρ : Env1} {O : Own} {Φ : PV → Own → Prop} {as : List Addr} {F H : Hp} {σ : L2.St} {pos p p2 kpos tpos pos' : Pos} {D : AEnds}
/-! ### built-ins with one keyword -/
theorem ae_sumS {p : Pos} {d : Expr} (hc : X.calm = true) (hg : Gl X.c "sum") (hm : X.mg "sum" = none) (h : AE X e ρ O fun x O1 => AE X d ρ O1 fun y O2 => ∃ (ns : List Int) (c : Int), x = pL (ns.map PyData.int) ∧ y = pI c ∧ -(2 ^ 63) ≤ c ∧ c < 2 ^ 63 ∧ Φ (pI (c + ns.sum)) O2)
    (hs : starEach [e] X.env = (false, eval e X.env) :: starEach [] X.env := by rfl) (he : backTo pos (starEach [e] X.env) = (false, eval e X.env) :: backTo pos (starEach [] X.env) := by rfl) (hpl : (backTo pos (starEach [e] X.env)).any (·.1) = false := by rfl) : AE X (.Call (.Name "sum" p) [e] [⟨some "start", d, kpos⟩] pos) ρ O Φ := fun as F σ H w r => by
  have pa : PA X.c [e] (tA X.c [e]) := pa_tA
  have pk : PK X.c [⟨some "start", d, kpos⟩] (tCons (tE X.c d) tNil) := pk_cons pe_tE pk_nil
  have z : tA X.c [e] σ H fun vs H1 => tCons (tE X.c d) tNil σ H1 fun ws H2 => ∃ (l : Addr) (ns : List Int) (c : Int), vs = [.ref l] ∧ ws = [.int c] ∧ SqL X.K H2 l (ns.map V.int) ∧ -(2 ^ 63) ≤ c ∧ c < 2 ^ 63 ∧ PQ X.k as F Φ (.int (c + ns.sum)) H2 := by
    have h' : AA X [e] ρ O fun xs O1 => ∃ x, xs = [x] ∧ AE X d ρ O1 fun y O2 => ∃ (ns : List Int) (c : Int), x = pL (ns.map PyData.int) ∧ y = pI c ∧ -(2 ^ 63) ≤ c ∧ c < 2 ^ 63 ∧ Φ (pI (c + ns.sum)) O2 := aa_cons (h.mono fun x O1 q => aa_nil ⟨x, rfl, q⟩) hs
    refine h'.run w r fun xs O1 as1 F1 v1 H1 w1 g1 s1 rx r1 ⟨x, ex, h1⟩ => ?_
    subst ex
    obtain ⟨v, rfl, rv⟩ := rps1 rx
    refine h1.run w1 r1 fun y O2 as2 F2 u H2 w2 g2 s2 ry r2 ⟨ns, c, ex, ey, c0, c1, q⟩ => ?_
    subst ex; subst ey
    cases (show Dq F2 u (.int c) from ry)
    cases (show Dq F1 v (.list (ns.map PyData.int)) from rv) with
    | @lst l vs ds hs ha =>
      rw [intsV_dq ha] at hs
      exact ⟨l, ns, c, rfl, rfl, SqL.of (w2.rd (s2 _ _ hs)), c0, c1, (PQ.mk w2 (show RPV X.k F2 as2 (pI _) _ from Dq.int _) q).back (g1.trans g2) (s1.trans s2)⟩
  refine tE_of ⟨fun pins s σ H Q I (h : tA X.c [e] σ H fun vs H1 => tCons (tE X.c d) tNil σ H1 fun ws H2 => ∃ (l : Addr) (ns : List Int) (c : Int), vs = [.ref l] ∧ ws = [.int c] ∧ SqL X.K H2 l (ns.map V.int) ∧ -(2 ^ 63) ≤ c ∧ c < 2 ^ 63 ∧ Q (.int (c + ns.sum)) H2) => ?_⟩ z
  refine wpAny_Call_Name_kw (ld_blt I hg hm boot_sum ?_ (by decide) (by decide))
  refine PyProof.Rows.callWith_kw (thn (pa.run pos pins s σ H _ I h) fun us s1 ⟨vs, H1, I1, r1, q1⟩ => thn (pk.run pos pins s1 σ H1 _ I1 q1) fun ws s2 ⟨zs, H2, I2, r2, l, ns, c, e1, e2, hs, c0, c1, q2⟩ => ?_) he hpl rfl rfl
  subst e1; subst e2
  obtain ⟨its, rv, hl, _⟩ := I2.list hs
  rw [Vals.ref1 r1]
  cases r2 with
  | cons rr rt =>
    cases rt
    obtain ⟨t, rfl⟩ := rr
    exact sum_start (I2.ok.hd hc) hl.isList rv.ints c0 c1 fun h' tk t' hk => ⟨.int _, H2, I2.kept hk, ⟨_, rfl⟩, q2⟩
/-! ### truth -/
def TruA (X : Ax) (x : PV) (O : Own) (k : Bool) : Prop := ∀ as F H v, Wd X.k O as F H → RPV X.k F as x v → TruV X.K v H k
theorem tru_L {xs : List PyData} : TruA X (pL xs) O (!xs.isEmpty) := fun as F H v w r => by
  cases (show Dq F v (.list xs) from r) with
  | lst hs ha =>
    refine .inl ⟨_, SqL.of (w.rd hs), ?_⟩
    cases ha <;> rfl
theorem ae_orT {rest : List Expr} (h : AE X a ρ O fun x O1 => ∃ k, TruA X x O1 k ∧ if k = true then Φ x O1 else AE X (.BoolOp .Or (b :: rest) pos) ρ O1 Φ) : AE X (.BoolOp .Or (a :: b :: rest) pos) ρ O Φ := fun as F σ H w r => by
  refine tE_of (pe_orT pe_tE pe_tE) ?_
  refine h.run w r fun x O1 as1 F1 v1 H1 w1 g1 s1 rx r1 ⟨k, ht, h1⟩ => ⟨k, ht as1 F1 H1 v1 w1 rx, ?_⟩
  cases k with
  | true =>
    simp only [if_true] at h1 ⊢
    exact (PQ.mk w1 rx h1).back g1 s1
  | false =>
    simp only [Bool.false_eq_true, if_false] at h1 ⊢
    exact tE_mono (h1 as1 F1 σ H1 w1 r1) fun _ _ z => z.back g1 s1
/-! ### unary minus -/
theorem una_of {f : Value → Sem Value} {r : V → Hp → VK → Prop} {x : PV} (h : UnR X.c f r) (k : ∀ as F H vx, Wd X.k O as F H → RPV X.k F as x vx → r vx H (PQ X.k as F Φ)) : UnA X f x O Φ :=
  fun as F H vx w rx => by unfold rU1; exact fun pins s σ v I r1 => h pins s σ H vx v _ I r1 (k as F H vx w rx)
theorem u_neg {i : Int} (k : Φ (pI (-i)) O) : UnA X (unaryOp .USub) (pI i) O Φ := una_of un_neg fun as F H vx w rx => by
  cases (show Dq F vx (.int i) from rx)
  exact ⟨i, rfl, PQ.mk w (show RPV X.k F as (pI _) _ from Dq.int _) k⟩
/-! ### list * int, owned -/
theorem rps_rep {K : KF} {ps : List PV} {vs : List V} (h : RPs K F as ps vs) : ∀ n, RPs K F as (List.replicate n ps).flatten (List.replicate n vs).flatten
  | 0 => .nil
  | n + 1 => by
    rw [List.replicate_succ, List.replicate_succ, List.flatten_cons, List.flatten_cons]
    exact rps_app h (rps_rep h n)
theorem b_repO {xs : List PyData} {k : Int} (h1 : -(2 ^ 63) ≤ k) (h2 : k < 2 ^ 63) (hz : xs.length * k.toNat ≤ sizeLine) (q : Φ (.o O.length) (O ++ [.lst (List.replicate k.toNat (xs.map PV.d)).flatten])) : BinA X (binaryOp .Mult) (pL xs) (pI k) O Φ := bina_of op_rep fun as F H vx vy w rx ry => by
  cases (show Dq F vy (.int k) from ry)
  cases (show Dq F vx (.list xs) from rx) with
  | lst hs ha =>
    refine ⟨_, k, _, rfl, rfl, w.rd hs, h1, h2, by rw [ha.len]; exact hz, fun p hp => ?_⟩
    have w2 := w.new (ob := .lst (List.replicate k.toNat (xs.map PV.d)).flatten) hp ⟨_, rfl, rps_rep (data_rps ha) _⟩ (fun z => nomatch z)
    exact ⟨.o O.length, _, _, F, w2, Gr.app _ _, Same.refl _, ⟨p, w.at_new p, rfl⟩, q⟩
/-! ### x in xs, xs owned, of data -/
theorem own_dp {K : KF} {n : Nat} {ds : List PyData} {v : V} (w : Wd K O as F H) (hO : O[n]? = some (.lst (ds.map PV.d))) (r : RPV K F as (.o n) v) (hc : PyData.canLay0 (.list ds) = true) : Dp K.K H v (.list ds) := by
  obtain ⟨p, hp, rfl⟩ := r
  obtain ⟨p', h1, fn, ho, hh, vs, rfl, rvs⟩ := w.at_ hO
  have e6 : p' = p := Option.some.inj (h1.symm.trans hp)
  subst e6
  have key : ∀ {vs : List V} {ds : List PyData}, DqAll F vs ds → PyData.canLayAll0 ds = true → DpAll K.K H vs ds := by
    intro vs ds h hc
    induction ds generalizing vs with
    | nil => cases h; exact .nil
    | cons d ds ih =>
      rw [PyData.canLayAll0, Bool.and_eq_true] at hc
      cases h with
      | cons h t => exact .cons ((Dq_same w.ex h).dp hc.1) (ih t hc.2)
  exact .lst (SqL.of hh) (key (rps_data rvs) (by simpa [PyData.canLay0] using hc))
theorem b_notInO {x : PyData} {n : Nat} {xs : List PyData} (hO : O[n]? = some (.lst (xs.map PV.d))) (hu : X.A.units + 65 < cLine) (ha : SeqAt.shaped x = true) (hb : SeqAt.shaped (.list xs) = true) (k : Φ (pB (!xs.any fun y => PyData.eqv y x)) O) : BinA X (compareOp .NotIn) (.d x) (.o n) O Φ := bina_of (op_notInD hu) fun as F H vx vy w rx ry =>
  ⟨x, xs, (Dq_same w.ex rx).dp (sh_cl ha), own_dp w hO ry (sh_cl hb), ha, hb, PQ.mk w (show RPV X.k F as (pB _) _ from Dq.bl _) k⟩
/-! ### xs[i] op= e, xs owned -/
theorem get_list : PGet X.c (fun o i H Q => ∃ a xs k x, o = .ref a ∧ i = .int k ∧ 0 ≤ k ∧ k < 2 ^ 63 ∧ SqL X.K H a xs ∧ xs[k.toNat]? = some x ∧ Q x H) := by
  intro pins s σ H o i ov iv Q I ro ri h
  obtain ⟨a, xs, k, x, rfl, rfl, k0, k1, hs, hx, q⟩ := h
  cases ro
  obtain ⟨t, rfl⟩ := ri
  obtain ⟨its, rv, hl, _⟩ := I.list hs
  obtain ⟨u, hu, ru⟩ := rv.get hx
  exact wpAny_getItem_list hl.isList k0 k1 (by simpa using hu) ⟨x, H, I, ru, q⟩
theorem as_augL {o i : Expr} {op : Operator} (h : AE X o ρ O fun po O1 => AE X i ρ O1 fun pi O2 => ∃ n k xs x, po = .o n ∧ pi = pI k ∧ 0 ≤ k ∧ k < 2 ^ 63 ∧ O2[n]? = some (.lst xs) ∧ xs[k.toNat]? = some x ∧
      AE X e ρ O2 fun y O3 => BinA X (inplaceOp op) x y O3 fun z O4 => O4[n]? = some (.lst xs) ∧ D.nx ρ (O4.set n (.lst (xs.set k.toNat z))))
    (ha : ∀ ov iv new, augStore i ov iv new = (do holding [new, ov, iv] (setItem ov iv new); release [new, ov, iv] []; pure .next) := by intros; rfl) : AS X (.AugAssign (.Subscript o i tpos) op e pos) ρ O D := fun as F σ H w r => by
  refine tS_of (ps_augS (tip := rB X.c (inplaceOp op)) pe_tE pe_tE get_list pe_tE (fun pins s σ H x y v u Q I r1 r2 q => op_rB pins s σ H x y v u Q I r1 r2 q) set_list ha) ?_
  refine h.run w r fun po O1 as1 F1 v1 H1 w1 g1 s1 ro r1 h1 => ?_
  refine h1.run w1 r1 fun pi O2 as2 F2 v2 H2 w2 g2 s2 ri r2 ⟨n, k, xs, x, e1, e2, k0, k1, hO, hx, h2⟩ => ?_
  subst e1; subst e2
  obtain ⟨a, fa, rfl⟩ := ro
  cases (show Dq F2 v2 (.int k) from ri)
  obtain ⟨a', ha', fn, ho, hh, vs, rfl, rvs⟩ := w2.at_ hO
  have e6 : a' = a := Option.some.inj (ha'.symm.trans (g2 n a fa))
  subst e6
  obtain ⟨vx, hvx, rx⟩ := rvs.get hx
  refine ⟨a', vs, k, vx, rfl, rfl, k0, k1, SqL.of hh, hvx, ?_⟩
  refine h2.run w2 r2 fun y O3 as3 F3 v3 H3 w3 g3 s3 ry r3 h3 => ?_
  refine rB_mono (h3 as3 F3 H3 vx v3 w3 (rx.mono s3 g3) ry) fun v4 H4 ⟨z, O4, as4, F4, w4, g4, s4, rz, hO4, q⟩ => ?_
  obtain ⟨a2, ha2, fn2, ho2, hh2, vs2, rfl, rvs2⟩ := w4.at_ hO4
  have e7 : a2 = a' := Option.some.inj (ha2.symm.trans ((g3.trans g4) n a' ha'))
  subst e7
  have hk : k.toNat < xs.length := (List.getElem?_eq_some_iff.mp hx).1
  have hix : ixN vs2.length k = some k.toNat := by
    rw [← rvs2.len]
    unfold ixN
    rw [if_pos k0, if_pos (by omega)]
  refine ⟨a2, vs2, k, k.toNat, rfl, rfl, hh2, hix, ?_⟩
  have rset : ∀ {ps : List PV} {vs : List V} (j : Nat), RPs X.k F4 as4 ps vs → RPs X.k F4 as4 (ps.set j z) (vs.set j v4) := by
    intro ps vs j h
    induction h generalizing j with
    | nil => exact .nil
    | cons h t ih =>
      cases j with
      | zero => exact .cons rz t
      | succ j => exact .cons h (ih j)
  exact ⟨ρ, _, as4, F4, w4.set (ob := .lst (xs.set k.toNat z)) (h := .lst (vs2.set k.toNat v4)) ha2 fn2 ⟨_, rfl, rset _ rvs2⟩ (fun z => nomatch z), ((g1.trans g2).trans g3).trans g4, ((s1.trans s2).trans s3).trans s4, (r3.mono s4 g4), q⟩
end
end Al
namespace Al
open PySem PySem.Spec L2
open PyProof.Rows hiding St
/-! ### enumerate(list), enumerate(text) -/
def enD (ds : List PyData) : List PV := ds.zipIdx.map fun p => pT [.int (p.2 : Nat), p.1]
theorem enD_at {ds : List PyData} {i : Nat} {x : PV} (h : (enD ds)[i]? = some x) : ∃ d, ds[i]? = some d ∧ x = pT [.int (i : Nat), d] := by
  unfold enD at h
  rw [List.getElem?_map, Option.map_eq_some_iff] at h
  obtain ⟨⟨d, j⟩, h1, rfl⟩ := h
  rw [List.getElem?_zipIdx, Option.map_eq_some_iff] at h1
  obtain ⟨d', h2, h3⟩ := h1
  cases h3
  exact ⟨_, h2, by simp⟩
theorem enD_len (ds : List PyData) : (enD ds).length = ds.length := by unfold enD; simp
section
variable {X : Ax} {e a b c : Expr} {es : List Expr} {ρ : Env1} {O : Own} {Φ : PV → Own → Prop} {as : List Addr} {F H : Hp} {σ : L2.St} {pos p p2 kpos tpos pos' : Pos} {D : AEnds}
theorem ai_enum {elts : List Expr} {kk : Nat} {Ψ : List PV → (Own → Prop) → Own → Prop} (hg : Gl X.c "enumerate") (hm : X.mg "enumerate" = none) (h : AE X e ρ O fun x O1 => ∃ ds, x = pL ds ∧ Ψ (enD ds) (fun _ => True) O1) (hs : starEach [e] X.env = [(false, eval e X.env)] := by rfl) :
    AI X (.Tuple elts kk tpos) (.Call (.Name "enumerate" p) [e] [] pos) ρ O Ψ := fun as F σ H w r R k => by
  refine tI_of (pi_enum hg hm pa_tA hs) ?_
  have h' : AA X [e] ρ O fun xs O1 => ∃ ds, xs = [pL ds] ∧ Ψ (enD ds) (fun _ => True) O1 := aa_cons (h.mono fun x O1 ⟨ds, ex, q⟩ => aa_nil ⟨ds, by rw [ex], q⟩) hs
  refine h'.run w r fun xs O1 as1 F1 v1 H1 w1 g1 s1 rx r1 ⟨ds, ex, q⟩ => ?_
  subst ex
  obtain ⟨v, rfl, rv⟩ := rps1 rx
  cases (show Dq F1 v (.list ds) from rv) with
  | @lst a xs ds hs ha =>
    refine ⟨a, xs, rfl, SqL.of (w1.rd hs), k _ H1 _ _ O1 as1 F1 w1 g1 s1 (fun O' as' F' H' w' g' s' _ => ?_) q⟩
    have hq : SqL X.K H' a xs := SqL.of (w'.rd (s' _ _ hs))
    refine ⟨fun i hi => ⟨xs, hq, by rw [enD_len, ← ha.len] at hi; exact hi⟩, fun i x hx => ?_⟩
    obtain ⟨d, hd, rfl⟩ := enD_at hx
    obtain ⟨v, hv, hdv⟩ := ha.get hd
    refine ⟨⟨xs, v, hq, hv⟩, fun v' H2 hy => ?_⟩
    obtain ⟨T, x, rfl, hT, rfl, hy⟩ := hy
    have e3 : v = x := Option.some.inj (hv.symm.trans (hy xs hq))
    subst e3
    obtain ⟨w2, s2⟩ := w'.data (h := .tup [.int (i : Nat), v]) hT
    exact ⟨_, w2, s2, Dq.tup upd_same (.cons (.int _) (.cons (Dq_same (s'.trans s2) hdv) .nil))⟩
end
/-- the signs of a text, each in a new pair -/
def Ites (x : Str) : It :=
  ⟨fun i _ => i < x.cps.size, fun i H v H' => ∃ T c, v = .ref T ∧ H T = none ∧ H' = upd H T (.tup [.int (i : Nat), .str ⟨#[c]⟩]) ∧ x.cps[i]? = some c, fun i _ => x.cps.size ≤ i⟩
theorem draws_str {prog : Program} {w : World} {A : Around} (hh : A.handled = none) (it : Addr) (x : Str) (t : Tok) :
    Draws prog w A it [it] x.cps.size (fun i v => ∃ c u, x.cps[i]? = some c ∧ v = .str ⟨#[c]⟩ u) (fun i h => h.IsStrIter it (strIterType x) x t i) := by
  unfold strIterType
  split
  · exact Draws.strAscii hh it x t
  · exact Draws.strWide hh it x t
theorem turn_enumS {P : Program} {w : World} {K : PySem.W.Frag} {elts : List Expr} {kk : Nat} {tpos : Pos} (x : Str) (t : Tok) (e it : Addr) :
    Turn P w K (.Tuple elts kk tpos) (Ites x) [e, it] e (fun i h => (∃ old, IsEnum h e it ((i : Nat) : Int) old) ∧ h.IsStrIter it (strIterType x) x t i ∧ e ≠ it ∧ i ≤ x.cps.size) where
  mem := by simp
  obj := fun i h st b hb => by
    obtain ⟨⟨old, he⟩, ⟨o, ho, hc, hd⟩, _⟩ := st
    have e' : b = e ∨ b = it := by simpa using hb
    rcases e' with z | z
    · rw [z]; exact ⟨_, he, fun v q => nomatch q⟩
    · rw [z]; exact ⟨o, ho, fun v q => by rw [hd] at q; cases q⟩
  keep := fun i h h' st k => let ⟨⟨old, he⟩, ⟨o, ho, r⟩, hne⟩ := st; ⟨⟨old, k e (by simp) _ he⟩, ⟨o, k it (by simp) o ho, r⟩, hne⟩
  item := by
    intro X hP hw hK hc i pins s σ H E I hf st hg
    subst hP hw hK
    obtain ⟨⟨old, he⟩, hit, hne, hle⟩ := st
    have hel : e < s.heap.objs.size := Heap.lt_size he
    have hil : it < s.heap.objs.size := by obtain ⟨_, q, _⟩ := hit; exact Heap.lt_size q
    have D := draws_str (prog := X.prog) (w := X.w) (A := X.A.in1) (I.ok.hd hc) it x t
    refine wpAny_pyNext_enum_itemD D he hit hg hne (by simpa using hne) fun v h' tk hP ho hit' hT hsz hk => ?_
    obtain ⟨c, u, hcx, rfl⟩ := hP
    refine ⟨_, rfl, wpAny_letOwnedTupleGo_enum (s := { s with heap := h', toks := tk + 1 }) ho fun h'' he' sb => ?_⟩
    have hT2 : h''.get? s.heap.objs.size = some { cls := .type "tuple", data := .seq #[.int i tk, .str ⟨#[c]⟩ u] } := (sb.2 _ (Nat.ne_of_gt hel)).trans hT
    have new : ObjOk X.prog X.w (upd H s.heap.objs.size (.tup [.int (i : Nat), .str ⟨#[c]⟩])) h'' s.heap.objs.size (.tup [.int (i : Nat), .str ⟨#[c]⟩]) :=
      ⟨by show 2 ≤ sizeLine; decide, [.int i tk, .str ⟨#[c]⟩ u], .cons ⟨_, rfl⟩ (.cons ⟨_, rfl⟩ .nil), ⟨_, hT2, rfl, _, rfl⟩⟩
    have I1 : Inv X pins σ (upd H s.heap.objs.size (.tup [.int (i : Nat), .str ⟨#[c]⟩])) { s with heap := h'', toks := tk + 1 } :=
      I.turnedNew (ch := [e, it]) (fun b ob hb q => (sb.2 b (fun z => hb (by simp [z]))).trans (hk b ob (fun z => hb (by simp [z])) (fun z => hb (by simp [z])) q)) hf (Nat.le_refl _) new
    refine ⟨.ref s.heap.objs.size, _, I1, rfl, ⟨_, c, rfl, I.hok.fresh (Nat.le_refl _), rfl, hcx⟩, ⟨⟨.str ⟨#[c]⟩ u, ?_⟩, ?_, hne, hg⟩, fun b hb => ?_⟩
    · have e1 : ((i + 1 : Nat) : Int) = (i : Int) + 1 := by omega
      rw [e1]; exact he'
    · obtain ⟨o, ho2, r⟩ := hit'
      exact ⟨o, (sb.2 it (Ne.symm hne)).trans ho2, r⟩
    · have hb' : b < s.heap.objs.size := by
        have e' : b = e ∨ b = it := by simpa using hb
        rcases e' with z | z
        · rw [z]; exact hel
        · rw [z]; exact hil
      rw [upd_ne (Nat.ne_of_lt hb')]
      exact (hf b hb).1
  done := by
    intro X hP hw hK hc i pins s σ H E I hf st hg
    subst hP hw hK
    obtain ⟨⟨old, he⟩, hit, hne, hle⟩ := st
    obtain ⟨f0, f1, f2, f3, f4, f5⟩ := hf it (by simp)
    have ei : i = x.cps.size := Nat.le_antisymm hle hg
    subst ei
    have D := draws_str (prog := X.prog) (w := X.w) (A := X.A.in1) (I.ok.hd hc) it x t
    exact wpAny_pyNext_enum_endD D he hit fun h' eb => ⟨rfl, I.turned (t' := s.toks) (fun b o hb q => eb b o hb q) f0 f1 f3 f4 f5⟩
  self := fun A i s Q E st h => let ⟨⟨_, he⟩, _⟩ := st; wpAny_pyIter_enum he h
theorem pi_enumS {X : Cx} {e : Expr} {ta : TA} {p pos tpos : Pos} {elts : List Expr} {kk : Nat} (hg : Gl X "enumerate") (hm : X.mg "enumerate" = none) (ha : PA X [e] ta) (hs : starEach [e] X.env = [(false, eval e X.env)] := by rfl) :
    PI X (.Tuple elts kk tpos) (.Call (.Name "enumerate" p) [e] [] pos) (fun σ H R => ta σ H fun vs H1 => ∃ x, vs = [.str x] ∧ R (Ites x) H1) := by
  refine ⟨fun pins s σ H R I h => ?_⟩
  refine Call_ (ld_blt I hg hm boot_enumerate (PyProof.Rows.callWith_type1 (thn (ha.run pos pins s σ H _ I h) fun us s1 ⟨vs, H1, I1, r1, q1⟩ => ?_) hs rfl))
  obtain ⟨x, ex, q⟩ := q1
  subst ex
  cases r1 with
  | cons r rr =>
    cases rr
    obtain ⟨t, rfl⟩ := r
    refine call_enumerate_str fun h' he hit hsz hk => wpAny_pyIter_enum he ?_
    have I2 : Inv X pins σ H1 { s1 with heap := h' } := I1.kept (t' := s1.toks) hk
    refine ⟨s1.heap.objs.size + 1, [s1.heap.objs.size + 1, s1.heap.objs.size], _, _, H1, rfl, I2, turn_enumS x t (s1.heap.objs.size + 1) s1.heap.objs.size, ⟨⟨.none, he⟩, hit, Nat.succ_ne_self _, Nat.zero_le _⟩, fun b hb => ?_, q⟩
    have e' : b = s1.heap.objs.size + 1 ∨ b = s1.heap.objs.size := by simpa using hb
    have hle : s1.heap.objs.size ≤ b := by
      rcases e' with z | z
      · rw [z]; exact Nat.le_add_right _ _
      · rw [z]; exact Nat.le_refl _
    exact I1.fpOk hle (I1.hok.fresh hle)
section
variable {X : Ax} {e a b c : Expr} {es : List Expr} {ρ : Env1} {O : Own} {Φ : PV → Own → Prop} {as : List Addr} {F H : Hp} {σ : L2.St} {pos p p2 kpos tpos pos' : Pos} {D : AEnds}
def enS (z : Str) : List PV := enD ((cds z).map fun c => .str ⟨#[c]⟩)
theorem ai_enumS {elts : List Expr} {kk : Nat} {Ψ : List PV → (Own → Prop) → Own → Prop} (hg : Gl X.c "enumerate") (hm : X.mg "enumerate" = none) (h : AE X e ρ O fun x O1 => ∃ z, x = pS z ∧ Ψ (enS z) (fun _ => True) O1) (hs : starEach [e] X.env = [(false, eval e X.env)] := by rfl) :
    AI X (.Tuple elts kk tpos) (.Call (.Name "enumerate" p) [e] [] pos) ρ O Ψ := fun as F σ H w r R k => by
  refine tI_of (pi_enumS hg hm pa_tA hs) ?_
  have h' : AA X [e] ρ O fun xs O1 => ∃ z, xs = [pS z] ∧ Ψ (enS z) (fun _ => True) O1 := aa_cons (h.mono fun x O1 ⟨ds, ex, q⟩ => aa_nil ⟨ds, by rw [ex], q⟩) hs
  refine h'.run w r fun xs O1 as1 F1 v1 H1 w1 g1 s1 rx r1 ⟨z, ex, q⟩ => ?_
  subst ex
  obtain ⟨v, rfl, rv⟩ := rps1 rx
  cases (show Dq F1 v (.str z) from rv)
  refine ⟨z, rfl, k _ H1 _ _ O1 as1 F1 w1 g1 s1 (fun O' as' F' H' w' g' s' _ => ?_) q⟩
  refine ⟨fun i hi => by unfold enS at hi; rw [enD_len, List.length_map, cds, Array.length_toList] at hi; exact hi, fun i x hx => ?_⟩
  obtain ⟨d, hd, rfl⟩ := enD_at hx
  rw [List.getElem?_map, Option.map_eq_some_iff] at hd
  obtain ⟨c, hc, rfl⟩ := hd
  rw [cds, Array.getElem?_toList] at hc
  refine ⟨(Array.getElem?_eq_some_iff.mp hc).1, fun v' H2 hy => ?_⟩
  obtain ⟨T, c', rfl, hT, rfl, hc'⟩ := hy
  have e3 : c = c' := Option.some.inj (hc.symm.trans hc')
  subst e3
  obtain ⟨w2, s2⟩ := w'.data (h := .tup [.int (i : Nat), .str ⟨#[c]⟩]) hT
  exact ⟨_, w2, s2, Dq.tup upd_same (.cons (.int _) (.cons (.str _) .nil))⟩
/-! ### dicts -/
def keyD : Key → PyData
  | .inl i => .int i
  | .inr x => .str x
theorem keyD_dq {k : Key} {v : V} (h : Dq F v (keyD k)) : v = kV k := by
  cases k with
  | inl i => cases (show Dq F v (.int i) from h); rfl
  | inr i => cases (show Dq F v (.str i) from h); rfl
theorem keysD_dq : ∀ {ks : List Key} {vs : List V}, DqAll F vs (ks.map keyD) → vs = ks.map kV
  | [], _, h => by cases h; rfl
  | k :: ks, _, h => by
    cases h with
    | cons h t => rw [keyD_dq h, keysD_dq t]; rfl
def getK {κ : Type} [DecidableEq κ] (kvs : List (κ × PV)) (k : κ) : Option PV := (kvs.find? fun kv => decide (kv.1 = k)).map (·.2)
def setK {κ : Type} [DecidableEq κ] (kvs : List (κ × PV)) (k : κ) (v : PV) : List (κ × PV) :=
  if (kvs.any fun kv => decide (kv.1 = k)) = true then kvs.map (fun kv => if kv.1 = k then (kv.1, v) else kv) else kvs ++ [(k, v)]
section
variable {κ : Type} [DecidableEq κ] {K : KF} {k : κ}
abbrev RKv (K : KF) (F : Hp) (as : List Addr) : List (κ × PV) → List (κ × V) → Prop := Paired (fun (p : κ × PV) (q : κ × V) => p.1 = q.1 ∧ RPV K F as p.2 q.2)
theorem getK_some : ∀ {kvs : List (κ × PV)} {ws : List (κ × V)}, RKv K F as kvs ws → ∀ {x : PV}, getK kvs k = some x → ∃ v, valV ws k = some v ∧ RPV K F as x v
  | _, _, .nil, _, h => nomatch h
  | p :: kvs, q :: ws, .cons ⟨e, r⟩ t, x, h => by
    by_cases hk : p.1 = k
    · have h1 : getK (p :: kvs) k = some p.2 := by simp [getK, List.find?_cons, hk]
      rw [h1] at h
      cases h
      exact ⟨q.2, valV_pos (e ▸ hk), r⟩
    · have h1 : getK (p :: kvs) k = getK kvs k := by simp [getK, List.find?_cons, hk]
      rw [h1] at h
      obtain ⟨v, h2, h3⟩ := getK_some t h
      exact ⟨v, by rw [valV_neg (e ▸ hk)]; exact h2, h3⟩
theorem getK_none : ∀ {kvs : List (κ × PV)} {ws : List (κ × V)}, RKv K F as kvs ws → getK kvs k = none → valV ws k = none
  | _, _, .nil, _ => rfl
  | p :: kvs, q :: ws, .cons ⟨e, r⟩ t, h => by
    by_cases hk : p.1 = k
    · have h1 : getK (p :: kvs) k = some p.2 := by simp [getK, List.find?_cons, hk]
      rw [h1] at h
      cases h
    · have h1 : getK (p :: kvs) k = getK kvs k := by simp [getK, List.find?_cons, hk]
      rw [h1] at h
      rw [valV_neg (e ▸ hk)]
      exact getK_none t h
theorem getK_is {kvs : List (κ × PV)} {ws : List (κ × V)} (h : RKv K F as kvs ws) : (valV ws k).isSome = (getK kvs k).isSome := by
  cases hg : getK kvs k with
  | none => rw [getK_none h hg]; rfl
  | some x =>
    obtain ⟨v, e, _⟩ := getK_some h hg
    rw [e]; rfl
theorem rkv_any : ∀ {kvs : List (κ × PV)} {ws : List (κ × V)}, RKv K F as kvs ws → (ws.any fun kv => decide (kv.1 = k)) = (kvs.any fun kv => decide (kv.1 = k))
  | _, _, .nil => rfl
  | p :: kvs, q :: ws, .cons ⟨e, r⟩ t => by rw [List.any_cons, List.any_cons, rkv_any t, e]
theorem rkv_map {x : PV} {v : V} (hr : RPV K F as x v) : ∀ {kvs : List (κ × PV)} {ws : List (κ × V)}, RKv K F as kvs ws → RKv K F as (kvs.map (fun kv => if kv.1 = k then (kv.1, x) else kv)) (ws.map (fun kv => if kv.1 = k then (kv.1, v) else kv))
  | _, _, .nil => .nil
  | p :: kvs, q :: ws, .cons ⟨e, r⟩ t => by
    refine .cons ?_ (rkv_map hr t)
    by_cases hk : p.1 = k
    · simp only [if_pos hk, if_pos (e ▸ hk : q.1 = k)]; exact ⟨e, hr⟩
    · simp only [if_neg hk, if_neg (e ▸ hk : ¬ q.1 = k)]; exact ⟨e, r⟩
theorem rkv_app {kvs : List (κ × PV)} {ws : List (κ × V)} (h : RKv K F as kvs ws) {kvs' : List (κ × PV)} {ws' : List (κ × V)} (h' : RKv K F as kvs' ws') : RKv K F as (kvs ++ kvs') (ws ++ ws') := by
  induction h with
  | nil => exact h'
  | cons h t ih => exact .cons h ih
theorem setK_rel {kvs : List (κ × PV)} {ws : List (κ × V)} (h : RKv K F as kvs ws) {x : PV} {v : V} (hr : RPV K F as x v) : RKv K F as (setK kvs k x) (putK ws k v) := by
  unfold setK putK
  rw [rkv_any h]
  split
  · exact rkv_map hr h
  · exact rkv_app h (.cons ⟨rfl, hr⟩ .nil)
theorem rkv_len {kvs : List (κ × PV)} {ws : List (κ × V)} (h : RKv K F as kvs ws) : kvs.length = ws.length := Paired.length h
end
theorem own_at {K : KF} {n : Nat} {v : V} {ob : AO} (w : Wd K O as F H) (hO : O[n]? = some ob) (r : RPV K F as (.o n) v) : ∃ p, v = .ref p ∧ as[n]? = some p ∧ OwnAt K F H as p ob := by
  obtain ⟨p, hp, rfl⟩ := r
  obtain ⟨p', h1, h2⟩ := w.at_ hO
  have e6 : p' = p := Option.some.inj (h1.symm.trans hp)
  subst e6
  exact ⟨p', rfl, h1, h2⟩
theorem ae_dict0T (k : Φ (.o O.length) (O ++ [.dT []])) : AE X (.Dict [] [] pos) ρ O Φ := fun as F σ H w r => by
  refine tE_of pe_dnewT ?_
  intro p hp
  have w2 := w.new (ob := .dT []) (h := .dT []) hp ⟨[], rfl, .nil⟩ (fun z => nomatch z)
  exact ⟨.o O.length, _, _, F, w2, Gr.app _ _, Same.refl _, ⟨p, w.at_new p, rfl⟩, k⟩
theorem op_inDict (hu : X.A.units + 1 < cLine) : OpR X.c (compareOp .In) (fun y x H Q => ∃ a o, x = .ref a ∧ DGet H a y o ∧ Q (.bl o.isSome) H) := by
  intro pins s σ H y x u v Q I ry rx h
  obtain ⟨a, o, rfl, g, q⟩ := h
  cases rx
  exact d_in hu I g ry fun s3 I3 => ⟨.bl o.isSome, H, I3, rfl, q⟩
theorem dget_T {K : KF} {n : Nat} {kvs : List (List Key × PV)} {ks : List Key} {u v : V} (w : Wd K O as F H) (hO : O[n]? = some (.dT kvs)) (r : RPV K F as (.o n) v) (ru : RPV K F as (pT (ks.map keyD)) u) :
    ∃ p ws, v = .ref p ∧ as[n]? = some p ∧ F p = none ∧ H p = some (.dT ws) ∧ RKv K F as kvs ws ∧ DGet H p u (valV ws ks) ∧ ∃ q, u = .ref q ∧ H q = some (.tup (ks.map kV)) := by
  obtain ⟨p, rfl, hp, fn, ho, hh, ws, rfl, rws⟩ := own_at w hO r
  cases (show Dq F u (.tuple (ks.map keyD)) from ru) with
  | tup hs ha =>
    rw [keysD_dq ha] at hs
    exact ⟨p, ws, rfl, hp, fn, hh, rws, DGet.t hh (w.rd hs), _, rfl, w.rd hs⟩
theorem b_inDT {n : Nat} {kvs : List (List Key × PV)} {ks : List Key} (hu : X.A.units + 1 < cLine) (hO : O[n]? = some (.dT kvs)) (k : Φ (pB (getK kvs ks).isSome) O) : BinA X (compareOp .In) (pT (ks.map keyD)) (.o n) O Φ := bina_of (op_inDict hu) fun as F H vx vy w rx ry => by
  obtain ⟨p, ws, rfl, hp, fn, hh, rws, g, _⟩ := dget_T w hO ry rx
  exact ⟨p, _, rfl, g, by rw [getK_is rws]; exact PQ.mk w (show RPV X.k F as (pB _) _ from Dq.bl _) k⟩
/-- d[y] = v -/
theorem as_dputT {o i value : Expr} (hu : X.A.units + 1 < cLine) (h : AE X value ρ O fun v O1 => AE X o ρ O1 fun po O2 => AE X i ρ O2 fun pi O3 => ∃ n kvs ks, po = .o n ∧ pi = pT (ks.map keyD) ∧ O3[n]? = some (.dT kvs) ∧ kvs.length < 16000000 ∧ D.nx ρ (O3.set n (.dT (setK kvs ks v))))
    (hs : swapsWith value (some (.Subscript o i pos')) pos.line X.env = pure false := by rfl) : AS X (.Assign [.Subscript o i pos'] value pos) ρ O D := fun as F σ H w r => by
  refine tS_of (ps_dput hu pe_tE pe_tE pe_tE hs) ?_
  refine h.run w r fun v O1 as1 F1 v1 H1 w1 g1 s1 rv r1 h1 => ?_
  refine h1.run w1 r1 fun po O2 as2 F2 v2 H2 w2 g2 s2 ro r2 h2 => ?_
  refine h2.run w2 r2 fun pi O3 as3 F3 v3 H3 w3 g3 s3 ri r3 ⟨n, kvs, ks, e1, e2, hO, hl, q⟩ => ?_
  subst e1; subst e2
  obtain ⟨p, ws, rfl, hp, fn, hh, rws, g, t, rfl, ht⟩ := dget_T w3 hO (ro.mono s3 g3) ri
  have r' := rv.mono (s2.trans s3) (g2.trans g3)
  refine ⟨p, _, rfl, DPut.t hh ht (by rw [← rkv_len rws, sizeLine_eq]; omega), ?_⟩
  exact ⟨ρ, _, as3, F3, w3.set (ob := .dT (setK kvs ks v)) (h := .dT (putK ws ks v1)) hp fn ⟨_, rfl, setK_rel rws r'⟩ (fun z => nomatch z), (g1.trans g2).trans g3, (s1.trans s2).trans s3, r3, q⟩
end
end Al
namespace Al
open PySem PySem.Spec L2
open PyProof.Rows hiding St
/-! ### defs as they are called -/
@[irreducible] def tK (X : Cx) (kws : List Keyword) : TA := fun σ H Q => ∀ pos pins s, Inv X pins σ H s → wpAny (model X.prog X.w) X.A (evalAll ((backToKw pos (keywordEach kws X.env)).map (·.2))) (AP X pins σ Q) X.xe s
section
variable {X : Ax} {e a b c : Expr} {es : List Expr} {kws : List Keyword} {ρ : Env1} {O : Own} {Φ : PV → Own → Prop} {as : List Addr} {F H : Hp} {σ : L2.St} {pos p p2 kpos tpos pos' : Pos} {D : AEnds}
theorem tK_mono {Q Q' : List V → Hp → Prop} (h : tK X.c kws σ H Q) (q : ∀ v H', Q v H' → Q' v H') : tK X.c kws σ H Q' := by
  unfold tK at h ⊢
  exact fun pos pins s I => thn (h pos pins s I) fun _ _ ⟨v, H', I', r, z⟩ => ⟨v, H', I', r, q v H' z⟩
def AK (X : Ax) (kws : List Keyword) (ρ : Env1) (O : Own) (Φ : List PV → Own → Prop) : Prop := ∀ as F σ H, Wd X.k O as F H → RS X.k F as ρ σ → tK X.c kws σ H (PQs X.k as F Φ)
theorem AK.run {Φ : List PV → Own → Prop} (h : AK X kws ρ O Φ) (w : Wd X.k O as F H) (r : RS X.k F as ρ σ) {Q : List V → Hp → Prop}
    (k : ∀ xs O1 as1 F1 vs H1, Wd X.k O1 as1 F1 H1 → Gr as as1 → Same F F1 → RPs X.k F1 as1 xs vs → RS X.k F1 as1 ρ σ → Φ xs O1 → Q vs H1) : tK X.c kws σ H Q :=
  tK_mono (h as F σ H w r) fun vs H1 ⟨xs, O1, as1, F1, w1, g1, s1, rx, q⟩ => k xs O1 as1 F1 vs H1 w1 g1 s1 rx (r.mono s1 g1) q
end
section
variable {P : Program} {w : World} {K : PySem.W.Frag} {mg : Str → Option Value} {base : Heap}
/-- defs with defaults -/
theorem okAD {x qual : Str} {st : Stmt} {f : Addr} {fd : FuncData} {N ps : List Str} {k : Nat} {R : RX} {dvs : List V} {kws : List (Str × V)} (F : FunD K x qual (defArgs st) (defBody st) (defScope st) dvs kws f fd) (S : FnScope N ps (defScope st)) (len : ∀ args O Φ Ξ, R args O Φ Ξ → args.length = ps.length)
    (hbody : ∀ (cdv : Value) (A : Around) (outer : List Env) (s : Shared) (H : Hp) (E : XK) (as0 : List Addr) (F0 : Hp) (args : List PV) (O : Own) (Φ : PV → Own → Prop) (Ξ : Ex → Own → Prop), RoomG k (A.deeper (envOfC qual (defScope st) s.heap.objs.size f cdv)) → R args O Φ Ξ →
      ASs (axN P w K mg base N qual (defScope st) f cdv A outer s H E as0 F0) (defBody st) (args.map some ++ List.replicate (N.length - args.length) none) O { nx := fun _ O' => Gh O.length Φ (.d .none) O', rt := Gh O.length Φ }) : Fn ⟨P, w, K, mg, base⟩ (k + 1) f fd ps R := by
  obtain ⟨oc, od, dV, kV, doc, pm, an, cdv, ct, osl, rfl, lk, hcd, _, _⟩ := F.ex
  refine fnA_of lk hcd S (fun vs H Q E h => ?_) fun A outer s H vs Q E hr h => ?_
  · obtain ⟨O, as, F, args, Φ, Ξ, w, rs, q, _⟩ := h
    rw [← rs.len]
    exact len _ _ _ _ q
  · obtain ⟨O, as, F, args, Φ, Ξ, w0, rs, q, hQ, hE⟩ := h
    have z := hbody cdv A outer s H E as F args O Φ Ξ hr q as F (L2.start N vs) H w0 (by unfold L2.start; rw [← rs.len]; exact RS.start _ rs)
    refine ⟨_, (pss_tSs (X := (axN P w K mg base N qual (defScope st) f cdv A outer s H E as F).c)).nox, ?_⟩
    refine tSs_le z ⟨fun σ' H' y => ?_, fun v H' y => ?_, fun _ _ y => ?_, fun _ _ y => ?_⟩
    · obtain ⟨ρ', O', as', F', w', g', s', r', q'⟩ := y
      exact hQ _ _ (q'.sound (by rw [w0.len]; exact Nat.le_refl _) w0.fa.le w' g' s' .non)
    · exact hQ _ _ (PQ.gh (by rw [w0.len]; exact Nat.le_refl _) w0.fa.le y)
    · obtain ⟨_, _, _, _, _, _, _, _, z⟩ := y
      exact z
    · obtain ⟨_, _, _, _, _, _, _, _, z⟩ := y
      exact z
end
end Al
namespace Al
open PySem PySem.Spec L2
open PyProof.Rows hiding St
/-! ### data that may be compared -/
def Shp (k : Nat) (d : PyData) : Prop := PyData.canLay0 d = true ∧ PyData.depth d ≤ k
theorem Shp.sh {k : Nat} {d : PyData} (h : Shp k d) (hk : k ≤ 64) : SeqAt.shaped d = true := by
  unfold SeqAt.shaped
  rw [h.1, decide_eq_true (Nat.le_trans h.2 hk)]
  rfl
theorem Shp.mono {j k : Nat} {d : PyData} (h : Shp j d) (hk : j ≤ k) : Shp k d := ⟨h.1, Nat.le_trans h.2 hk⟩
theorem shp_int {k : Nat} (i : Int) : Shp k (.int i) := ⟨rfl, Nat.zero_le _⟩
theorem shp_bool {k : Nat} (i : Bool) : Shp k (.bool i) := ⟨rfl, Nat.zero_le _⟩
theorem shp_str {k m : Nat} {z : Str} (h : Ok m z) : Shp k (.str z) := ⟨h.strOk, Nat.zero_le _⟩
theorem shp_all {k : Nat} : ∀ {xs : List PyData}, (∀ d ∈ xs, Shp k d) → PyData.canLayAll0 xs = true ∧ PyData.depthAll xs ≤ k
  | [], _ => ⟨rfl, Nat.zero_le _⟩
  | x :: r, h => by
    obtain ⟨h1, h2⟩ := h x (by simp)
    obtain ⟨i1, i2⟩ := shp_all (xs := r) fun d hd => h d (List.mem_cons_of_mem _ hd)
    refine ⟨by simp [PyData.canLayAll0, h1, i1], ?_⟩
    simp only [PyData.depthAll]
    omega
theorem shp_list {k : Nat} {xs : List PyData} (h : ∀ d ∈ xs, Shp k d) : Shp (k + 1) (.list xs) := by
  obtain ⟨h1, h2⟩ := shp_all h
  refine ⟨by simp [PyData.canLay0, h1], ?_⟩
  simp only [PyData.depth]
  omega
theorem shp_tup {k : Nat} {xs : List PyData} (h : ∀ d ∈ xs, Shp k d) : Shp (k + 1) (.tuple xs) := by
  obtain ⟨h1, h2⟩ := shp_all h
  refine ⟨by simp [PyData.canLay0, h1], ?_⟩
  simp only [PyData.depth]
  omega
/-! ### a law -/
/-! ### signs, words, machines -/
def sgn (c : Nat) : Bool := decide (97 ≤ c) && decide (c ≤ 122)
theorem sgn_iff {c : Nat} : sgn c = true ↔ 97 ≤ c ∧ c ≤ 122 := by unfold sgn; rw [Bool.and_eq_true, decide_eq_true_eq, decide_eq_true_eq]
structure WordOk (z : Str) : Prop where
  len : z.length ≤ 400
  all : ∀ c ∈ cds z, sgn c = true
theorem WordOk.ok {z : Str} (h : WordOk z) : Ok 400 z := ⟨h.len, fun c hc => by have := sgn_iff.mp (h.all c hc); omega⟩
/-- a step: room, sign's code, room -/
abbrev Stp := Nat × Nat × Nat
structure Mach where
  n : Nat
  fs : List Nat
  ls : List Nat
  st : List Stp
abbrev iD (k : Nat) : PyData := .int (k : Nat)
abbrev sgD (c : Nat) : PyData := .str ⟨#[c]⟩
abbrev stD (s : Stp) : PyData := .tuple [iD s.1, sgD s.2.1, iD s.2.2]
abbrev rmsD (rs : List Nat) : PyData := .list (rs.map iD)
abbrev vD (v : List Int) : PyData := .list (v.map PyData.int)
abbrev stsD (st : List Stp) : PyData := .list (st.map stD)
abbrev mD (m : Mach) : PyData := .tuple [iD m.n, rmsD m.fs, rmsD m.ls, stsD m.st]
/-- rising rooms below n -/
structure Rms (n : Nat) (rs : List Nat) : Prop where
  up : rs.Pairwise (· < ·)
  lt : ∀ r ∈ rs, r < n
structure StOk (n : Nat) (s : Stp) : Prop where
  a : s.1 < n
  c : sgn s.2.1 = true
  b : s.2.2 < n
structure MOk (m : Mach) : Prop where
  n0 : 1 ≤ m.n
  n1 : m.n ≤ 12
  fs : Rms m.n m.fs
  ls : Rms m.n m.ls
  st : ∀ s ∈ m.st, StOk m.n s
  nd : m.st.Nodup
  len : m.st.length ≤ 200
theorem Rms.len {n : Nat} {rs : List Nat} (h : Rms n rs) : rs.length ≤ n := by
  have key : ∀ {rs : List Nat} {b : Nat}, rs.Pairwise (· < ·) → (∀ r ∈ rs, b ≤ r ∧ r < n) → rs.length + b ≤ max n b := by
    intro rs
    induction rs with
    | nil => intro b _ _; simp; omega
    | cons r rs ih =>
      intro b hp hb
      rw [List.pairwise_cons] at hp
      have h1 := hb r (by simp)
      have := ih (b := r + 1) hp.2 fun x hx => ⟨hp.1 x hx, (hb x (List.mem_cons_of_mem _ hx)).2⟩
      rw [List.length_cons]
      omega
  have := key (b := 0) h.up fun r hr => ⟨Nat.zero_le _, h.lt r hr⟩
  omega
theorem Rms.one {n r : Nat} (h : r < n) : Rms n [r] := ⟨by simp, fun x hx => by
  have e : x = r := by simpa using hx
  omega⟩
theorem Rms.nil {n : Nat} : Rms n [] := ⟨by simp, fun x hx => by cases hx⟩
theorem shp_rms {k : Nat} (rs : List Nat) : Shp (k + 1) (rmsD rs) := shp_list fun d hd => by
  obtain ⟨r, _, rfl⟩ := List.mem_map.mp hd
  exact shp_int _
theorem any_rms (rs : List Nat) (r : Nat) : ((rs.map iD).any fun y => PyData.eqv y (iD r)) = decide (r ∈ rs) := by
  rw [Bool.eq_iff_iff, List.any_eq_true, decide_eq_true_eq]
  constructor
  · rintro ⟨d, hd, he⟩
    obtain ⟨x, hx, rfl⟩ := List.mem_map.mp hd
    have e : (x : Int) = r := by simpa [iD, PyData.eqv] using he
    have e2 : x = r := by omega
    subst e2; exact hx
  · intro h
    exact ⟨iD r, List.mem_map.mpr ⟨r, h, rfl⟩, by simp [iD, PyData.eqv]⟩
/-! ### vectors -/
def alone (n : Nat) (rs : List Nat) : List Int := (List.range n).map fun r => if decide (r ∈ rs) = true then 1 else 0
def mvd (n : Nat) (st : List Stp) (v : List Int) (c : Nat) : List Int := (List.range n).map fun r => ((st.filter fun s => decide (s.2.1 = c) && decide (s.2.2 = r)).map fun s => v.getD s.1 0).sum
def mvs (m : Mach) (v : List Int) (cs : List Nat) : List Int := cs.foldl (fun v c => mvd m.n m.st v c) v
theorem alone_len (n : Nat) (rs : List Nat) : (alone n rs).length = n := by unfold alone; simp
theorem mvd_len (n : Nat) (st : List Stp) (v : List Int) (c : Nat) : (mvd n st v c).length = n := by unfold mvd; simp
theorem mvs_len (m : Mach) : ∀ (cs : List Nat) {v : List Int}, v.length = m.n → (mvs m v cs).length = m.n
  | [], v, h => h
  | c :: cs, v, h => mvs_len m cs (v := mvd m.n m.st v c) (mvd_len _ _ _ _)
theorem mvs_snoc (m : Mach) (v : List Int) (cs : List Nat) (c : Nat) : mvs m v (cs ++ [c]) = mvd m.n m.st (mvs m v cs) c := by
  unfold mvs
  rw [List.foldl_append]; rfl
theorem mvd_nil (n : Nat) (v : List Int) (c : Nat) : mvd n [] v c = List.replicate n 0 := by
  unfold mvd
  simp [List.map_const']
theorem mvd_get (n : Nat) (st : List Stp) (v : List Int) (c : Nat) {r : Nat} (h : r < n) : (mvd n st v c)[r]? = some ((st.filter fun s => decide (s.2.1 = c) && decide (s.2.2 = r)).map fun s => v.getD s.1 0).sum := by
  unfold mvd
  rw [List.getElem?_map, List.getElem?_range h]; rfl
theorem mvd_no {n : Nat} {st : List Stp} {v : List Int} {c : Nat} {s : Stp} (h : ¬ s.2.1 = c) : mvd n (st ++ [s]) v c = mvd n st v c := by
  unfold mvd
  refine List.map_congr_left fun r _ => ?_
  rw [List.filter_append]
  simp [h]
theorem mvd_yes {n : Nat} {st : List Stp} {v : List Int} {c : Nat} {s : Stp} {x : Int} (h : s.2.1 = c) (hx : (mvd n st v c)[s.2.2]? = some x) : mvd n (st ++ [s]) v c = (mvd n st v c).set s.2.2 (x + v.getD s.1 0) := by
  have hb : s.2.2 < n := by have := (List.getElem?_eq_some_iff.mp hx).1; rw [mvd_len] at this; exact this
  rw [mvd_get n st v c hb] at hx
  have hx := (Option.some.inj hx).symm
  refine List.ext_getElem? fun r => ?_
  by_cases hr : r < n
  · rw [mvd_get n _ v c hr, List.getElem?_set]
    by_cases e : s.2.2 = r
    · rw [if_pos e, if_pos (by rw [mvd_len]; omega), List.filter_append, List.map_append, List.sum_append]
      subst e
      rw [hx]
      simp [h]
    · rw [if_neg e, mvd_get n st v c hr, List.filter_append]
      simp [e]
  · rw [List.getElem?_eq_none (by rw [mvd_len]; omega), List.getElem?_eq_none (by rw [List.length_set, mvd_len]; omega)]
def waysN (m : Mach) (cs : List Nat) (fs ls : List Nat) : Int := (ls.map fun r => (mvs m (alone m.n fs) cs).getD r 0).sum
def rowsV (m : Mach) (fs : List Nat) (cs : List Nat) : List (List Int) := (List.range (cs.length + 1)).map fun i => mvs m (alone m.n fs) (cs.take i)
/-! ### promises -/
def rSign : RA := fun args O Φ => ∃ c, args = [pS ⟨#[c]⟩] ∧ Φ (pB (sgn c)) O
def rWhole : RA := fun args O Φ => ∃ i, args = [pI i] ∧ Φ (pB true) O
def rWithin : RA := fun args O Φ => ∃ i a b, args = [pI i, pI a, pI b] ∧ Φ (pB (decide (a ≤ i) && decide (i ≤ b))) O
def rLookRooms : RA := fun args O Φ => ∃ n p rs, args = [.d (iD n), p, .d (rmsD rs)] ∧ Rms n rs ∧ Φ pN O
def rIsStep : RA := fun args O Φ => ∃ n s, args = [.d (iD n), .d (stD s)] ∧ StOk n s ∧ Φ (pB true) O
def rLookSteps : RA := fun args O Φ => ∃ n st, args = [.d (iD n), .d (stsD st)] ∧ (∀ s ∈ st, StOk n s) ∧ st.Nodup ∧ st.length ≤ 200 ∧ ClO O ∧ Φ pN O
def rLook : RA := fun args O Φ => ∃ m, args = [.d (mD m)] ∧ MOk m ∧ ClO O ∧ Φ pN O
def rLookRoom : RA := fun args O Φ => ∃ m r, args = [.d (mD m), .d (iD r)] ∧ r < m.n ∧ Φ pN O
def rLookWord : RA := fun args O Φ => ∃ z, args = [pS z] ∧ WordOk z ∧ Φ pN O
/-- an owned vector -/
abbrev lv (v : List Int) : AO := .lst ((v.map PyData.int).map PV.d)
/-- p is the vector v, frozen or owned -/
def IsV (O : Own) (p : PV) (v : List Int) : Prop := p = .d (vD v) ∨ ∃ n, p = .o n ∧ O[n]? = some (lv v)
theorem isV_d {O : Own} {v : List Int} : IsV O (.d (vD v)) v := .inl rfl
theorem IsV.app {O l : Own} {p : PV} {v : List Int} (h : IsV O p v) : IsV (O ++ l) p v := by
  rcases h with h | ⟨n, h, e⟩
  · exact .inl h
  · exact .inr ⟨n, h, by rw [List.getElem?_append_left (List.getElem?_eq_some_iff.mp e).1]; exact e⟩
theorem isV_last {O : Own} {v : List Int} : IsV (O ++ [lv v]) (.o O.length) v := .inr ⟨_, rfl, by simp⟩
def rAlone : RA := fun args O Φ => ∃ m rs, args = [.d (mD m), .d (rmsD rs)] ∧ m.n ≤ 100 ∧ Φ (.o O.length) (O ++ [lv (alone m.n rs)])
def rMoved : RA := fun args O Φ => ∃ m p v c, args = [.d (mD m), p, pS ⟨#[c]⟩] ∧ MOk m ∧ IsV O p v ∧ v.length = m.n ∧ Φ (.o O.length) (O ++ [lv (mvd m.n m.st v c)])
def rMovedBy : RA := fun args O Φ => ∃ m v z O1, args = [.d (mD m), .o O1.length, pS z] ∧ O = O1 ++ [lv v] ∧ MOk m ∧ v.length = m.n ∧ ClO O1 ∧ (cds z = [] → Φ (.o O1.length) O) ∧ (cds z ≠ [] → Φ (.o (O1.length + 1)) (O1 ++ [lv v, lv (mvs m v (cds z))]))
def rSumAt : RA := fun args O Φ => ∃ p v rs, args = [p, .d (rmsD rs)] ∧ IsV O p v ∧ (∀ r ∈ rs, r < v.length) ∧ rs.length ≤ 1000 ∧ ClO O ∧ Φ (pI (rs.map fun r => v.getD r 0).sum) O
def oD : Option Nat → PyData
  | none => .none
  | some r => iD r
def rWays : RA := fun args O Φ => ∃ m z f l, args = [.d (mD m), pS z, .d (oD f), .d (oD l)] ∧ MOk m ∧ WordOk z ∧ (∀ r, f = some r → r < m.n) ∧ (∀ r, l = some r → r < m.n) ∧ ClO O ∧ Φ (pI (waysN m (cds z) (f.elim m.fs fun r => [r]) (l.elim m.ls fun r => [r]))) O
/-- owned rooms -/
abbrev lr (rs : List Nat) : AO := .lst ((rs.map iD).map PV.d)
end Al
namespace Al
open PySem PySem.Spec L2
open PyProof.Rows hiding St
section
variable {X : Ax} {O : Own} {Φ : PV → Own → Prop} {m : Mach}
theorem ixm0 (k : Φ (.d (iD m.n)) O) : IxA X (.d (mD m)) (pI 0) O Φ := ix_T rfl k
theorem ixm1 (k : Φ (.d (rmsD m.fs)) O) : IxA X (.d (mD m)) (pI 1) O Φ := ix_T rfl k
theorem ixm2 (k : Φ (.d (rmsD m.ls)) O) : IxA X (.d (mD m)) (pI 2) O Φ := ix_T rfl k
theorem ixm3 (k : Φ (.d (stsD m.st)) O) : IxA X (.d (mD m)) (pI 3) O Φ := ix_T rfl k
theorem ixs0 {s : Stp} (k : Φ (.d (iD s.1)) O) : IxA X (.d (stD s)) (pI 0) O Φ := ix_T rfl k
theorem ixs1 {s : Stp} (k : Φ (pS ⟨#[s.2.1]⟩) O) : IxA X (.d (stD s)) (pI 1) O Φ := ix_T rfl k
theorem ixs2 {s : Stp} (k : Φ (.d (iD s.2.2)) O) : IxA X (.d (stD s)) (pI 2) O Φ := ix_T rfl k
theorem getD_of {v : List Int} {i : Nat} (h : i < v.length) : v[i]? = some (v.getD i 0) := by
  rw [List.getElem?_eq_getElem h, List.getD_eq_getElem?_getD, List.getElem?_eq_getElem h]; rfl
theorem ix_v {v : List Int} {i : Nat} (h : i < v.length) (k : Φ (pI (v.getD i 0)) O) : IxA X (.d (vD v)) (.d (iD i)) O Φ := ix_L (i := (i : Nat)) (a := .int (v.getD i 0)) (by
  refine atI_nat ?_
  rw [List.getElem?_map, getD_of h]; rfl) k
theorem ix_V {p : PV} {v : List Int} {i : Nat} (hv : IsV O p v) (h : i < v.length) (k : Φ (pI (v.getD i 0)) O) : IxA X p (.d (iD i)) O Φ := by
  rcases hv with rfl | ⟨n, rfl, e⟩
  · exact ix_v h k
  · refine ix_O (i := (i : Nat)) (a := pI (v.getD i 0)) e (atI_nat ?_) k
    rw [List.getElem?_map, List.getElem?_map, getD_of h]; rfl
end
/-! ### what the laws draw -/
def rRooms : RA := fun args O Φ => ∃ h a s n, args = [.o h, .d (iD n)] ∧ O[h]? = some (hnd a s) ∧ HandOk a s ∧ 1 ≤ n ∧ n ≤ 100 ∧ ClO O ∧ ∀ rs a' s', HandOk a' s' → Rms n rs → Φ (.d (rmsD rs)) (O.set h (hnd a' s'))
structure LetOk (z : Str) : Prop where
  l0 : 1 ≤ z.length
  l1 : z.length ≤ 26
  all : ∀ c ∈ cds z, sgn c = true
def rLetters : RA := fun args O Φ => ∃ h a s, args = [.o h] ∧ O[h]? = some (hnd a s) ∧ HandOk a s ∧ ∀ z a' s', HandOk a' s' → LetOk z → z.length ≤ 10 → Φ (pS z) (O.set h (hnd a' s'))
def rMachine : RA := fun args O Φ => ∃ h a s u e z, args = [.o h, pI u, pI e, pS z] ∧ O[h]? = some (hnd a s) ∧ HandOk a s ∧ 1 ≤ u ∧ u ≤ 12 ∧ 0 ≤ e ∧ e ≤ 180 ∧ LetOk z ∧ ClO O ∧ ∀ m a' s', HandOk a' s' → MOk m → (m.n : Int) ≤ u → (∀ t ∈ m.st, t.2.1 ∈ cds z) → (m.st.length : Int) < u + e → Φ (.d (mD m)) (O.set h (hnd a' s'))
def rWord : RA := fun args O Φ => ∃ h a s z u, args = [.o h, pS z, pI u] ∧ O[h]? = some (hnd a s) ∧ HandOk a s ∧ LetOk z ∧ 0 ≤ u ∧ u ≤ 1000 ∧ ClO O ∧ ∀ y a' s', HandOk a' s' → (y.length : Int) ≤ u → (∀ c ∈ cds y, c ∈ cds z) → Φ (pS y) (O.set h (hnd a' s'))
end Al
namespace Al
open PySem PySem.Spec L2
open PyProof.Rows hiding St
theorem in_letters (c : Nat) : decide (c ∈ (Str.ofString "abcdefghijklmnopqrstuvwxyz").cps.toList) = sgn c := by
  have e : (Str.ofString "abcdefghijklmnopqrstuvwxyz").cps.toList = [97, 98, 99, 100, 101, 102, 103, 104, 105, 106, 107, 108, 109, 110, 111, 112, 113, 114, 115, 116, 117, 118, 119, 120, 121, 122] := by decide +kernel
  rw [e, Bool.eq_iff_iff, decide_eq_true_eq, sgn_iff]
  simp only [List.mem_cons, List.not_mem_nil, or_false]
  omega
theorem c_len1 {X : Ax} {O : Own} {Φ : PV → Own → Prop} {c : Nat} (k : Φ (pI 1) O) : CallA X (.builtin "len") [pS ⟨#[c]⟩] O Φ := c_lenS (show 1 ≤ sizeLine by rw [sizeLine_eq]; decide) k
end Al
namespace Al
theorem andT {a b : Prop} [Decidable a] [Decidable b] (ha : a) (hb : b) : (decide a && decide b) = true := by rw [decide_eq_true ha, decide_eq_true hb]; rfl
end Al
namespace Al
open PySem PySem.Spec L2
open PyProof.Rows hiding St
theorem take_app {O l : Own} : (O ++ l).take O.length = O := by simp
/-- what stands behind O is let go -/
theorem gh_drop {Φ : PV → Own → Prop} {O l : Own} {pv : PV} (cl : ClO O) (hb : pv.blw O.length = true) (k : Φ pv O) : Gh O.length Φ pv (O ++ l) :=
  .drop O.length (Nat.le_refl _) hb (by rw [take_app]; exact cl) (by rw [take_app]; exact .keep k)
def kS (s : Stp) : List Key := [.inl (s.1 : Nat), .inr ⟨#[s.2.1]⟩, .inl (s.2.2 : Nat)]
theorem kS_inj {s t : Stp} (h : kS s = kS t) : s = t := by
  obtain ⟨a, c, b⟩ := s
  obtain ⟨a', c', b'⟩ := t
  simp only [kS, List.cons.injEq, Sum.inl.injEq, Sum.inr.injEq, and_true] at h
  obtain ⟨h1, h2, h3⟩ := h
  have e2 : c = c' := by
    have := congrArg Str.cps h2
    simpa using this
  have e1 : a = a' := by omega
  have e3 : b = b' := by omega
  rw [e1, e2, e3]
theorem kS_new {l : List Stp} {s : Stp} {x : PV} (h : s ∉ l) : getK (l.map fun t => (kS t, x)) (kS s) = none ∧ setK (l.map fun t => (kS t, x)) (kS s) x = (l ++ [s]).map fun t => (kS t, x) := by
  have hn : ((l.map fun t => (kS t, x)).any fun kv => decide (kv.1 = kS s)) = false := by
    rw [List.any_eq_false]
    intro p hp
    obtain ⟨t, ht, rfl⟩ := List.mem_map.mp hp
    simp only [decide_eq_true_eq]
    intro e
    exact h (kS_inj e ▸ ht)
  refine ⟨?_, ?_⟩
  · unfold getK
    rw [List.find?_eq_none.mpr]
    · rfl
    · intro p hp
      have := List.any_eq_false.mp hn p hp
      simpa using this
  · unfold setK
    rw [if_neg (by rw [hn]; exact Bool.false_ne_true)]
    simp
theorem nodup_take {α : Type} {l : List α} (h : l.Nodup) {i : Nat} {x : α} (hx : l[i]? = some x) : x ∉ l.take i := by
  intro hm
  obtain ⟨j, hj, e⟩ := List.getElem_of_mem hm
  have hj' : j < i := by rw [List.length_take] at hj; omega
  obtain ⟨hi, e2⟩ := List.getElem?_eq_some_iff.mp hx
  rw [List.getElem_take] at e
  have := (List.getElem_inj h).mp (e.trans e2.symm)
  omega
theorem take_succ_of {α : Type} {l : List α} {i : Nat} {x : α} (hx : l[i]? = some x) : l.take (i + 1) = l.take i ++ [x] := by rw [List.take_add_one, hx]; rfl
end Al
namespace Al
open PySem PySem.Spec L2
open PyProof.Rows hiding St
abbrev g2 (K : PySem.W.Frag) (i j : Nat) : TG := gTup K 2 (gCons (gName i) (gCons (gName j) gNil))
abbrev g3 (K : PySem.W.Frag) (i j k : Nat) : TG := gTup K 3 (gCons (gName i) (gCons (gName j) (gCons (gName k) gNil)))
theorem rep_one {α : Type} (x : α) : ∀ k, (List.replicate k [x]).flatten = List.replicate k x
  | 0 => rfl
  | k + 1 => by rw [List.replicate_succ, List.flatten_cons, rep_one x k]; rfl
theorem rng_map (n : Nat) : rngP 0 n = (List.range n).map fun i => PV.d (iD i) := by
  unfold rngP
  refine List.map_congr_left fun i _ => ?_
  show PV.d (.int (0 + (i : Int))) = PV.d (.int i)
  rw [Int.zero_add]
theorem fm_filter {α β : Type} (l : List α) (p : α → Bool) (g : α → β) : (l.filterMap fun x => if p x = true then some (g x) else none) = (l.filter p).map g := by
  induction l with
  | nil => rfl
  | cons x l ih =>
    rw [List.filterMap_cons, List.filter_cons]
    by_cases h : p x = true
    · rw [if_pos h, if_pos h, ih]; rfl
    · rw [if_neg h, if_neg h, ih]
end Al
namespace Al
open PySem PySem.Spec L2
open PyProof.Rows hiding St
end Al
namespace Al
open PySem PySem.Spec L2
open PyProof.Rows hiding St
section
variable {X : Ax} {e a b c elt tg iter : Expr} {ifs es : List Expr} {ρ : Env1} {O : Own} {Φ : PV → Own → Prop} {pos p p2 : Pos} {scope : Scope} {g : TG} {vs : List Nat}
/-- some of the items are kept, in their order; each gives what f says; the owned objects keep J -/
theorem lc_sel {α : Type} (mg : TGMono g) (h : AI X tg iter ρ O fun items G O1 => O.length ≤ O1.length ∧ ∃ (src : List α) (inj : α → PV) (f : α → PyData) (J : Own → Prop), items = src.map inj ∧ src.length ≤ 15999999 ∧ J O1 ∧ (∀ O', J O' → O'.length = O1.length ∧ ClO O' ∧ ∀ acc, G (O' ++ [.lst acc])) ∧
      (∀ x ∈ src, ∀ O' (acc : List PyData), J O' → AGr X.k g (inj x) (wipeA ρ vs) (O' ++ [.lst (acc.map PV.d)]) fun ρ2 O2 => ATb X scope ifs ρ2 O2 fun b O3 => if b = true then AEb X scope elt ρ2 O3 fun y O4 => ∃ O'', O4 = O'' ++ [.lst (acc.map PV.d)] ∧ J O'' ∧ y = .d (f x) else ∃ O'', O3 = O'' ++ [.lst (acc.map PV.d)] ∧ J O'') ∧
      (∀ O' sub, J O' → List.Sublist sub src → Φ (pL (sub.map f)) O')) : LcA X scope elt tg iter ifs g vs ρ O Φ := fun as F σ H w r R k => by
  refine h as F σ H w r R fun J H1 items G O1 as1 F1 w1 g1 s1 jok ⟨hle, src, inj, f, Jo, hit, hlen, j0, jc, step, done⟩ => ?_
  subst hit
  refine k J H1 _ G O1 as1 F1 w1 g1 s1 jok ⟨fun i acc O2 => ∃ O' sub, O2 = O' ++ [.lst acc] ∧ Jo O' ∧ acc = (sub.map f).map PV.d ∧ List.Sublist sub (src.take i), ⟨O1, [], rfl, j0, rfl, List.nil_sublist _⟩, ?_, ?_, ?_⟩
  · rintro i acc O2 ⟨O', sub, rfl, hj, _⟩
    obtain ⟨h1, h2, h3⟩ := jc O' hj
    exact ⟨by rw [← h1]; simp, h3 acc⟩
  · rintro i x acc O2 hx ⟨O', sub, rfl, hj, hacc, hsub⟩
    rw [List.getElem?_map, Option.map_eq_some_iff] at hx
    obtain ⟨x, hx, rfl⟩ := hx
    have hm : x ∈ src := List.mem_of_getElem? hx
    have hi : i < src.length := (List.getElem?_eq_some_iff.mp hx).1
    have et := take_succ_of hx
    have hl : acc.length < 16000000 := by
      rw [hacc, List.length_map, List.length_map]
      have h1 := hsub.length_le
      rw [List.length_take] at h1
      omega
    intro as2 F2 σ2 H2 v w2 r2 rv
    have z := step x hm O' (sub.map f) hj
    rw [← hacc] at z
    replace z := z as2 F2 σ2 H2 v w2 r2 rv
    refine mg _ _ _ _ _ z fun σ' H' ⟨ρ3, O3, as', F', w', g', s', r', q⟩ => ⟨ρ3, O3, as', F', w', g', s', r', ?_⟩
    intro s0 H0 C cl fp as3 F3 σ3 H3 w3 r3
    refine tTs_mono (q s0 H0 C cl fp as3 F3 σ3 H3 w3 r3) fun b H5 ⟨O5, as5, F5, w5, g5, s5, q5⟩ => ⟨O5, as5, F5, w5, g5, s5, ?_⟩
    cases b with
    | false =>
      simp only [Bool.false_eq_true, if_false] at q5 ⊢
      obtain ⟨O'', e5, j5⟩ := q5
      exact ⟨O'', sub, e5, j5, hacc, by rw [et]; exact hsub.trans (List.sublist_append_left _ _)⟩
    | true =>
      simp only [if_true] at q5 ⊢
      intro s0 H0 C cl fp
      refine (q5 s0 H0 C cl fp).mono fun y O6 ⟨O'', e6, j6, e8⟩ => ?_
      subst e6 e8
      have hlen2 : O''.length = O1.length := (jc O'' j6).1
      refine ⟨acc, by rw [← hlen2]; simp, hl, O'', sub ++ [x], by rw [← hlen2]; simp, j6, by rw [hacc]; simp, ?_⟩
      rw [et]
      exact hsub.append (List.Sublist.refl _)
  · rintro acc O2 ⟨O', sub, rfl, hj, hacc, hsub⟩
    obtain ⟨h1, h2, _⟩ := jc O' hj
    subst hacc
    rw [← h1]
    rw [List.length_map, List.take_length] at hsub
    exact gh_list0 h2 (by omega) (done O' sub hj hsub)
end
theorem at_mem {α : Type} {xs : List α} {r : Int} (h0 : 0 ≤ r) (h1 : r < xs.length) : ∃ x, atI xs r = some x ∧ x ∈ xs := by
  obtain ⟨k, rfl⟩ := Int.eq_ofNat_of_zero_le h0
  have hm : k < xs.length := by omega
  exact ⟨_, atI_nat (List.getElem?_eq_getElem hm), List.getElem_mem hm⟩
theorem set_app {O l : Own} {h : Nat} {y : AO} (hh : h < O.length) : O.set h y ++ l = (O ++ l).set h y := by rw [List.set_append_left _ _ hh]
theorem app_lt {O l : Own} {h : Nat} (hh : h < O.length) : h < (O ++ l).length := by rw [List.length_append]; omega
theorem app_last {O : Own} {h : Nat} {y x : AO} (hh : h < O.length) : ((O ++ [x]).set h y)[O.length]? = some x := by
  rw [List.getElem?_set_ne (by omega)]; simp
theorem set_last {O : Own} {h : Nat} {y x x' : AO} (hh : h < O.length) : ((O ++ [x]).set h y).set O.length x' = (O ++ [x']).set h y := by
  rw [← set_app hh, ← set_app hh, List.set_append_right _ _ (by rw [List.length_set]; omega)]
  simp
theorem lst_below {n : Nat} (ds : List PyData) : (AO.lst (ds.map PV.d)).below n = true := by
  show (ds.map PV.d).all _ = true
  rw [List.all_map]
  exact List.all_eq_true.mpr fun _ _ => rfl
theorem cl_lst {O : Own} {ds : List PyData} (cl : ClO O) : ClO (O ++ [AO.lst (ds.map PV.d)]) := cl_app cl (lst_below ds)
/-- a tuple of data and, last, an owned list of data: both frozen -/
theorem gh_tupL {Φ : PV → Own → Prop} {O : Own} {ds pre : List PyData} (cl : ClO O) (k : Φ (pT (pre ++ [.list ds])) O) : Gh O.length Φ (.o (O.length + 1)) (O ++ [.lst (ds.map PV.d)] ++ [.tup (pre.map PV.d ++ [.o O.length])]) := by
  have e1 : frzO O.length (.list ds) (O ++ [.lst (ds.map PV.d)] ++ [.tup (pre.map PV.d ++ [.o O.length])]) = O ++ [.gone] ++ [.tup ((pre ++ [PyData.list ds]).map PV.d)] := by
    unfold frzO
    rw [List.append_assoc, List.set_append_right _ _ (Nat.le_refl _), Nat.sub_self, List.map_append, own_frz_below cl]
    have e2 : (pre.map PV.d).map (PV.frz O.length (.list ds)) = pre.map PV.d := by rw [List.map_map]; rfl
    simp [AO.frz, e2, PV.frz]
  have n1 : (PV.o (O.length + 1)).frz O.length (.list ds) = PV.o (O.length + 1) := by
    show (if O.length + 1 = O.length then PV.d (.list ds) else PV.o (O.length + 1)) = _
    rw [if_neg (by omega)]
  refine .frL O.length (ds := ds) (by simp) ?_
  rw [e1, n1]
  refine .frT (O.length + 1) (ds := pre ++ [.list ds]) (by simp) ?_
  have n2 : (PV.o (O.length + 1)).frz (O.length + 1) (.tuple (pre ++ [.list ds])) = pT (pre ++ [.list ds]) := by
    show (if O.length + 1 = O.length + 1 then PV.d (.tuple (pre ++ [.list ds])) else PV.o (O.length + 1)) = _
    rw [if_pos rfl]
  rw [n2]
  have e3 : (frzO (O.length + 1) (.tuple (pre ++ [.list ds])) (O ++ [.gone] ++ [.tup ((pre ++ [PyData.list ds]).map PV.d)])).take O.length = O := by
    unfold frzO
    rw [← List.map_take, List.take_set_of_le (Nat.le_succ _), List.append_assoc, take_app, own_frz_below]
    exact List.all_eq_true.mpr fun y hy => ao_below_mono (Nat.le_succ _) (List.all_eq_true.mp cl y hy)
  refine .drop O.length (Nat.le_refl _) rfl (by rw [e3]; exact cl) ?_
  rw [e3]
  exact .keep k
theorem eqv_stD (s t : Stp) : PyData.eqv (stD s) (stD t) = decide (s = t) := by
  obtain ⟨a, c, b⟩ := s
  obtain ⟨a', c', b'⟩ := t
  rw [Bool.eq_iff_iff, decide_eq_true_eq]
  simp only [PyData.eqv, PyData.eqvAll, Bool.and_eq_true, beq_iff_eq, and_true, Prod.mk.injEq]
  constructor
  · rintro ⟨h1, h2, h3⟩
    refine ⟨by omega, ?_, by omega⟩
    have := congrArg Str.cps h2
    simpa using this
  · rintro ⟨rfl, rfl, rfl⟩
    exact ⟨rfl, rfl, rfl⟩
theorem any_sts (sts : List Stp) (t : Stp) : ((sts.map stD).any fun y => PyData.eqv y (stD t)) = decide (t ∈ sts) := by
  rw [Bool.eq_iff_iff, List.any_eq_true, decide_eq_true_eq]
  constructor
  · rintro ⟨d, hd, he⟩
    obtain ⟨x, hx, rfl⟩ := List.mem_map.mp hd
    rw [eqv_stD, decide_eq_true_eq] at he
    exact he ▸ hx
  · intro h
    exact ⟨stD t, List.mem_map.mpr ⟨t, h, rfl⟩, by rw [eqv_stD, decide_eq_true_eq]⟩
theorem sgn_lt {c : Nat} (h : sgn c = true) : c < 1114112 := by have := sgn_iff.mp h; omega
theorem shp_st {n k : Nat} {t : Stp} (h : StOk n t) : Shp (k + 1) (stD t) := shp_tup fun d hd => by
  simp only [List.mem_cons, List.not_mem_nil, or_false] at hd
  rcases hd with rfl | rfl | rfl
  · exact shp_int _
  · exact shp_str (ok_one (sgn_lt h.c))
  · exact shp_int _
theorem shp_sts {n k : Nat} {sts : List Stp} (h : ∀ t ∈ sts, StOk n t) : Shp (k + 2) (stsD sts) := shp_list fun d hd => by
  obtain ⟨t, ht, rfl⟩ := List.mem_map.mp hd
  exact shp_st (h t ht)
theorem LetOk.ok {z : Str} (h : LetOk z) : Ok 26 z := ⟨h.l1, fun c hc => sgn_lt (h.all c hc)⟩
theorem letOk_lit {z : Str} (h : (decide (1 ≤ z.length) && decide (z.length ≤ 26) && (cds z).all sgn) = true) : LetOk z := by
  rw [Bool.and_eq_true, Bool.and_eq_true, List.all_eq_true] at h
  exact ⟨of_decide_eq_true h.1.1, of_decide_eq_true h.1.2, h.2⟩
theorem rooms_at {O : Own} {h : Nat} {a s : Int} {n : Nat} {Φ : PV → Own → Prop} (hh : h < O.length) (ok : HandOk a s) (n0 : 1 ≤ n) (n1 : n ≤ 100) (cl : ClO O) (k : ∀ rs a' s', HandOk a' s' → Rms n rs → Φ (.d (rmsD rs)) (O.set h (hnd a' s'))) : rRooms [.o h, .d (iD n)] (O.set h (hnd a s)) Φ :=
  ⟨h, a, s, n, rfl, List.getElem?_set_self hh, ok, n0, n1, cl_hnd cl, fun rs a' s' o1 hr => by rw [List.set_set]; exact k rs a' s' o1 hr⟩
theorem rms_sub {n : Nat} {rs : List Nat} (h : List.Sublist rs (List.range n)) : Rms n rs := ⟨(List.pairwise_lt_range (n := n)).sublist h, fun r hr => List.mem_range.mp (h.subset hr)⟩
end Al
namespace Al
open PySem PySem.Spec L2
open PyProof.Rows hiding St
theorem first_of (l : List Int) : ∃ c, atI (l.map PyData.int ++ [PyData.int 0]) 0 = some (PyData.int c) := by
  cases l with
  | nil => exact ⟨0, rfl⟩
  | cons x r => exact ⟨x, atI_nat (j := 0) rfl⟩
end Al
namespace Al
open L2
theorem at_last {α : Type} (l : List α) (x : α) : atI (l ++ [x]) (-1) = some x := by
  unfold atI ixN
  rw [if_neg (by decide), if_pos (by rw [List.length_append, List.length_singleton]; omega)]
  have e : ((-1 : Int) + ((l ++ [x]).length : Nat)).toNat = l.length := by rw [List.length_append, List.length_singleton]; omega
  show (l ++ [x])[((-1 : Int) + ((l ++ [x]).length : Nat)).toNat]? = some x
  rw [e]
  simp
end Al
namespace Al
open PySem PySem.Spec L2
open PyProof.Rows hiding St
end Al
namespace Al
open PySem L2
end Al
namespace Al
open PySem PySem.Spec L2
open PyProof.Rows hiding St
/-! ### the end of a law, where the promise may lean on «nothing is being shown» -/
end Al
namespace Al
open PySem PySem.Spec L2
open PyProof.Rows hiding St
/-! ### repr -/
/-- data that may be shown -/
structure Rp (n : Nat) (d : PyData) : Prop where
  sh : PyData.showable d = true
  ls : PyData.leavesShort 600 d = true
  wt : PyData.weight d ≤ n
theorem Rp.mono {m n : Nat} {d : PyData} (h : Rp m d) (hmn : m ≤ n) : Rp n d := ⟨h.sh, h.ls, Nat.le_trans h.wt hmn⟩
theorem Rp.len {n : Nat} {d : PyData} (h : Rp n d) (hn : n ≤ 27000) : d.shown.length ≤ sizeLine := by
  have h1 := PyData.shown_le 600 (by decide) d h.ls
  have h2 : (600 + 2) * d.weight ≤ 602 * 27000 := Nat.mul_le_mul (by decide) (Nat.le_trans h.wt hn)
  rw [sizeLine_eq]
  omega
theorem rp_none {n : Nat} : Rp n .none := ⟨rfl, rfl, Nat.zero_le _⟩
theorem rp_bool {n : Nat} (b : Bool) : Rp n (.bool b) := ⟨rfl, rfl, Nat.zero_le _⟩
theorem rp_int {n : Nat} {i : Int} (h1 : -(2 ^ 63) ≤ i) (h2 : i ≤ 2 ^ 63) (hn : 64 ≤ n) : Rp n (.int i) := by
  have hb : i.natAbs < 2 ^ 64 := by omega
  have hl : i.natAbs.log2 < 64 := by
    by_cases h0 : i.natAbs = 0
    · rw [h0]; decide
    · exact (Nat.log2_lt h0).mpr hb
  refine ⟨?_, ?_, ?_⟩
  · simp only [PyData.showable, decide_eq_true_eq]; omega
  · simp only [PyData.leavesShort, decide_eq_true_eq, PyData.shown_int]
    have := int_text_length_le (a := i) (k := 64) (by decide) hl
    show (Str.ofString (toString i)).length ≤ 600
    rw [PySem.ofString_length]
    omega
  · simp only [PyData.weight]
    split
    · exact Nat.zero_le _
    · omega
theorem rp_str {m n : Nat} {z : Str} (h : Ok m z) (hn : m ≤ n) : Rp n (.str z) := by
  refine ⟨rfl, ?_, ?_⟩
  · simp only [PyData.leavesShort, List.all_eq_true, decide_eq_true_eq]
    intro c hc
    have := h.2 c hc
    have : (16 : Nat) ^ 8 = 4294967296 := by decide
    omega
  · simp only [PyData.weight]
    exact Nat.le_trans h.1 hn
theorem rp_all {m : Nat} : ∀ {xs : List PyData}, (∀ d ∈ xs, Rp m d) → PyData.showableAll xs = true ∧ PyData.leavesShortAll 600 xs = true ∧ PyData.weightAll xs ≤ xs.length * (m + 1)
  | [], _ => ⟨rfl, rfl, Nat.zero_le _⟩
  | x :: r, h => by
    have h1 := h x (by simp)
    obtain ⟨i2, i3, i4⟩ := rp_all (xs := r) fun d hd => h d (List.mem_cons_of_mem _ hd)
    refine ⟨by simp [PyData.showableAll, h1.sh, i2], by simp [PyData.leavesShortAll, h1.ls, i3], ?_⟩
    simp only [PyData.weightAll, List.length_cons]
    have := h1.wt
    rw [Nat.succ_mul]
    omega
theorem rp_list {m n : Nat} {xs : List PyData} (h : ∀ d ∈ xs, Rp m d) (hn : xs.length * (m + 1) ≤ n) : Rp n (.list xs) := by
  obtain ⟨h2, h3, h4⟩ := rp_all h
  exact ⟨by simp [PyData.showable, h2], by simp [PyData.leavesShort, h3], by simp only [PyData.weight]; omega⟩
theorem rp_tup {m n : Nat} {xs : List PyData} (h : ∀ d ∈ xs, Rp m d) (hn : xs.length * (m + 1) ≤ n) : Rp n (.tuple xs) := by
  obtain ⟨h2, h3, h4⟩ := rp_all h
  exact ⟨by simp [PyData.showable, h2], by simp [PyData.leavesShort, h3], by simp only [PyData.weight]; omega⟩
section
variable {X : Ax} {O : Own} {Φ : PV → Own → Prop}
mutual
/-- v reads as x; its dicts are empty, and none is the modules' -/
inductive Rz (hp : Heap) : Value → PyData → List Addr → Prop
  | rnon : Rz hp .none .none []
  | rbl (b : Bool) : Rz hp (.bool b) (.bool b) []
  | rint (i : Int) (t : Tok) : Rz hp (.int i t) (.int i) []
  | rstr (x : Str) (t : Tok) : Rz hp (.str x t) (.str x) []
  | rlst {q : Addr} {ob : Obj} {its : Array Value} {n : Nat} {zs : List PyData} {bs : List Addr} (c1 : hp.get? q = some ob) (c2 : ob.cls = .type "list") (c3 : ob.data = .seq its n) (c4 : RzAll hp its.toList zs bs) : Rz hp (.ref q) (.list zs) (q :: bs)
  | rtup {q : Addr} {ob : Obj} {its : Array Value} {n : Nat} {zs : List PyData} {bs : List Addr} (c1 : hp.get? q = some ob) (c2 : ob.cls = .type "tuple") (c3 : ob.data = .seq its n) (c4 : RzAll hp its.toList zs bs) : Rz hp (.ref q) (.tuple zs) bs
  | rdct {q : Addr} {ob : Obj} {n : Nat} (c1 : hp.get? q = some ob) (c2 : ob.cls = .type "dict") (c3 : ob.data = .dict #[] n) (c4 : (q == sysModules) = false) : Rz hp (.ref q) (.dict []) [q]
inductive RzAll (hp : Heap) : List Value → List PyData → List Addr → Prop
  | rnil : RzAll hp [] [] []
  | rcons {v : Value} {vs : List Value} {z : PyData} {zs : List PyData} {cs bs : List Addr} : Rz hp v z cs → RzAll hp vs zs bs → RzAll hp (v :: vs) (z :: zs) (cs ++ bs)
end
mutual
theorem Rz.rd {hp : Heap} : ∀ {v : Value} {z : PyData} {bs : List Addr}, Rz hp v z bs → Reads hp v z bs
  | _, _, _, .rnon => .none
  | _, _, _, .rbl b => .bool b
  | _, _, _, .rint i t => .int i t
  | _, _, _, .rstr x t => .str x t
  | _, _, _, .rlst c1 c2 c3 c4 => .list c1 c2 c3 c4.rd
  | _, _, _, .rtup c1 c2 c3 c4 => .tuple c1 c2 c3 c4.rd
  | _, _, _, .rdct c1 c2 c3 _ => Reads.dict (kvs := []) (as := []) (bs := []) c1 c2 c3 .nil .nil
theorem RzAll.rd {hp : Heap} : ∀ {v : List Value} {z : List PyData} {bs : List Addr}, RzAll hp v z bs → ReadsAll hp v z bs
  | _, _, _, .rnil => .nil
  | _, _, _, .rcons a b => .cons a.rd b.rd
end
section
variable {pg : Program} {wd : World} {hp : Heap}
theorem rz_free {q : Addr} {z : PyData} {cs bs : List Addr} (r : Reads hp (.ref q) z cs) {n : Nat} (hn : n < z.depth) (hb : ReadAtMost hp n bs) : q ∉ bs := not_mem_of_deeper r hn hb
mutual
theorem rz_shows : ∀ {v : Value} {z : PyData} {cs : List Addr}, Rz hp v z cs → z.showable = true → z.shown.length ≤ sizeLine → ∃ bs, ReadAtMost hp z.depth bs ∧ ReprK pg wd bs hp z.depth v z.shown
  | _, _, _, .rnon, _, _ => ⟨[], (by intro _ h; cases h), by rw [PyData.shown]; exact ReprK.of_is ReprIs.none _ _ _⟩
  | _, _, _, .rbl b, _, _ => ⟨[], (by intro _ h; cases h), by rw [PyData.shown]; exact ReprK.of_is (ReprIs.bool b) _ _ _⟩
  | _, _, _, .rint i t, hs, _ => ⟨[], (by intro _ h; cases h), by rw [PyData.shown]; exact ReprK.of_is (ReprIs.int t (by simpa only [PyData.showable, decide_eq_true_eq] using hs)) _ _ _⟩
  | _, _, _, .rstr x t, _, hz => ⟨[], (by intro _ h; cases h), by rw [PyData.shown] at hz ⊢; exact ReprK.of_is (ReprIs.str x t hz) _ _ _⟩
  | _, _, _, .rlst (q := q) (its := its) (zs := zs) c1 c2 c3 c4, hs, hz => by
    rw [PyData.shown] at hz
    obtain ⟨bs, hb, hk⟩ := rz_showsAll c4 (by simpa only [PyData.showable] using hs) (fun t ht => Nat.le_trans (listText_mem_le ht) hz)
    have r : Reads hp (.ref q) (.list zs) _ := .list c1 c2 c3 c4.rd
    have hlt : PyData.depthAll zs < (PyData.list zs).depth := by rw [PyData.depth]; omega
    refine ⟨q :: bs, ReadAtMost.cons r (Nat.le_refl _) (hb.mono (Nat.le_of_lt hlt)), ?_⟩
    rw [PyData.depth, PyData.shown]
    obtain ⟨l⟩ := its
    cases l with
    | nil =>
      cases (show RzAll hp [] zs _ from c4)
      rw [PyData.shownAll, listText_nil]
      exact ReprK.listEmpty c1 c2 c3
    | cons x l => exact ReprK.list c1 c2 c3 (rz_free r hlt hb) (by simpa using hk.length_eq) (fun i y e => hk.item i y (by simpa using e))
  | _, _, _, .rtup (q := q) (its := its) (zs := zs) c1 c2 c3 c4, hs, hz => by
    rw [PyData.shown] at hz
    obtain ⟨bs, hb, hk⟩ := rz_showsAll c4 (by simpa only [PyData.showable] using hs) (fun t ht => Nat.le_trans (tupleText_mem_le ht) hz)
    have r : Reads hp (.ref q) (.tuple zs) _ := .tuple c1 c2 c3 c4.rd
    have hlt : PyData.depthAll zs < (PyData.tuple zs).depth := by rw [PyData.depth]; omega
    refine ⟨q :: bs, ReadAtMost.cons r (Nat.le_refl _) (hb.mono (Nat.le_of_lt hlt)), ?_⟩
    rw [PyData.depth, PyData.shown]
    exact ReprK.tuple c1 c2 c3 (rz_free r hlt hb) hk
  | _, _, _, .rdct (q := q) c1 c2 c3 c4, hs, hz => by
    have r : Reads hp (.ref q) (.dict []) _ := (Rz.rdct c1 c2 c3 c4).rd
    have hb : ReadAtMost hp 0 [] := by intro _ h; cases h
    refine ⟨[q], ReadAtMost.cons r (Nat.le_refl _) (by intro _ h; cases h), ?_⟩
    rw [PyData.depth, PyData.shown, PyData.shownKv_eq]
    exact ReprK.dict c1 c2 c3 c4 (rz_free r (by rw [PyData.depth]; omega) hb) (ReprEntriesK.of_two ([] : List DictEntry) _ _ .nil .nil)
theorem rz_showsAll : ∀ {vs : List Value} {zs : List PyData} {cs : List Addr}, RzAll hp vs zs cs → PyData.showableAll zs = true → (∀ t ∈ PyData.shownAll zs, t.length ≤ sizeLine) → ∃ bs, ReadAtMost hp (PyData.depthAll zs) bs ∧ ReprAllK pg wd bs hp (PyData.depthAll zs) vs (PyData.shownAll zs)
  | _, _, _, .rnil, _, _ => ⟨[], (by intro _ h; cases h), by rw [PyData.shownAll]; exact .nil⟩
  | _, _, _, .rcons (z := z) (zs := zs) r rs, hs, hz => by
    rw [PyData.showableAll, Bool.and_eq_true] at hs
    obtain ⟨b1, hb1, k1⟩ := rz_shows r hs.1 (hz _ (by rw [PyData.shownAll]; exact List.mem_cons_self))
    obtain ⟨b2, hb2, k2⟩ := rz_showsAll rs hs.2 (fun t ht => hz t (by rw [PyData.shownAll]; exact List.mem_cons_of_mem _ ht))
    have l1 : z.depth ≤ PyData.depthAll (z :: zs) := by rw [PyData.depthAll]; exact Nat.le_max_left _ _
    have l2 : PyData.depthAll zs ≤ PyData.depthAll (z :: zs) := by rw [PyData.depthAll]; exact Nat.le_max_right _ _
    refine ⟨b1 ++ b2, (hb1.mono l1).append (hb2.mono l2), ?_⟩
    rw [PyData.shownAll]
    exact .cons ((k1.more fun b hb => List.mem_append_left _ hb).level_le l1) (k2.more_le (fun b hb => List.mem_append_right _ hb) l2)
end
theorem rz_repr {A : Around} {E : Value → Shared → Prop} {s : Shared} {Q : Value → Shared → Prop} {q : Addr} {z : PyData} {cs : List Addr} (r : Rz s.heap (.ref q) z cs) (hs : z.showable = true) (hg : A.guards = some []) (hu : A.units + 66 < cLine) (hd : z.depth ≤ 64) (hz : z.shown.length ≤ sizeLine)
    (k : ∀ h' u tk, (∀ b o, s.heap.get? b = some o → h'.get? b = some o) → Q (.str z.shown u) { s with heap := h', toks := tk }) : wpAny (model pg wd) A (call (.builtin "repr") [.ref q]) Q E s := by
  have h0 := r
  cases r with
  | rlst c1 c2 c3 c4 =>
    rename_i ob its n zs bs₀
    rw [PyData.shown] at hz k
    obtain ⟨bs, hb, hk⟩ := rz_showsAll (pg := pg) (wd := wd) c4 (by simpa only [PyData.showable] using hs) (fun t ht => Nat.le_trans (listText_mem_le ht) hz)
    have hlt : PyData.depthAll zs < (PyData.list zs).depth := by rw [PyData.depth]; omega
    have hd' : 1 + PyData.depthAll zs ≤ 64 := by rw [PyData.depth] at hd; omega
    refine call_repr_slot (by omega) ⟨ob, c1, c2⟩ PySem.F.slot_list_repr.toG ?_
    obtain ⟨l⟩ := its
    cases l with
    | nil =>
      cases (show RzAll s.heap [] zs _ from c4)
      rw [PyData.shownAll, listText_nil] at k
      exact call_list_repr_empty ⟨ob, c1, c2⟩ c1 c3 ⟨_, _, rfl, k _ _ _ fun _ _ e => e⟩
    | cons x l => exact call_list_reprK c1 c2 c3 (rz_free h0.rd hlt hb) (by simpa using hk.length_eq) (fun i y e => hk.item i y (by simpa using e)) hg (fun b _ => Clear.nil b) (by show A.units + 1 + _ < cLine; omega) (fun _ _ e => e) (fun h' u tk e => ⟨_, _, rfl, k h' u tk e⟩) hz
  | rtup c1 c2 c3 c4 =>
    rename_i ob its n zs
    rw [PyData.shown] at hz k
    obtain ⟨bs, hb, hk⟩ := rz_showsAll (pg := pg) (wd := wd) c4 (by simpa only [PyData.showable] using hs) (fun t ht => Nat.le_trans (tupleText_mem_le ht) hz)
    have hlt : PyData.depthAll zs < (PyData.tuple zs).depth := by rw [PyData.depth]; omega
    have hd' : 1 + PyData.depthAll zs ≤ 64 := by rw [PyData.depth] at hd; omega
    refine call_repr_slot (by omega) ⟨ob, c1, c2⟩ PySem.F.slot_tuple_repr ?_
    exact call_tuple_reprK c1 c2 c3 (rz_free h0.rd hlt hb) hk hg (fun b _ => Clear.nil b) (by show A.units + 1 + _ < cLine; omega) (fun _ _ e => e) (fun h' u tk e => ⟨_, _, rfl, k h' u tk e⟩) hz
  | rdct c1 c2 c3 c4 =>
    rename_i ob n
    have hb : ReadAtMost s.heap 0 [] := by intro _ h; cases h
    rw [PyData.shown, PyData.shownKv_eq] at hz k
    refine call_repr_slot (by omega) ⟨ob, c1, c2⟩ PySem.F.slot_dict_repr ?_
    exact call_dict_reprK c1 c2 c3 c4 (rz_free h0.rd (by rw [PyData.depth]; omega) hb) (ReprEntriesK.of_two ([] : List DictEntry) _ _ .nil .nil) hg (fun b _ => Clear.nil b) (by show A.units + 1 + (0 + 1) < cLine; omega) (fun _ _ e => e) (fun h' u tk e => ⟨_, _, rfl, k h' u tk e⟩) hz
end
theorem dq_rz {X : Cx} {pins : List (Addr × Obj)} {σ : L2.St} {H F : Hp} {s : Shared} (I : Inv X pins σ H s) (sF : Same F H) {v : V} {x : PyData} (h : Dq F v x) : ∀ {u : Value}, RelV v u → ∃ bs, Rz s.heap u x bs := by
  refine Dq.rec (motive_1 := fun v x _ => ∀ {u : Value}, RelV v u → ∃ bs, Rz s.heap u x bs) (motive_2 := fun vs xs _ => ∀ {us : List Value}, Vals vs us → ∃ bs, RzAll s.heap us xs bs) ?_ ?_ ?_ ?_ ?_ ?_ ?_ ?_ ?_ h
  · intro u r
    cases r
    exact ⟨_, .rnon⟩
  · intro b u r
    cases r
    exact ⟨_, .rbl b⟩
  · intro i u r
    obtain ⟨t, rfl⟩ := r
    exact ⟨_, .rint i t⟩
  · intro i u r
    obtain ⟨t, rfl⟩ := r
    exact ⟨_, .rstr i t⟩
  · intro a xs ds hs _ ih u r
    cases r
    obtain ⟨its, rv, ⟨o, n, ho, hc, _, hd⟩, _⟩ := I.list (SqL.of (sF _ _ hs))
    obtain ⟨bs, hr⟩ := ih rv
    exact ⟨_, .rlst ho hc hd hr⟩
  · intro a xs ds hs _ ih u r
    cases r
    obtain ⟨its, rv, ⟨o, ho, hc, n, hd⟩, _⟩ := I.tuple (SqT.of (sF _ _ hs))
    obtain ⟨bs, hr⟩ := ih rv
    exact ⟨_, .rtup ho hc hd hr⟩
  · intro a hs u r
    cases r
    obtain ⟨_, hb, vs, kv, o, es, ep, h1, h2, h3, h4, h5, h6⟩ := dk_of I.hok (sF _ _ hs)
    cases kv
    cases es with
    | mk l =>
      cases h5
      exact ⟨_, .rdct h1 h2.1 h3 hb⟩
  · intro us r
    cases r
    exact ⟨_, .rnil⟩
  · intro v vs d ds _ _ i1 i2 us r
    cases r with
    | cons r1 r2 =>
      obtain ⟨as, q1⟩ := i1 r1
      obtain ⟨bs, q2⟩ := i2 r2
      exact ⟨_, .rcons q1 q2⟩
theorem call_repr {X : Cx} {n : Nat} (hg : X.A.guards = some []) (hu : X.A.units + 66 < cLine) (hn : n ≤ 27000) : CallR X (.builtin "repr") (fun xs H Q => ∃ v d F, xs = [v] ∧ Same F H ∧ Dq F v d ∧ Rp n d ∧ PyData.depth d ≤ 64 ∧ Q (.str d.shown) H) := by
  intro pins s σ H xs us Q I r h
  obtain ⟨v, d, F, rfl, sF, hd, hp, hz, q⟩ := h
  cases r with
  | cons r rt =>
    cases rt
    rename_i u
    obtain ⟨bs, hr⟩ := dq_rz I sF hd r
    have fin : ∀ h' t tk, (∀ b o, s.heap.get? b = some o → h'.get? b = some o) → L2.EP X pins σ Q (.str d.shown t) { s with heap := h', toks := tk } := fun h' t tk k => ⟨.str d.shown, H, I.kept k, ⟨_, rfl⟩, q⟩
    have fin0 : ∀ t tk, L2.EP X pins σ Q (.str d.shown t) { s with toks := tk } := fun t tk => ⟨.str d.shown, H, I.tok _, ⟨_, rfl⟩, q⟩
    have hsz := hp.len hn
    have hr0 := hr
    cases hr with
    | rnon => exact P.repr_of_none (fin0 _ _)
    | rbl b => exact P.repr_of_bool (by rw [← PyData.shown_bool]; exact fin0 _ _)
    | rint i t => exact P.repr_of_int (by simpa only [PyData.showable, decide_eq_true_eq] using hp.sh) (by rw [← PyData.shown_int]; exact fin0 _ _)
    | rstr x t => exact P.repr_of_str (by rw [← PyData.shown_str]; exact fin0 _ _) (by rw [← PyData.shown_str]; exact hsz)
    | rlst _ _ _ _ => exact rz_repr hr0 hp.sh hg hu hz hsz fin
    | rtup _ _ _ _ => exact rz_repr hr0 hp.sh hg hu hz hsz fin
    | rdct _ _ _ _ => exact rz_repr hr0 hp.sh hg hu hz hsz fin
theorem c_repr {n : Nat} {d : PyData} (hg : X.A.guards = some []) (hu : X.A.units + 66 < cLine) (hp : Rp n d) (hn : n ≤ 27000) (hz : PyData.depth d ≤ 64) (k : Φ (pS d.shown) O) : CallA X (.builtin "repr") [.d d] O Φ := calla_of (call_repr hg hu hn) fun as F H vs w rx => by
  obtain ⟨v, rfl, r1⟩ := rps1 rx
  exact ⟨v, d, F, rfl, w.ex, r1, hp, hz, PQ.mk w (show RPV X.k F as (pS _) _ from Dq.str _) k⟩
end
end Al
/-! ### own exceptions over any built-in class: the call and the __init__, for classes whose __new__ is their base's -/
namespace PySem
open PySem.HandSPX (excO)
/-- what makes a class whose bases are bm -/
def NewF (bm : List Value) (newId : String) : Prop := ∃ B initId bmB, ExcBaseFacts B newId initId bmB ∧ bm.contains (.type B) = true ∧ bm.contains (.type "AttributeError") = false ∧ bm.contains (.type "NameError") = false
/-- what B.__init__ is -/
structure IniF (B initId : String) (bm : List Value) : Prop where
  has : bm.contains (.type B) = true
  init : Slot B "__init__" initId
  entry : entryFor table initId = some Builtin.«BaseException.__init__»
  split : splitId initId = some (B, "__init__")
  kind : builtinKind initId = some .slot
  row : Manifest.signature? initId = some ⟨.positional, "*", B, .self, [⟨"args", .varPos, false⟩]⟩
  star : (B != "*") = true
end PySem
/-! ### own exceptions over any built-in class: made by their __init__ -/
namespace Al
open PySem PySem.Spec L2
open PyProof.Rows hiding St
open PySem.W (Looks findIn subIn typeIn keepIn clsIn)
/-- what the written part says of an own exception class at C over B -/
structure XC (K : PySem.W.Frag) (C : Addr) (B : String) (bm : List Value) (newId initId : String) : Prop where
  fn : NewF bm newId
  fi : IniF B initId bm
  st : StoreFacts B bm "object.__setattr__" "object"
  cls : ∃ nm q N bs sn sub ab col dd k0 k1 k2 k3 k5, K.lookup C = some (excClassObj nm q C N bs bm true sn sub ab col dd k0 k1 k2 k3 k5 newId)
  sa : findIn K (.ref C) "__setattr__" = some (some (.builtin "object.__setattr__"))
  exC : subIn K (.ref C) (.type "BaseException") = some true
  tyC : typeIn K (.ref C) = some (.type "type")
  kC : keepIn K (.ref C) = true
/-! ### __init__ of such a class -/
end Al
namespace Al
open PySem PySem.Spec L2
open PyProof.Rows hiding St
open PySem.W (Looks findIn subIn typeIn keepIn clsIn)
/-- the promise of __init__: the fields fs, the last one first -/
def spI (C : Addr) (fs : List Str) : Sp := fun vs H Q _ => ∃ (a : Addr) (ys : List V), vs = .ref a :: ys ∧ ys.length = fs.length ∧ H a = some (exo a C none) ∧ (fs = [] → Q .non H) ∧ (fs ≠ [] → ∀ dx, H dx = none → dx ≠ a → Q .non (upd (upd H dx (exd dx (fs.zip ys).reverse)) a (exo a C (some dx))))
/-! ### C(e, ..), made -/
end Al
namespace Al
open PySem PySem.Spec L2
open PyProof.Rows hiding St
section
variable {X : Ax} {e a b c : Expr} {es : List Expr} {ρ : Env1} {O : Own} {Φ : PV → Own → Prop} {as : List Addr} {F H : Hp} {σ : L2.St} {pos p p2 kpos tpos pos' : Pos} {D : AEnds} {sts : List Stmt}
/-- p is a list of the values xs, frozen or owned -/
def IsL (O : Own) (p : PV) (xs : List PV) : Prop := (∃ ds, p = pL ds ∧ xs = ds.map PV.d) ∨ ∃ n, p = .o n ∧ O[n]? = some (.lst xs)
theorem IsL.app {q : PV} {xs : List PV} {l : Own} (h : IsL O q xs) : IsL (O ++ l) q xs := by
  rcases h with h | ⟨n, h, e⟩
  · exact .inl h
  · exact .inr ⟨n, h, by rw [List.getElem?_append_left (List.getElem?_eq_some_iff.mp e).1]; exact e⟩
/-! ### zip -/
/-! ### == of owned lists of data -/
/-- p is the data d, frozen or an owned list of it -/
def IsD (O : Own) (p : PV) (d : PyData) : Prop := p = .d d ∨ ∃ n ds, d = .list ds ∧ p = .o n ∧ O[n]? = some (.lst (ds.map PV.d))
theorem IsD.dp {K : KF} {q : PV} {d : PyData} {v : V} (h : IsD O q d) (w : Wd K O as F H) (r : RPV K F as q v) (hc : PyData.canLay0 d = true) : Dp K.K H v d := by
  rcases h with rfl | ⟨n, ds, rfl, rfl, h⟩
  · exact (Dq_same w.ex r).dp hc
  · exact own_dp w h r hc
/-! ### methods of owned lists -/
/-! ### list(x), tuple(x) -/
end
end Al
namespace Al
open PySem PySem.Spec L2
end Al
namespace Al
open PySem PySem.Spec L2
open PyProof.Rows hiding St
/-! ### ways as lists of rooms -/
def lastR (p : List Nat) : Nat := p.getLastD 0
def pstep (st : List Stp) (ps : List (List Nat)) (c : Nat) : List (List Nat) := ps.flatMap fun p => (st.filter fun s => decide (s.1 = lastR p) && decide (s.2.1 = c)).map fun s => p ++ [s.2.2]
def prow (m : Mach) (fs : List Nat) (cs : List Nat) : List (List Nat) := cs.foldl (pstep m.st) (fs.map fun r => [r])
def prows (m : Mach) (fs : List Nat) (cs : List Nat) : List (List (List Nat)) := (List.range (cs.length + 1)).map fun i => prow m fs (cs.take i)
theorem prow_snoc (m : Mach) (fs cs : List Nat) (c : Nat) : prow m fs (cs ++ [c]) = pstep m.st (prow m fs cs) c := by
  unfold prow
  rw [List.foldl_append]; rfl
theorem lastR_snoc (p : List Nat) (r : Nat) : lastR (p ++ [r]) = r := by unfold lastR; simp
/-- where they end -/
def ends (ps : List (List Nat)) : List Nat := ps.map lastR
theorem range_getD {f : Nat → Int} {n i : Nat} (h : i < n) : ((List.range n).map f).getD i 0 = f i := by
  rw [List.getD_eq_getElem?_getD, List.getElem?_map, List.getElem?_range h]; rfl
theorem Rms.nd {n : Nat} {rs : List Nat} (h : Rms n rs) : rs.Nodup := h.up.imp fun h => Nat.ne_of_lt h
/-- how many there can be -/
theorem prow_len (m : Mach) (fs : List Nat) : ∀ cs : List Nat, (prow m fs cs).length ≤ fs.length * m.st.length ^ cs.length := by
  have step : ∀ (ps : List (List Nat)) (c : Nat), (pstep m.st ps c).length ≤ ps.length * m.st.length := by
    intro ps c
    unfold pstep
    induction ps with
    | nil => simp
    | cons p ps ih =>
      rw [List.flatMap_cons, List.length_append, List.length_map, List.length_cons, Nat.succ_mul]
      have := List.length_filter_le (fun s : Stp => decide (s.1 = lastR p) && decide (s.2.1 = c)) m.st
      omega
  have gen : ∀ (cs : List Nat) (ps : List (List Nat)), (cs.foldl (pstep m.st) ps).length ≤ ps.length * m.st.length ^ cs.length := by
    intro cs
    induction cs with
    | nil => intro ps; simp
    | cons c cs ih =>
      intro ps
      rw [List.foldl_cons, List.length_cons, Nat.pow_succ]
      refine Nat.le_trans (ih _) ?_
      rw [Nat.mul_comm (m.st.length ^ cs.length), ← Nat.mul_assoc]
      exact Nat.mul_le_mul_right _ (step ps c)
  intro cs
  have := gen cs (fs.map fun r => [r])
  rw [List.length_map] at this
  exact this
end Al
namespace Al
open PySem PySem.Spec L2
open PyProof.Rows hiding St
abbrev pthsD (ps : List (List Nat)) : PyData := .list (ps.map rmsD)
theorem frz_dat {i : Nat} {x : PyData} (y : Option PyData) : (y.map PV.d).map (PV.frz i x) = y.map PV.d := by cases y <;> rfl
theorem frz_dats {i : Nat} {x : PyData} (ds : List PyData) : (ds.map PV.d).map (PV.frz i x) = ds.map PV.d := by rw [List.map_map]; rfl
/-- an owned list put into another one is frozen there -/
theorem sgh_nest {b : Nat} {Ψ : Env1 → Own → Prop} {ρ : Env1} {O : Own} {xs ds : List PyData} (cl : ClO O) (hb : b ≤ O.length + 1) (hρ : ((frzE (O.length + 1) (.list ds) ρ).all fun q => q.all (PV.blw (O.length + 1))) = true)
    (k : Ψ (frzE (O.length + 1) (.list ds) ρ) (O ++ [.lst ((xs ++ [PyData.list ds]).map PV.d)])) : SGh b Ψ ρ (O ++ [.lst (xs.map PV.d ++ [.o (O.length + 1)])] ++ [.lst (ds.map PV.d)]) := by
  have e1 : frzO (O.length + 1) (.list ds) (O ++ [.lst (xs.map PV.d ++ [.o (O.length + 1)])] ++ [.lst (ds.map PV.d)]) = O ++ [.lst ((xs ++ [PyData.list ds]).map PV.d)] ++ [.gone] := by
    unfold frzO
    rw [List.set_append_right _ _ (by simp), List.map_append, List.map_append, own_frz_below (List.all_eq_true.mpr fun y hy => ao_below_mono (Nat.le_succ _) (List.all_eq_true.mp cl y hy))]
    simp [AO.frz, frz_dats, PV.frz]
  have e2 : (O ++ [AO.lst ((xs ++ [PyData.list ds]).map PV.d)] ++ [AO.gone]).take (O.length + 1) = O ++ [AO.lst ((xs ++ [PyData.list ds]).map PV.d)] := by
    rw [List.take_append_of_le_length (by simp), List.take_of_length_le (by simp)]
  refine .frL (O.length + 1) (ds := ds) (by rw [List.getElem?_append_right (by simp)]; simp) ?_
  rw [e1]
  refine .drop (O.length + 1) hb hρ ?_ ?_
  · rw [e2]
    have := cl_lst (ds := xs ++ [PyData.list ds]) cl
    unfold ClO at this
    rw [List.length_append] at this
    exact this
  · rw [e2]
    exact .keep k
theorem at_lastR {p : List Nat} (h : p ≠ []) : atI (p.map iD) (-1) = some (iD (lastR p)) := by
  obtain ⟨l, x, rfl⟩ : ∃ l x, p = l ++ [x] := ⟨p.dropLast, p.getLast h, (List.dropLast_concat_getLast h).symm⟩
  rw [List.map_append]
  have e : lastR (l ++ [x]) = x := lastR_snoc l x
  rw [e]
  exact at_last _ _
theorem prow_ne (m : Mach) (fs : List Nat) (cs : List Nat) : ∀ p ∈ prow m fs cs, p ≠ [] := by
  have gen : ∀ (cs : List Nat) (ps : List (List Nat)), (∀ p ∈ ps, p ≠ []) → ∀ p ∈ cs.foldl (pstep m.st) ps, p ≠ [] := by
    intro cs
    induction cs with
    | nil => intro ps h; exact h
    | cons c cs ih =>
      intro ps _
      refine ih _ fun p hp => ?_
      obtain ⟨q, _, h2⟩ := List.mem_flatMap.mp hp
      obtain ⟨s, _, rfl⟩ := List.mem_map.mp h2
      simp
  refine gen cs _ fun p hp => ?_
  obtain ⟨r, _, rfl⟩ := List.mem_map.mp hp
  simp
/-- a path's length -/
theorem prow_pl (m : Mach) (fs : List Nat) : ∀ cs : List Nat, ∀ p ∈ prow m fs cs, p.length = cs.length + 1 := by
  have gen : ∀ (cs : List Nat) (ps : List (List Nat)) (k : Nat), (∀ p ∈ ps, p.length = k) → ∀ p ∈ cs.foldl (pstep m.st) ps, p.length = cs.length + k := by
    intro cs
    induction cs with
    | nil => intro ps k h p hp; rw [h p hp]; simp
    | cons c cs ih =>
      intro ps k h p hp
      have := ih (pstep m.st ps c) (k + 1) (fun q hq => by
        obtain ⟨x, h1, h2⟩ := List.mem_flatMap.mp hq
        obtain ⟨s, _, rfl⟩ := List.mem_map.mp h2
        rw [List.length_append, h x h1]; rfl) p hp
      rw [this, List.length_cons]; omega
  intro cs
  refine gen cs _ 1 fun p hp => ?_
  obtain ⟨r, _, rfl⟩ := List.mem_map.mp hp
  rfl
/-! ### promises of the laws' own -/
/-- not too many -/
def Few (m : Mach) (cs : List Nat) : Prop := ∀ i, i ≤ cs.length → (prow m m.fs (cs.take i)).length ≤ 15000000
def rLBegs : RA := fun args O Φ => ∃ m z, args = [.d (mD m), pS z] ∧ MOk m ∧ WordOk z ∧ Few m (cds z) ∧ ClO O ∧ Φ (.d (.list ((prows m m.fs (cds z)).map pthsD))) O
def rLWays : RA := fun args O Φ => ∃ m z, args = [.d (mD m), pS z] ∧ MOk m ∧ WordOk z ∧ Few m (cds z) ∧ ClO O ∧ Φ (.d (pthsD ((prow m m.fs (cds z)).filter fun p => decide (lastR p ∈ m.ls)))) O
theorem prows_last (m : Mach) (fs cs : List Nat) : atI ((prows m fs cs).map pthsD) (-1) = some (pthsD (prow m fs cs)) := by
  unfold prows
  rw [List.range_succ, List.map_append, List.map_append]
  refine (at_last _ _).trans ?_
  show some (pthsD (prow m fs (cs.take cs.length))) = _
  rw [List.take_length]
theorem MOk.one {m : Mach} (h : MOk m) {r : Nat} (hr : r < m.n) : MOk { m with fs := [r] } := ⟨h.n0, h.n1, Rms.one hr, h.ls, h.st, h.nd, h.len⟩
theorem MOk.two {m : Mach} (h : MOk m) {r : Nat} (hr : r < m.n) : MOk { m with ls := [r] } := ⟨h.n0, h.n1, h.fs, Rms.one hr, h.st, h.nd, h.len⟩
end Al
namespace Al
open PySem PySem.Spec L2
open PyProof.Rows hiding St
theorem rp_nat {k : Nat} (h : k < 16) : Rp 5 (iD k) := by
  have hb := rp_int (n := 64) (i := (k : Int)) (by omega) (by omega) (Nat.le_refl _)
  refine ⟨hb.sh, hb.ls, ?_⟩
  simp only [PyData.weight]
  split
  · omega
  · have : ((k : Nat) : Int).natAbs = k := rfl
    rw [this]
    have : k.log2 < 5 := by
      by_cases h0 : k = 0
      · subst h0; decide
      · exact (Nat.log2_lt h0).mpr (by omega)
    omega
theorem rp_rms {n : Nat} {rs : List Nat} (h : Rms n rs) (hn : n ≤ 12) : Rp 72 (rmsD rs) := by
  refine rp_list (m := 5) (fun d hd => ?_) ?_
  · obtain ⟨r, hr, rfl⟩ := List.mem_map.mp hd
    exact rp_nat (by have := h.lt r hr; omega)
  · rw [List.length_map]
    have := h.len
    omega
theorem rp_st {n : Nat} {t : Stp} (h : StOk n t) (hn : n ≤ 12) : Rp 18 (stD t) := by
  refine rp_tup (m := 5) (fun d hd => ?_) (Nat.le_refl _)
  simp only [List.mem_cons, List.not_mem_nil, or_false] at hd
  rcases hd with rfl | rfl | rfl
  · exact rp_nat (by have := h.a; omega)
  · exact (rp_str (ok_one (sgn_lt h.c)) (Nat.le_refl _)).mono (by decide)
  · exact rp_nat (by have := h.b; omega)
theorem rp_sts {n : Nat} {sts : List Stp} (h : ∀ t ∈ sts, StOk n t) (hn : n ≤ 12) (hl : sts.length ≤ 200) : Rp 3800 (stsD sts) := by
  refine rp_list (m := 18) (fun d hd => ?_) (by rw [List.length_map]; omega)
  obtain ⟨t, ht, rfl⟩ := List.mem_map.mp hd
  exact rp_st (h t ht) hn
theorem MOk.rp {m : Mach} (h : MOk m) : Rp 16000 (mD m) := by
  have hn := h.n1
  refine rp_tup (m := 3800) (fun d hd => ?_) (by show 4 * 3801 ≤ 16000; decide)
  simp only [List.mem_cons, List.not_mem_nil, or_false] at hd
  rcases hd with rfl | rfl | rfl | rfl
  · exact (rp_nat (by omega)).mono (by decide)
  · exact (rp_rms h.fs hn).mono (by decide)
  · exact (rp_rms h.ls hn).mono (by decide)
  · exact rp_sts h.st hn h.len
theorem MOk.shp {m : Mach} (h : MOk m) : Shp 3 (mD m) := shp_tup fun d hd => by
  simp only [List.mem_cons, List.not_mem_nil, or_false] at hd
  rcases hd with rfl | rfl | rfl | rfl
  · exact shp_int _
  · exact shp_rms _
  · exact shp_rms _
  · exact shp_sts h.st
/-- repr of a machine -/
theorem c_reprM {X : Ax} {O : Own} {Φ : PV → Own → Prop} {m : Mach} (hg : X.A.guards = some []) (hu : X.A.units + 66 < cLine) (h : MOk m) (k : Φ (pS (mD m).shown) O) : CallA X (.builtin "repr") [.d (mD m)] O Φ := c_repr hg hu h.rp (by decide) (Nat.le_trans h.shp.2 (by decide)) k
end Al
namespace Al
open PySem PySem.Spec L2
open PyProof.Rows hiding St
open PySem.W (Looks findIn subIn typeIn keepIn clsIn)
/-! ### raise -/
/-- what is known of the own exception class x, whose fields are fs -/
def ClsX (G : Gx) (x : Str) (fs : List Str) : Prop := ∃ C B bm newId initId fI fd ps, XC G.K C B bm newId initId ∧ findIn G.K (.ref C) "__init__" = some (some (.ref fI)) ∧ typeIn G.K (.ref fI) = some (.type "function") ∧ FnOk G.P G.w G.K G.mg G.base CX0 1 fI fd ps (spI C fs) ∧ Binds G.K fd ps [] ∧ G.mg x = some (.ref C)
/-! ### try -/
end Al
namespace Al
open PySem PySem.Spec L2
open PyProof.Rows hiding St
open PySem.W (Looks findIn subIn typeIn keepIn clsIn)
/-! ### try -/
/-- in a try's body, in an except suite -/
abbrev Ax.tr (X : Ax) (pn : List (Addr × Obj)) (xe : Value → Shared → Prop) (as : List Addr) (F : Hp) : Ax := ⟨X.c.tr pn xe, as, F⟩
def AEnds.un (D : AEnds) (i : Nat) : AEnds := { nx := fun ρ' O' => D.nx (ρ'.set i none) O', rt := D.rt, bk := fun ρ' O' => D.bk (ρ'.set i none) O', ct := fun ρ' O' => D.ct (ρ'.set i none) O' }
theorem RS.floor {K : KF} {as : List Addr} {F : Hp} {a1 : List Addr} {F1 : Hp} {ρ : Env1} {σ : L2.St} (r : RS K F as ρ σ) : RS ⟨K.K, K.mg, a1, F1⟩ F as ρ σ := Paired.mapP r fun p q z pv hp => let ⟨v, h1, h2⟩ := z pv hp; ⟨v, h1, rpv_floor h2⟩
/-! ### e.f, isinstance(e, c) of an exception that was caught -/
/-- what the class named x says of its instances' attributes -/
structure GetX (K : PySem.W.Frag) (C : Addr) : Prop where
  ga : findIn K (.ref C) "__getattribute__" = some (some (.builtin "BaseException.__getattribute__"))
  gg : findIn K (.ref C) "__getattr__" = some none
  sb : subIn K (.ref C) (.type "BaseException") = some true
  hd : PySem.W.hasDictIn K C = true
  ha : findIn K (.ref C) "__class__" = some (some (.builtin "object.__class__"))
  hn : PySem.W.specialIn K (.builtin "object.__class__") "__get__" = some (some (.builtin "getset_descriptor.__get__"))
  ht : PySem.W.takesIn K (.builtin "object.__class__") = some true
  hm : PySem.W.mroIn K C (.type "object") = some true
end Al
namespace PySem.W
open PySem.Calls PyProof.Rows
end PySem.W
namespace Al
open PySem PySem.Spec L2
open PyProof.Rows hiding St
open PySem.W (Looks findIn subIn typeIn keepIn clsIn)
end Al
/-! ### reversed(text) -/
namespace Al
open PySem PySem.Spec L2
open PyProof.Rows hiding St
/-- the signs of x, the last one first -/
def Itr (x : Str) : It := ⟨fun i _ => i < x.cps.size, fun i H v H' => H' = H ∧ ∃ c, x.cps[x.cps.size - 1 - i]? = some c ∧ v = .str ⟨#[c]⟩, fun i _ => x.cps.size ≤ i⟩
/-! ### own exception classes, together -/
open PySem.W (Looks findIn subIn typeIn keepIn clsIn)
/-- the own exception class x with the fields fs -/
structure XI (G : Gx) (x : Str) (fs : List Str) (C : Addr) : Prop where
  mg : G.mg x = some (.ref C)
  cls : ClsX G x fs
  get : GetX G.K C
  no : ∀ f ∈ fs, findIn G.K (.ref C) f = some none
  sb : subIn G.K (.ref C) (.type "BaseException") = some true
  ty : typeIn G.K (.ref C) = some (.type "type")
  cd : (clsIn G.K C).isSome = true
def XD (G : Gx) (x : Str) (fs : List Str) : Prop := ∃ C, XI G x fs C
section
variable {G : Gx} {X : Ax} {x c : Str} {fs : List Str} {b : Bool} {T : String}
theorem XD.cls (h : XD G x fs) : ClsX G x fs := h.choose_spec.cls
theorem XI.self {C : Addr} (h : XI G x fs C) : subIn G.K (.ref C) (.ref C) = some true := by
  obtain ⟨C', B, bm, newId, initId, fI, fd, ps, xc, _, _, _, _, hm⟩ := h.cls
  have e := hm.symm.trans h.mg
  cases e
  obtain ⟨nm, q, N, bs, sn, sub, ab, col, dd, k0, k1, k2, k3, k5, hC⟩ := xc.cls
  have e1 : PySem.W.clsIn G.K C = some { name := nm, bases := bs, mro := .ref C :: bm, ns := N, qualname := q, hasDict := true, slotNames := sn, subclasses := sub, abstract := ab, collection := col, hasDel := false } := by unfold PySem.W.clsIn; rw [hC] <;> rfl
  show PySem.W.mroIn G.K C (.ref C) = some true
  unfold PySem.W.mroIn
  rw [e1, Option.bind_some]
  show (if (Value.ref C :: bm).isEmpty = true then none else some ((Value.ref C :: bm).contains (Value.ref C))) = some true
  rw [if_neg (by simp), List.contains_cons]
  simp
end
end Al
namespace Al
open PySem PySem.Spec L2
open PyProof.Rows hiding St
open PySem.W (Looks findIn subIn typeIn keepIn clsIn)
end Al
namespace PySem.F
end PySem.F
namespace Al
open PySem PySem.Spec L2
open PyProof.Rows hiding St
open PySem.W (Looks findIn subIn typeIn keepIn clsIn)
end Al
namespace Al
open PySem PySem.Spec L2
open PyProof.Rows hiding St
/-! ### ways by number: the mathematics -/
/-- the rooms to which steps from r by c lead -/
def nx (m : Mach) (r c : Nat) : List Nat := (m.st.filter fun s => decide (s.1 = r) && decide (s.2.1 = c)).map fun s => s.2.2
/-- in how many ways cs leads from r to a last -/
def ev (m : Mach) : List Nat → Nat → Nat
  | [], r => if r ∈ m.ls then 1 else 0
  | c :: cs, r => ((nx m r c).map (ev m cs)).sum
/-- these ways, in order -/
def wf (m : Mach) : List Nat → Nat → List (List Nat)
  | [], r => if r ∈ m.ls then [[r]] else []
  | c :: cs, r => ((nx m r c).flatMap (wf m cs)).map (r :: ·)
def wAll (m : Mach) (cs : List Nat) : List (List Nat) := m.fs.flatMap (wf m cs)
/-- how many stand ahead of place k -/
def pre (f : Nat → Nat) (os : List Nat) (k : Nat) : Nat := ((os.take k).map f).sum
/-- what may stand at number i of a way -/
def opt (m : Mach) (cs : List Nat) (w : List Nat) : Nat → List Nat
  | 0 => m.fs
  | i + 1 => nx m (w.getD i 0) (cs.getD i 0)
end Al
/-! ### rules -/
namespace Al
open PySem PySem.Spec L2
open PyProof.Rows hiding St
/-! ### promises -/
def isWh : PyData → Bool
  | .int _ => true
  | _ => false
end Al
namespace Al
open PySem PySem.Spec L2
open PyProof.Rows hiding St
end Al
namespace Al
open PySem PySem.Spec L2
theorem rng_at {n i : Nat} {x : PV} (h : (rngP 0 n)[i]? = some x) : i < n ∧ x = .d (iD i) := by
  rw [rng_map, List.getElem?_map, Option.map_eq_some_iff] at h
  obtain ⟨j, h1, rfl⟩ := h
  obtain ⟨h2, h3⟩ := List.getElem?_eq_some_iff.mp h1
  rw [List.length_range] at h2
  rw [List.getElem_range] at h3
  subst h3
  exact ⟨h2, rfl⟩
end Al
namespace Al
open PySem PySem.Spec L2
open PyProof.Rows hiding St
/-! ### two rooms that lead to both -/
def m2 : Mach := ⟨2, [0, 1], [0, 1], [(0, 97, 0), (0, 97, 1), (1, 97, 0), (1, 97, 1)]⟩
def num (a : Nat) (w : List Nat) : Nat := w.foldl (fun n b => 2 * n + b) a
end Al
namespace Al
open PySem
end Al
namespace Al
open PySem PySem.Spec L2
open PyProof.Rows hiding St
end Al
namespace Al
open PySem PySem.Spec L2
open PyProof.Rows hiding St
/-! ### tries: the mathematics -/
/-- all tries from r by cs, in order -/
def tr (m : Mach) : List Nat → Nat → List (List Nat)
  | [], r => [[r]]
  | c :: cs, r => [r] :: ((nx m r c).flatMap (tr m cs)).map (r :: ·)
/-- what is still to come behind a beginning -/
def rst (m : Mach) (cs : List Nat) (p : List Nat) : List (List Nat) := (tr m (cs.drop (p.length - 1)) (lastR p)).map (p.dropLast ++ ·)
/-- how many tries from r -/
def tl (m : Mach) (cs : List Nat) (r : Nat) : Nat := (tr m cs r).length
end Al
namespace Al
open PySem PySem.Spec L2
open PyProof.Rows hiding St
/-! ### tries: the mathematics, on -/
end Al
namespace Al
open PySem PySem.Spec L2
open PyProof.Rows hiding St
/-! ### promises -/
end Al
namespace Al
open PySem PySem.Spec L2
open PyProof.Rows hiding St
/-! ### rules: text[::-1], sorted of ints, list(range(n)) -/
def revT (z : Str) : Str := ⟨z.cps.toList.reverse.toArray⟩
theorem cds_rev (z : Str) : cds (revT z) = (cds z).reverse := by unfold revT cds; simp
theorem rev_len (z : Str) : (revT z).length = z.length := by rw [← cds_len, cds_rev, List.length_reverse, cds_len]
def tRevS (te : TE) : TE := fun σ H Q => te σ H fun x H1 => ∃ z, x = .str z ∧ z.length ≤ sizeLine ∧ Q (.str (revT z)) H1
theorem pe_revS {X : Cx} {e : Expr} {te : TE} {k : Nat} {p1 p2 p3 pos : Pos} (he : PE X e te) : PE X (.Subscript e (.Slice none none (some (.UnaryOp .USub (.Constant (.int 1) k p1) p2)) p3) pos) (tRevS te) := by
  refine ⟨fun pins s σ H Q I h => ?_⟩
  refine Subscript_ (thn (he.run pins s σ H _ I h) fun v s1 ⟨x, H1, I1, r1, q1⟩ => ?_)
  obtain ⟨z, ex, hz, q⟩ := q1
  subst ex
  obtain ⟨t, rfl⟩ := r1
  have hst : PO X (some (.UnaryOp .USub (.Constant (.int 1) k p1) p2)) (tPart (tUn (rU fun i => .int (-i)) (tC (.int 1)))) := po_some (pe_un un_neg pe_int)
  refine wpAny_Slice (thn (po_none.run pins s1 σ H1 (fun o H2 => o = none ∧ H2 = H1) I1 ⟨rfl, rfl⟩) fun vl s2 ⟨l, H2, I2, pl, el, e2⟩ => ?_)
  subst el e2
  refine thn (po_none.run pins s2 σ H2 (fun o H3 => o = none ∧ H3 = H2) I2 ⟨rfl, rfl⟩) fun vu s3 ⟨u, H3, I3, pu, eu, e3⟩ => ?_
  subst eu e3
  refine thn (hst.run pins s3 σ H3 (fun o H4 => o = some (-1) ∧ H4 = H3) I3 ⟨1, rfl, -1, rfl, rfl, rfl⟩) fun vs s4 ⟨o, H4, I4, ps, eo, e4⟩ => ?_
  subst eo e4
  have I5 : Inv X pins σ H4 { s4 with heap := s4.heap.push { cls := .type "slice", data := .fields #[vl, vu, vs] } } := I4.kept (t' := s4.toks) fun b ob q => Heap.get?_push_of_some _ q
  obtain ⟨ll, rfl, hl⟩ := IsPart.raw pl
  obtain ⟨uu, rfl, hu⟩ := IsPart.raw pu
  obtain ⟨ss, rfl, hs⟩ := IsPart.raw ps
  obtain rfl : ll = none := by cases ll <;> first | rfl | cases hl
  obtain rfl : uu = none := by cases uu <;> first | rfl | cases hu
  obtain ⟨tk, rfl⟩ : ∃ tk, ss = some (-1, tk) := by
    cases ss with
    | none => cases hs
    | some a => obtain ⟨i, tk⟩ := a; cases hs; exact ⟨tk, rfl⟩
  refine tail_any (ops := [.str z t, .ref s4.heap.objs.size]) (typeIs_str _ _ _) (F.slot_str_getitem.lookup) ?_ (by with_unfolding_all rfl)
  refine wpAny_getItem_str_slice (l := none) (u := none) (st := some (-1, tk)) ⟨_, Heap.get?_push_size _ rfl, rfl, rfl⟩ rfl ?_
  have e1 : slicePicked z none none (some (-1, tk)) = (List.range z.length).reverse := by
    show Builtin.Str.strSliceIndices none none (-1) z.length = _
    have : Builtin.Str.strSliceIndices none none (-1) z.length = sliceRange ((z.length : Int) - 1) (-1) (-1) := rfl
    rw [this, PySem.W.krv_sliceRange, PySem.W.krv_range]
  have e2 : (slicePicked z none none (some (-1, tk))).filterMap (z.cps[·]?) = z.cps.toList.reverse := by
    rw [e1, List.filterMap_reverse]
    have := PySem.W.krv_all z.cps
    rw [show z.length = z.cps.size from rfl, this]
  show Made.post (if ((-1 : Int) == 1 && (slicePicked z none none (some (-1, tk))).length == z.length) = true then Made.val (.str z t) else Made.str ⟨((slicePicked z none none (some (-1, tk))).filterMap (z.cps[·]?)).toArray⟩) (EP X pins σ Q) _
  rw [if_neg (by simp), e2]
  have hlen : (revT z).length ≤ sizeLine := by rw [rev_len]; exact hz
  exact ⟨hlen, .str (revT z), H4, I5.tok _, ⟨_, rfl⟩, q⟩
section
variable {X : Ax} {e a b c : Expr} {es : List Expr} {ρ : Env1} {O : Own} {Φ : PV → Own → Prop} {as : List Addr} {F H : Hp} {σ : L2.St} {pos p p2 kpos tpos pos' : Pos} {D : AEnds} {i j : Int}
theorem ae_revS {k : Nat} {p1 p2 p3 : Pos} (h : AE X e ρ O fun x O1 => ∃ z, x = pS z ∧ z.length ≤ 16000000 ∧ Φ (pS (revT z)) O1) : AE X (.Subscript e (.Slice none none (some (.UnaryOp .USub (.Constant (.int 1) k p1) p2)) p3) pos) ρ O Φ := fun as F σ H w r => by
  refine tE_of (pe_revS pe_tE) ?_
  refine h.run w r fun x O1 as1 F1 v1 H1 w1 g1 s1 rx r1 ⟨z, ex, hz, q⟩ => ?_
  subst ex
  cases (show Dq F1 v1 (.str z) from rx)
  exact ⟨z, rfl, sz hz, (PQ.mk w1 (show RPV X.k F1 as1 (pS _) _ from Dq.str _) q).back g1 s1⟩
end
end Al
namespace Al
open PySem PySem.Spec L2
open PyProof.Rows hiding St
/-! ### ways: linear, parted, turned about, called otherwise -/
/-- called otherwise -/
structure Ord (n : Nat) (od : List Nat) : Prop where
  p : od.Perm (List.range n)
abbrev sg (od : List Nat) (r : Nat) : Nat := od.getD r 0
theorem Ord.len {n : Nat} {od : List Nat} (h : Ord n od) : od.length = n := by rw [h.p.length_eq, List.length_range]
theorem Ord.nd {n : Nat} {od : List Nat} (h : Ord n od) : od.Nodup := h.p.nodup_iff.mpr List.nodup_range
theorem Ord.get {n : Nat} {od : List Nat} (h : Ord n od) {r : Nat} (hr : r < n) : od[r]? = some (sg od r) := by
  rw [sg, List.getD_eq_getElem?_getD, List.getElem?_eq_getElem (by rw [h.len]; exact hr)]; rfl
theorem Ord.lt {n : Nat} {od : List Nat} (h : Ord n od) {r : Nat} (hr : r < n) : sg od r < n := List.mem_range.mp (h.p.mem_iff.mp (List.mem_of_getElem? (h.get hr)))
theorem Ord.inj {n : Nat} {od : List Nat} (h : Ord n od) {r t : Nat} (hr : r < n) (ht : t < n) (e : sg od r = sg od t) : r = t := by
  have h1 := h.get hr
  have h2 := h.get ht
  rw [e] at h1
  obtain ⟨p1, q1⟩ := List.getElem?_eq_some_iff.mp h1
  obtain ⟨p2, q2⟩ := List.getElem?_eq_some_iff.mp h2
  exact (List.getElem_inj h.nd).mp (q1.trans q2.symm)
def sgS (od : List Nat) (s : Stp) : Stp := (sg od s.1, s.2.1, sg od s.2.2)
/-- m' is m, its rooms called by od -/
structure Cld (m : Mach) (od : List Nat) (m' : Mach) : Prop where
  n : m'.n = m.n
  fs : m'.fs.Perm (m.fs.map (sg od))
  ls : m'.ls.Perm (m.ls.map (sg od))
  st : m'.st = m.st.map (sgS od)
theorem sgS_ok {m : Mach} {od : List Nat} (hm : ∀ s ∈ m.st, StOk m.n s) (ho : Ord m.n od) : ∀ s ∈ m.st.map (sgS od), StOk m.n s := fun s hs => by
  obtain ⟨t, ht, rfl⟩ := List.mem_map.mp hs
  have := hm t ht
  exact ⟨ho.lt this.a, this.c, ho.lt this.b⟩
theorem map_sg_nd {n : Nat} {od rs : List Nat} (ho : Ord n od) (nd : rs.Nodup) (h : ∀ r ∈ rs, r < n) : (rs.map (sg od)).Nodup := by
  rw [List.Nodup, List.pairwise_map]
  refine List.Pairwise.imp_of_mem ?_ nd
  intro a b ha hb hab e
  exact hab (ho.inj (h a ha) (h b hb) e)
theorem rms_sorted {n : Nat} {rs rs' : List Nat} (p : rs'.Perm rs) (nd : rs.Nodup) (h : ∀ r ∈ rs, r < n) (hs : rs'.Pairwise (· ≤ ·)) : Rms n rs' := by
  refine ⟨?_, fun r hr => h r (p.mem_iff.mp hr)⟩
  have nd' : rs'.Nodup := p.nodup_iff.mpr nd
  exact hs.and nd' |>.imp fun {a b} ⟨h1, h2⟩ => Nat.lt_of_le_of_ne h1 h2
theorem Cld.ok {m m' : Mach} {od : List Nat} (h : MOk m) (ho : Ord m.n od) (c : Cld m od m') (hf : m'.fs.Pairwise (· ≤ ·)) (hl : m'.ls.Pairwise (· ≤ ·)) : MOk m' := by
  have lt : ∀ rs : List Nat, (∀ r ∈ rs, r < m.n) → ∀ r ∈ rs.map (sg od), r < m.n := fun rs h r hr => by
    obtain ⟨t, ht, rfl⟩ := List.mem_map.mp hr
    exact ho.lt (h t ht)
  refine ⟨by rw [c.n]; exact h.n0, by rw [c.n]; exact h.n1, ?_, ?_, ?_, ?_, ?_⟩
  · rw [c.n]; exact rms_sorted c.fs (map_sg_nd ho h.fs.nd h.fs.lt) (lt _ h.fs.lt) hf
  · rw [c.n]; exact rms_sorted c.ls (map_sg_nd ho h.ls.nd h.ls.lt) (lt _ h.ls.lt) hl
  · rw [c.st, c.n]; exact sgS_ok h.st ho
  · rw [c.st, List.Nodup, List.pairwise_map]
    refine List.Pairwise.imp_of_mem ?_ h.nd
    intro a b ha hb hab e
    refine hab ?_
    obtain ⟨a1, a2, a3⟩ := a
    obtain ⟨b1, b2, b3⟩ := b
    have e1 : sg od a1 = sg od b1 := congrArg Prod.fst e
    have e2 : a2 = b2 := congrArg (fun s => s.2.1) e
    have e3 : sg od a3 = sg od b3 := congrArg (fun s => s.2.2) e
    have ka := h.st _ ha
    have kb := h.st _ hb
    have f1 : a1 = b1 := ho.inj ka.a kb.a e1
    have f3 : a3 = b3 := ho.inj ka.b kb.b e3
    rw [f1, e2, f3]
  · rw [c.st, List.length_map]; exact h.len
end Al
namespace Al
open PySem PySem.Spec L2
open PyProof.Rows hiding St
/-! ### a tuple of owned lists, frozen; promises of k16 -/
end Al
namespace Al
open PySem PySem.Spec L2
open PyProof.Rows hiding St
end Al
namespace Al
open PySem PySem.Spec L2
open PyProof.Rows hiding St
/-! ### rules: xs[a::2], += of texts, <<=, *= -/
/-! ### pumps laid: mathematics -/
end Al
namespace Al
open PySem PySem.Spec L2
open PyProof.Rows hiding St
/-! ### rules: {} as data, isinstance with a tuple of classes, str(xs) -/
/-! ### what is no way -/
/-- r can stand behind w -/
def Stands (m : Mach) (cs w : List Nat) (r : Nat) : Prop := w.length ≤ cs.length ∧ r ∈ opt m cs w w.length ∧ (w.length = cs.length → r ∈ m.ls)
/-- all of w stands -/
inductive Sts (m : Mach) (cs : List Nat) : List Nat → Prop
  | nil : Sts m cs []
  | snoc {w : List Nat} {r : Nat} : Sts m cs w → Stands m cs w r → Sts m cs (w ++ [r])
theorem Sts.take {m : Mach} {cs : List Nat} : ∀ {w : List Nat}, Sts m cs w → ∀ k, Sts m cs (w.take k)
  | _, .nil, k => by rw [List.take_nil]; exact .nil
  | _, .snoc (w := w) (r := r) h1 h2, k => by
    by_cases hk : k ≤ w.length
    · rw [List.take_append_of_le_length hk]
      exact h1.take k
    · rw [List.take_of_length_le (by rw [List.length_append, List.length_singleton]; omega)]
      exact .snoc h1 h2
theorem Sts.at {m : Mach} {cs : List Nat} : ∀ {w : List Nat}, Sts m cs w → ∀ k r, w[k]? = some r → Stands m cs (w.take k) r
  | _, .nil, k, r, e => by simp at e
  | _, .snoc (w := w) (r := t) h1 h2, k, r, e => by
    by_cases hk : k < w.length
    · rw [List.getElem?_append_left hk] at e
      rw [List.take_append_of_le_length (by omega)]
      exact h1.at k r e
    · have hk2 : k = w.length := by
        have := (List.getElem?_eq_some_iff.mp e).1
        simp at this
        omega
      subst hk2
      rw [List.getElem?_append_right (Nat.le_refl _), Nat.sub_self] at e
      cases e
      rw [List.take_left]
      exact h2
theorem Sts.len {m : Mach} {cs w : List Nat} (h : Sts m cs w) : w.length ≤ cs.length + 1 := by
  cases h with
  | nil => exact Nat.zero_le _
  | snoc _ h2 => rw [List.length_append, List.length_singleton]; have := h2.1; omega
/-- what is refused, and where -/
inductive NoAt (m : Mach) (cs : List Nat) : PyData → PyData → Prop
  | other {x : PyData} (h : isList x = false) : NoAt m cs x .none
  | at {w : List Nat} {ds rest : List PyData} {d : PyData} (h : Sts m cs w) (hd : ∀ r : Nat, d = iD r → ¬ Stands m cs w r) (e : ds = w.map iD ++ d :: rest) : NoAt m cs (.list ds) (iD w.length)
  | few {w : List Nat} {ds : List PyData} (h : Sts m cs w) (hl : w.length ≤ cs.length) (e : ds = w.map iD) : NoAt m cs (.list ds) (iD w.length)
/-- what number_of tells of x: a number, or where it is refused -/
inductive Due15 (m : Mach) (cs : List Nat) (x : PyData) : PyData → Bool → Prop
  | no {a : PyData} : NoAt m cs x a → Due15 m cs x a true
  | yes {w : List Nat} : w ∈ wAll m cs → x = .list (w.map iD) → Due15 m cs x (iD ((wAll m cs).idxOf w)) false
theorem map_iD_inj : ∀ {a b : List Nat}, a.map iD = b.map iD → a = b
  | [], [], _ => rfl
  | [], _ :: _, h => by simp at h
  | _ :: _, [], h => by simp at h
  | x :: xs, y :: ys, h => by
    rw [List.map_cons, List.map_cons] at h
    injection h with h1 h2
    have e : ((x : Nat) : Int) = (y : Nat) := PyData.int.inj h1
    rw [map_iD_inj h2, show x = y by omega]
theorem sts_same {m : Mach} {cs : List Nat} : ∀ {w1 w2 : List Nat} {d1 d2 : PyData} {r1 r2 : List PyData}, Sts m cs w1 → Sts m cs w2 → (∀ r : Nat, d1 = iD r → ¬ Stands m cs w1 r) → (∀ r : Nat, d2 = iD r → ¬ Stands m cs w2 r) → w1.map iD ++ d1 :: r1 = w2.map iD ++ d2 :: r2 → w1.length = w2.length := by
  intro w1 w2 d1 d2 r1 r2 h1 h2 n1 n2 e
  have key : ∀ {w1 w2 : List Nat} {d1 d2 : PyData} {r1 r2 : List PyData}, Sts m cs w2 → (∀ r : Nat, d1 = iD r → ¬ Stands m cs w1 r) → w1.map iD ++ d1 :: r1 = w2.map iD ++ d2 :: r2 → ¬ w1.length < w2.length := by
    intro w1 w2 d1 d2 r1 r2 h2 n1 e hlt
    have g1 : (w1.map iD ++ d1 :: r1)[w1.length]? = some d1 := by
      rw [List.getElem?_append_right (by rw [List.length_map]; exact Nat.le_refl _), List.length_map, Nat.sub_self]; rfl
    rw [e, List.getElem?_append_left (by rw [List.length_map]; exact hlt), List.getElem?_map, Option.map_eq_some_iff] at g1
    obtain ⟨r, hr, e1⟩ := g1
    have hs := h2.at _ _ hr
    have et : w2.take w1.length = w1 := by
      have e2 := congrArg (List.take w1.length) e
      rw [List.take_append_of_le_length (by rw [List.length_map]; exact Nat.le_refl _), List.take_append_of_le_length (by rw [List.length_map]; omega), List.take_of_length_le (by rw [List.length_map]; exact Nat.le_refl _), ← List.map_take] at e2
      exact (map_iD_inj e2).symm
    rw [et] at hs
    exact n1 r e1.symm hs
  have a := key h2 n1 e
  have b := key h1 n2 e.symm
  omega
theorem sts_few {m : Mach} {cs w1 w2 : List Nat} {d1 : PyData} {r1 : List PyData} (h2 : Sts m cs w2) (n1 : ∀ r : Nat, d1 = iD r → ¬ Stands m cs w1 r) (e : w1.map iD ++ d1 :: r1 = w2.map iD) : False := by
  have hlt : w1.length < w2.length := by
    have := congrArg List.length e
    simp at this
    omega
  have g1 : (w1.map iD ++ d1 :: r1)[w1.length]? = some d1 := by
    rw [List.getElem?_append_right (by rw [List.length_map]; exact Nat.le_refl _), List.length_map, Nat.sub_self]; rfl
  rw [e, List.getElem?_map, Option.map_eq_some_iff] at g1
  obtain ⟨r, hr, e1⟩ := g1
  have hs := h2.at _ _ hr
  have et : w2.take w1.length = w1 := by
    have e2 := congrArg (List.take w1.length) e
    rw [List.take_append_of_le_length (by rw [List.length_map]; exact Nat.le_refl _), List.take_of_length_le (by rw [List.length_map]; exact Nat.le_refl _), ← List.map_take] at e2
    exact (map_iD_inj e2).symm
  rw [et] at hs
  exact n1 r e1.symm hs
theorem Due15.one {m : Mach} {cs : List Nat} {x a1 a2 : PyData} {b1 b2 : Bool} (h1 : Due15 m cs x a1 b1) (h2 : Due15 m cs x a2 b2) (hw : ∀ w ∈ wAll m cs, Sts m cs w ∧ w.length = cs.length + 1) : a1 = a2 ∧ b1 = b2 := by
  have noyes : ∀ {a : PyData} {w : List Nat}, NoAt m cs x a → w ∈ wAll m cs → x = .list (w.map iD) → False := by
    intro a w hn hm e
    obtain ⟨hs, hl⟩ := hw w hm
    cases hn with
    | other h => rw [e] at h; cases h
    | «at» h hd e2 =>
      have e3 := PyData.list.inj e
      rw [e2] at e3
      exact sts_few hs hd e3
    | few h hl2 e2 =>
      have e3 := PyData.list.inj e
      rw [e2] at e3
      have e4 := map_iD_inj e3
      subst e4
      omega
  cases h1 with
  | no n1 =>
    cases h2 with
    | yes m2 e2 => exact (noyes n1 m2 e2).elim
    | no n2 =>
      refine ⟨?_, rfl⟩
      cases n1 with
      | other h =>
        cases n2 with
        | other _ => rfl
        | «at» _ _ _ => cases h
        | few _ _ _ => cases h
      | «at» h hd e =>
        cases n2 with
        | other h => cases h
        | «at» h' hd' e' => rw [sts_same h h' hd hd' (e.symm.trans e')]
        | few h' hl' e' => exact (sts_few h' hd (e.symm.trans e')).elim
      | few h hl e =>
        cases n2 with
        | other h => cases h
        | «at» h' hd' e' => exact (sts_few h hd' (e'.symm.trans e)).elim
        | few h' hl' e' => rw [map_iD_inj (e.symm.trans e')]
  | yes m1 e1 =>
    cases h2 with
    | no n2 => exact (noyes n2 m1 e1).elim
    | yes m2 e2 =>
      have e3 := map_iD_inj (PyData.list.inj (e1.symm.trans e2))
      subst e3
      exact ⟨rfl, rfl⟩
end Al
namespace Al
open PySem PySem.Spec L2
open PyProof.Rows hiding St
/-- the rooms that can stand at i, of any i -/
def optX (m : Mach) (cs w : List Nat) (i : Nat) : List Nat := if i ≤ cs.length then opt m cs w i else []
end Al
namespace Al
open PySem PySem.Spec L2
end Al
namespace Al
open PySem PySem.Spec L2
open PyProof.Rows hiding St
end Al
namespace Al
open PySem PySem.Spec L2
open PyProof.Rows hiding St
theorem prow_lt {m : Mach} (hm : MOk m) (cs : List Nat) : ∀ p ∈ prow m m.fs cs, ∀ r ∈ p, r < m.n := by
  have gen : ∀ (cs : List Nat) (ps : List (List Nat)), (∀ p ∈ ps, ∀ r ∈ p, r < m.n) → ∀ p ∈ cs.foldl (pstep m.st) ps, ∀ r ∈ p, r < m.n := by
    intro cs
    induction cs with
    | nil => exact fun ps h => h
    | cons c cs ih =>
      intro ps h
      refine ih _ fun p hp r hr => ?_
      unfold pstep at hp
      simp only [List.mem_flatMap, List.mem_map, List.mem_filter] at hp
      obtain ⟨p', hp', s, ⟨hs, _⟩, rfl⟩ := hp
      rw [List.mem_append, List.mem_singleton] at hr
      rcases hr with hr | rfl
      · exact h p' hp' r hr
      · exact (hm.st s hs).b
  refine gen cs _ fun p hp r hr => ?_
  obtain ⟨a, ha, rfl⟩ := List.mem_map.mp hp
  rw [List.mem_singleton] at hr
  subst hr
  exact hm.fs.lt _ ha
theorem Due15.rp {m : Mach} {cs : List Nat} {x a : PyData} {b : Bool} (h : Due15 m cs x a b) (hc : cs.length ≤ 400) (hw : (wAll m cs).length ≤ 15000000) : Rp 400 (.tuple [a, .bool b]) ∧ PyData.depth (.tuple [a, .bool b]) ≤ 8 := by
  have key : Rp 64 a ∧ PyData.depth a = 0 := by
    have nat : ∀ k : Nat, k ≤ 15000000 → Rp 64 (iD k) ∧ PyData.depth (iD k) = 0 := fun k hk => ⟨rp_int (by omega) (by omega) (by decide), rfl⟩
    cases h with
    | no h =>
      cases h with
      | other _ => exact ⟨rp_none, rfl⟩
      | «at» h _ _ => have := h.len; exact nat _ (by omega)
      | few h _ _ => have := h.len; exact nat _ (by omega)
    | yes hm _ =>
      have := List.idxOf_lt_length_of_mem hm
      exact nat _ (by omega)
  refine ⟨rp_tup (m := 64) (fun d hd => ?_) (by show 2 * 65 ≤ 400; decide), ?_⟩
  · simp only [List.mem_cons, List.not_mem_nil, or_false] at hd
    rcases hd with rfl | rfl
    · exact key.1
    · exact rp_bool _
  · simp only [PyData.depth, PyData.depthAll, key.2]
    decide
end Al
namespace Al
open PySem PySem.Spec L2
open PyProof.Rows hiding St
/-! ### rules: sorted(set(xs)), max(xs), max(xs, default=0), text.find(sign), text[a:b:c] -/
end Al
namespace Al
open PySem PySem.Spec L2
open PyProof.Rows hiding St
end Al
namespace Al
open PySem PySem.Spec L2
open PyProof.Rows hiding St
section
variable {X : Ax} {e a b c : Expr} {es : List Expr} {ρ : Env1} {O : Own} {Φ : PV → Own → Prop} {as : List Addr} {F H : Hp} {σ : L2.St} {pos p p2 pos2 kpos tpos pos' : Pos} {D : AEnds} {i j : Int} {x y : Str}
/-- text.find(part) -/
theorem m_find (k : Φ (pI (Txt.find x y)) O) : MtA X "str.find" (pS x) [pS y] O Φ := mta_of mt_find fun as F H v vs w rx rxs => by
  cases (show Dq F v (.str x) from rx)
  obtain ⟨v, rfl, r1⟩ := rps1 rxs
  cases (show Dq F v (.str y) from r1)
  exact ⟨x, y, rfl, rfl, PQ.mk w (show RPV X.k F as (pI _) _ from Dq.int _) k⟩
end
/-! ### text[a:b:c] -/
end Al
namespace Al
open PySem PySem.Spec L2
open PyProof.Rows hiding St
/-! ### defs that call themselves; calls by names alone -/
/-! ### patterns -/
inductive Pat where
  | non | sgn (z : Str) | aga (p : Pat) | thn (p q : Pat) | orr (p q : Pat)
namespace Pat
def hd : Pat → Str
  | .non => "none" | .sgn _ => "sign" | .aga _ => "again" | .thn _ _ => "then" | .orr _ _ => "or"
def D : Pat → PyData
  | .non => .tuple [.str "none"]
  | .sgn z => .tuple [.str "sign", .str z]
  | .aga p => .tuple [.str "again", p.D]
  | .thn p q => .tuple [.str "then", p.D, q.D]
  | .orr p q => .tuple [.str "or", p.D, q.D]
def subs : Pat → List Pat
  | .non => [] | .sgn _ => [] | .aga p => [p] | .thn p q => [p, q] | .orr p q => [p, q]
def lv : Pat → Nat
  | .non => 0 | .sgn _ => 1 | .aga p => p.lv | .thn p q => p.lv + q.lv | .orr p q => p.lv + q.lv
def pt : Pat → Nat
  | .non => 1 | .sgn _ => 1 | .aga p => 1 + p.pt | .thn p q => 1 + p.pt + q.pt | .orr p q => 1 + p.pt + q.pt
def dp : Pat → Nat
  | .non => 1 | .sgn _ => 1 | .aga p => 1 + p.dp | .thn p q => 1 + max p.dp q.dp | .orr p q => 1 + max p.dp q.dp
end Pat
/-- letters of a sign -/
structure LetsOk (z : Str) : Prop where
  l0 : 1 ≤ z.length
  l1 : z.length ≤ 8
  all : ∀ c ∈ cds z, sgn c = true
  up : (cds z).Pairwise (· < ·)
theorem LetsOk.ok {z : Str} (h : LetsOk z) : Ok 8 z := ⟨h.l1, fun c hc => sgn_lt (h.all c hc)⟩
inductive PatOk : Pat → Prop
  | non : PatOk .non
  | sgn {z : Str} : LetsOk z → PatOk (.sgn z)
  | aga {p : Pat} : PatOk p → PatOk (.aga p)
  | thn {p q : Pat} : PatOk p → PatOk q → PatOk (.thn p q)
  | orr {p q : Pat} : PatOk p → PatOk q → PatOk (.orr p q)
theorem PatOk.sub {p q : Pat} (h : PatOk p) (hq : q ∈ p.subs) : PatOk q := by
  cases h with
  | non => cases hq
  | sgn _ => cases hq
  | aga h => rw [show q = _ from List.mem_singleton.mp hq]; exact h
  | thn h1 h2 => simp only [Pat.subs, List.mem_cons, List.not_mem_nil, or_false] at hq; rcases hq with rfl | rfl <;> assumption
  | orr h1 h2 => simp only [Pat.subs, List.mem_cons, List.not_mem_nil, or_false] at hq; rcases hq with rfl | rfl <;> assumption
theorem hd_ok : ∀ p : Pat, Ok 8 p.hd
  | .non => ok_lit (z := "none") (by decide)
  | .sgn _ => ok_lit (z := "sign") (by decide)
  | .aga _ => ok_lit (z := "again") (by decide)
  | .thn _ _ => ok_lit (z := "then") (by decide)
  | .orr _ _ => ok_lit (z := "or") (by decide)
theorem PatOk.shp {p : Pat} (h : PatOk p) : Shp p.dp p.D := by
  induction h with
  | non =>
    refine shp_tup fun d hd => ?_
    rw [List.mem_singleton] at hd
    subst hd
    exact shp_str (hd_ok .non)
  | sgn hz =>
    refine shp_tup fun d hd => ?_
    simp only [List.mem_cons, List.not_mem_nil, or_false] at hd
    rcases hd with rfl | rfl
    · exact shp_str (hd_ok (.sgn ""))
    · exact shp_str hz.ok
  | @aga p _ ih =>
    refine (shp_tup (k := p.dp) fun d hd => ?_).mono (by simp only [Pat.dp]; omega)
    simp only [List.mem_cons, List.not_mem_nil, or_false] at hd
    rcases hd with rfl | rfl
    · exact shp_str (hd_ok (.aga .non))
    · exact ih
  | @thn p q _ _ i1 i2 =>
    refine (shp_tup (k := max p.dp q.dp) fun d hd => ?_).mono (by simp only [Pat.dp]; omega)
    simp only [List.mem_cons, List.not_mem_nil, or_false] at hd
    rcases hd with rfl | rfl | rfl
    · exact shp_str (hd_ok (.thn .non .non))
    · exact i1.mono (Nat.le_max_left _ _)
    · exact i2.mono (Nat.le_max_right _ _)
  | @orr p q _ _ i1 i2 =>
    refine (shp_tup (k := max p.dp q.dp) fun d hd => ?_).mono (by simp only [Pat.dp]; omega)
    simp only [List.mem_cons, List.not_mem_nil, or_false] at hd
    rcases hd with rfl | rfl | rfl
    · exact shp_str (hd_ok (.orr .non .non))
    · exact i1.mono (Nat.le_max_left _ _)
    · exact i2.mono (Nat.le_max_right _ _)
end Al
namespace Al
open PySem PySem.Spec L2
open PyProof.Rows hiding St
end Al
namespace Al
open PySem PySem.Spec L2
end Al
namespace Al
open PySem PySem.Spec L2
open PyProof.Rows hiding St
def Pat.isAga : Pat → Bool
  | .aga _ => true
  | _ => false
end Al
namespace Al
open PySem PySem.Spec L2
end Al
namespace Al
open PySem PySem.Spec L2
open PyProof.Rows hiding St
/-! ### instances of own classes: fields, methods, making -/
end Al
namespace Al
open PySem PySem.Spec L2
open PyProof.Rows hiding St
end Al
namespace Al
open PySem PySem.Spec L2
open PyProof.Rows hiding St
/-! ### e.f op= value -/
/-! ### a trier: the mathematics -/
def oq (m : Mach) (cs w : List Nat) : List Nat := optX m cs w w.length
def rest (m : Mach) (cs : List Nat) : List Nat → List Nat → Nat → List (List Nat)
  | [], _, at_ => ((oq m cs []).drop at_).flatMap fun r => rst m cs [r]
  | x :: rw, tu, at_ => ((oq m cs (rw.reverse ++ [x])).drop at_).flatMap (fun r => rst m cs (rw.reverse ++ [x] ++ [r])) ++ rest m cs rw tu.tail (tu.headD 0 + 1)
/-! ### a trier's fields -/
/-! ### promises -/
end Al
namespace Al
open PySem PySem.Spec L2
open PyProof.Rows hiding St
/-! ### a trier asked: the next way, or the end -/
end Al
namespace Al
open PySem PySem.Spec L2
open PyProof.Rows hiding St
/-! ### C(e, .., k = v, ..) of an own class -/
/-! ### a reader -/
def mkS (l : List Nat) : Str := ⟨l.toArray⟩
abbrev RdI (m : Mach) (z : Str) (q : Nat) : AO := .ins "Reader" [("read_machine", .d (mD m)), ("word", pS z), ("vectors", .o q)]
abbrev rws (m : Mach) (cs : List Nat) : AO := .lst (((rowsV m m.fs cs).map vD).map PV.d)
theorem cl_rdI {O : Own} {n q : Nat} {m : Mach} {z : Str} (cl : ClO O) (hq : q < O.length) : ClO (O.set n (RdI m z q)) := by
  refine cl_set cl ?_
  show (true && (true && (decide (q < O.length) && true))) = true
  rw [decide_eq_true hq]; rfl
/-! promises -/
end Al
namespace Al
open PySem PySem.Spec L2
open PyProof.Rows hiding St
/-! ### what is looked at, whatever it is -/
/-! promises -/
def okT (x : PyData) : Prop := ∀ a z b, x = .tuple [a, .str z, b] → z.length ≤ 16000000
end Al
namespace Al
open PySem PySem.Spec L2
open PyProof.Rows hiding St
/-! ### triers and readers refused -/
end Al
namespace L2
open PySem PySem.Spec PyProof.Rows
end L2
namespace Al
open PySem PySem.Spec L2
end Al
namespace Al
open PySem PySem.Spec L2
open PyProof.Rows hiding St
/-! ### isinstance of a caught exception with any own class -/
end Al
namespace Al
open PySem PySem.Spec L2
end Al
namespace Al
open PySem PySem.Spec L2
open PyProof.Rows hiding St
/-! ### owned objects seen as data -/
end Al
namespace Al
open PySem PySem.Spec L2
open PyProof.Rows hiding St
/-! ### a machine, frozen or owned part by part -/
def IsM (O : Own) (p : PV) (m : Mach) : Prop := p = .d (mD m) ∨ ∃ i a b c, p = .o i ∧ O[i]? = some (.tup [.d (iD m.n), .o a, .o b, .o c]) ∧ O[a]? = some (lr m.fs) ∧ O[b]? = some (lr m.ls) ∧ O[c]? = some (.lst ((m.st.map stD).map PV.d))
theorem IsM.app {O l : Own} {p : PV} {m : Mach} (h : IsM O p m) : IsM (O ++ l) p m := by
  rcases h with h | ⟨i, a, b, c, h0, h1, h2, h3, h4⟩
  · exact .inl h
  · have g : ∀ {j : Nat} {ob : AO}, O[j]? = some ob → (O ++ l)[j]? = some ob := fun {j ob} e => by
      rw [List.getElem?_append_left (List.getElem?_eq_some_iff.mp e).1]; exact e
    exact .inr ⟨i, a, b, c, h0, g h1, g h2, g h3, g h4⟩
/-! promises -/
end Al
namespace Al
open PySem PySem.Spec L2
open PyProof.Rows hiding St
/-! ### rooms come to, useful rooms, the machine trimmed: the mathematics -/
/-- come to from rs by the pairs E -/
inductive Rch (E : List (Nat × Nat)) (rs : List Nat) : Nat → Prop
  | base {r : Nat} : r ∈ rs → Rch E rs r
  | step {a b : Nat} : Rch E rs a → (a, b) ∈ E → Rch E rs b
theorem Rch.mono {E E' : List (Nat × Nat)} {rs rs' : List Nat} (hE : ∀ e ∈ E, e ∈ E') (hr : ∀ r ∈ rs, r ∈ rs') {r : Nat} (h : Rch E rs r) : Rch E' rs' r := by
  induction h with
  | base h => exact .base (hr _ h)
  | step _ he ih => exact .step ih (hE _ he)
/-- what is closed and holds the rooms holds all that is come to -/
theorem Rch.sub {E : List (Nat × Nat)} {rs : List Nat} {S : Nat → Prop} (h0 : ∀ r ∈ rs, S r) (h1 : ∀ a b, S a → (a, b) ∈ E → S b) {r : Nat} (h : Rch E rs r) : S r := by
  induction h with
  | base h => exact h0 _ h
  | step _ he ih => exact h1 _ _ ih he
theorem Rch.lt {E : List (Nat × Nat)} {rs : List Nat} {n : Nat} (h0 : ∀ r ∈ rs, r < n) (h1 : ∀ e ∈ E, e.2 < n) {r : Nat} (h : Rch E rs r) : r < n :=
  h.sub (S := fun r => r < n) h0 fun _ _ _ he => h1 _ he
end Al
namespace Al
open PySem PySem.Spec L2
open PyProof.Rows hiding St
def kR (r : Nat) : Key := .inl (r : Nat)
theorem kR_inj {a b : Nat} (h : kR a = kR b) : a = b := by
  unfold kR at h
  have := Sum.inl.inj h
  omega
end Al
namespace Al
open PySem PySem.Spec L2
open PyProof.Rows hiding St
end Al
namespace Al
open PySem PySem.Spec L2
end Al
namespace Al
open PySem PySem.Spec L2
open PyProof.Rows hiding St
/-! ### a part of an owned tuple; what goes through one -/
end Al
namespace Al
open PySem PySem.Spec L2
open PyProof.Rows hiding St
/-! ### a tail of owned objects behind others -/
theorem get_at {O T : Own} (k : Nat) : (O ++ T)[O.length + k]? = T[k]? := by
  rw [List.getElem?_append_right (by omega), Nat.add_sub_cancel_left]
theorem get_at0 {O T : Own} : (O ++ T)[O.length]? = T[0]? := get_at (O := O) (T := T) 0
theorem cl_ext {O T : Own} (c : ClO O) (h : ∀ x ∈ T, x.below (O.length + T.length) = true) : ClO (O ++ T) := by
  unfold ClO
  rw [List.all_append, Bool.and_eq_true, List.length_append]
  exact ⟨List.all_eq_true.mpr fun y hy => ao_below_mono (by omega) (List.all_eq_true.mp c y hy), List.all_eq_true.mpr h⟩
/-! ### a list of new lists -/
/-! ### promises -/
/-! ### where a way stands -/
/-! ### the state of the law -/
/-! ### one machine of one room, one of two -/
end Al
namespace Al
open PySem PySem.Spec L2
open PyProof.Rows hiding St
/-! ### long words of one letter: which tries come first -/
/-! ### the long words -/
end Al
namespace Al
open PySem PySem.Spec L2
open PyProof.Rows hiding St
/-! ### repr of an instance, an f-string of three parts, a method called by names -/
/-! ### how many beginnings there can be -/
/-! ### promises -/
end Al
namespace Al
open PySem PySem.Spec L2
open PyProof.Rows hiding St
section
variable {X : Ax} {O : Own} {Φ : PV → Own → Prop}
/-- what is frozen, more of it -/
def isTupO : AO → Bool
  | .tup _ => true
  | _ => false
theorem Wd.more {K : KF} {as : List Addr} {F H : Hp} (w : Wd K O as F H) (ht : ∀ ob ∈ O, isTupO ob = false) {b : Addr} {xs : List V} (hb : H b = some (.tup xs)) : ∃ F', Wd K O as F' H ∧ Same F F' ∧ F' b = some (.tup xs) := by
  cases hF : F b with
  | some h =>
    have e := (w.ex b h hF).symm.trans hb
    cases e
    exact ⟨F, w, Same.refl _, hF⟩
  | none =>
    have sm : Same F (upd F b (.tup xs)) := fun c o e => by rw [upd_ne (ne_of_none e hF)]; exact e
    refine ⟨upd F b (.tup xs), ⟨w.fa, w.fF.trans sm, w.len, w.nd, fun c o e => ?_, fun i a ob h1 h2 => ?_⟩, sm, upd_same⟩
    · by_cases hc : c = b
      · subst hc; rw [upd_same] at e; rw [hb]; exact e
      · rw [upd_ne hc] at e; exact w.ex c o e
    · have q := w.own i a ob h1 h2
      have hm := ht ob (List.mem_of_getElem? h1)
      have ne : ob ≠ .gone → a ≠ b := fun hg e => by
        subst e
        cases ob with
        | gone => exact hg rfl
        | tbl _ _ => obtain ⟨_, _, ps, h1, _⟩ := q; rw [hb] at h1; cases h1
        | xo R => obtain ⟨_, h, e1, e2⟩ := q; obtain ⟨φ, e3⟩ := R.isx e2; rw [e3, hb] at e1; cases e1
        | lst _ => obtain ⟨_, h, e1, vs, e2, _⟩ := q; rw [e2, hb] at e1; cases e1
        | tup _ => cases hm
        | dK _ => obtain ⟨_, h, e1, vs, e2, _⟩ := q; rw [e2, hb] at e1; cases e1
        | dT _ => obtain ⟨_, h, e1, vs, e2, _⟩ := q; rw [e2, hb] at e1; cases e1
        | ins _ _ => obtain ⟨_, h, e1, C, dx, ws, _, e2, _⟩ := q; rw [e2, hb] at e1; cases e1
      cases ob with
      | gone => exact q
      | tbl _ _ => exact q.step sm (Gr.refl _) rfl (fun z => by rw [upd_ne (ne (by intro e; cases e))]; exact z)
      | xo _ => exact q.step sm (Gr.refl _) rfl (fun z => by rw [upd_ne (ne (by intro e; cases e))]; exact z)
      | lst _ => exact q.step sm (Gr.refl _) rfl (fun z => by rw [upd_ne (ne (by intro e; cases e))]; exact z)
      | tup _ => cases hm
      | dK _ => exact q.step sm (Gr.refl _) rfl (fun z => by rw [upd_ne (ne (by intro e; cases e))]; exact z)
      | dT _ => exact q.step sm (Gr.refl _) rfl (fun z => by rw [upd_ne (ne (by intro e; cases e))]; exact z)
      | ins _ _ => exact q.step sm (Gr.refl _) rfl (fun z => by rw [upd_ne (ne (by intro e; cases e))]; exact z)
end
/-! ### rooms called otherwise: the mathematics -/
def clR (n : Nat) (od rs : List Nat) : List Nat := (List.range n).filter fun r => decide (r ∈ rs.map (sg od))
def cl (m : Mach) (od : List Nat) : Mach := ⟨m.n, clR m.n od m.fs, clR m.n od m.ls, m.st.map (sgS od)⟩
/-! ### promises -/
/-! ### what is no order -/
/-! ### what was told, lengthened -/
end Al
namespace Al
open PySem PySem.Spec L2
open PyProof.Rows hiding St
end Al
namespace Al
open PySem PySem.Spec L2
open PyProof.Rows hiding St
/-! ### the law's own look (k06) -/
end Al
namespace Al
open PySem PySem.Spec L2
open PyProof.Rows hiding St
/-! ### xs[::-1] of a list -/
/-! ### bent machines (k06) -/
def okE (m : Nat) (y : PyData) : Prop := okT y ∧ Rp m y ∧ PyData.depth y ≤ 5
theorem okE.mono {m n : Nat} {y : PyData} (h : okE m y) (hn : m ≤ n) : okE n y := ⟨h.1, h.2.1.mono hn, h.2.2⟩
end Al
namespace Al
open PySem PySem.Spec L2
open PyProof.Rows hiding St
/-! ### a reader refuses (k28) -/
end Al
/-! ### an own exception class, called with keywords -/
namespace PySem
end PySem
namespace Al
open PySem PySem.Spec L2
open PyProof.Rows hiding St
open PySem.W (Looks findIn subIn typeIn keepIn clsIn)
/-! ### an own exception as a value -/
end Al
namespace Al
open PySem PySem.Spec L2
open PyProof.Rows hiding St
open PySem.W (Looks findIn subIn typeIn keepIn clsIn)
/-! ### x in a tuple of data -/
/-! ### classes called with keywords -/
/-! ### the fifteen refusals apart (k09) -/
end Al
/-! ### int(text, 2) -/
namespace Al
open PySem PySem.Spec L2 PySem.NumText PySem.Calls
open PyProof.Rows hiding St
end Al
namespace Al
open PySem PySem.Spec L2
open PyProof.Rows hiding St
/-! ### text.strip(signs), int(text, 2), >>, & 1 -/
/-! ### texts of noughts and ones -/
/-! ### rooms as texts (k30) -/
end Al
namespace Al
open PySem PySem.Spec L2
end Al
namespace Al
open PySem PySem.Spec L2
open PyProof.Rows hiding St
/-! ### what the law k30 draws -/
end Al
namespace Al
open PySem PySem.Spec L2
open PyProof.Rows hiding St
/-! ### a way's place among all tries, by its beginnings' places -/
/-! ### no two tries alike -/
end Al
namespace Al
open PySem PySem.Spec L2
open PyProof.Rows hiding St
/-! ### sorted of a list of data -/
/-! ### k25 -/
end Al
namespace Al
open PySem PySem.Spec L2
open PyProof.Rows hiding St
end Al
namespace Al
open PySem PySem.Spec L2
open PyProof.Rows hiding St
/-! ### zip of two texts -/
end Al
namespace Al
open PySem PySem.Spec L2
open PyProof.Rows hiding St
/-! ### a dict of the module, from texts to whole numbers -/
/-! ### patterns, told of any data -/
/-! ### good data: as may be compared, but empty dicts may stand in it -/
mutual
def layG : PyData → Bool
  | .none => true
  | .bool _ => true
  | .int _ => true
  | .str x => PyData.canLay0 (.str x)
  | .list xs => layAllG xs
  | .tuple xs => layAllG xs
  | .dict kvs => kvs.isEmpty
def layAllG : List PyData → Bool
  | [] => true
  | x :: xs => layG x && layAllG xs
end
mutual
theorem layG_of : ∀ {d : PyData}, PyData.canLay0 d = true → layG d = true
  | .none, _ => rfl
  | .bool _, _ => rfl
  | .int _, _ => rfl
  | .str x, h => by simpa only [layG] using h
  | .list xs, h => by
    simp only [PyData.canLay0] at h
    simp only [layG]
    exact layAllG_of h
  | .tuple xs, h => by
    simp only [PyData.canLay0] at h
    simp only [layG]
    exact layAllG_of h
  | .dict _, h => by simp [PyData.canLay0] at h
theorem layAllG_of : ∀ {xs : List PyData}, PyData.canLayAll0 xs = true → layAllG xs = true
  | [], _ => rfl
  | x :: xs, h => by
    simp only [PyData.canLayAll0, Bool.and_eq_true] at h
    simp only [layAllG, Bool.and_eq_true]
    exact ⟨layG_of h.1, layAllG_of h.2⟩
end
def ShG (k : Nat) (x : PyData) : Prop := layG x = true ∧ PyData.depth x ≤ k
theorem Shp.g {k : Nat} {x : PyData} (h : Shp k x) : ShG k x := ⟨layG_of h.1, h.2⟩
theorem ShG.mono {j k : Nat} {x : PyData} (h : ShG j x) (hk : j ≤ k) : ShG k x := ⟨h.1, Nat.le_trans h.2 hk⟩
structure Gd (x : PyData) : Prop where
  rp : Rp 27000 x
  sp : ShG 40 x
theorem wt_mem : ∀ {xs : List PyData} {x : PyData}, x ∈ xs → x.weight + 1 ≤ PyData.weightAll xs
  | y :: r, x, h => by
    simp only [PyData.weightAll]
    rcases List.mem_cons.mp h with rfl | h
    · omega
    · have := wt_mem h; omega
theorem wt_len : ∀ {xs : List PyData}, xs.length ≤ PyData.weightAll xs
  | [] => Nat.le_refl _
  | y :: r => by
    have := wt_len (xs := r)
    simp only [PyData.weightAll, List.length_cons]
    omega
theorem sh_mem : ∀ {xs : List PyData} {x : PyData}, PyData.showableAll xs = true → x ∈ xs → x.showable = true
  | y :: r, x, h, hx => by
    simp only [PyData.showableAll, Bool.and_eq_true] at h
    rcases List.mem_cons.mp hx with rfl | hx
    · exact h.1
    · exact sh_mem h.2 hx
theorem ls_mem : ∀ {xs : List PyData} {x : PyData}, PyData.leavesShortAll 600 xs = true → x ∈ xs → x.leavesShort 600 = true
  | y :: r, x, h, hx => by
    simp only [PyData.leavesShortAll, Bool.and_eq_true] at h
    rcases List.mem_cons.mp hx with rfl | hx
    · exact h.1
    · exact ls_mem h.2 hx
theorem dpt_mem : ∀ {xs : List PyData} {x : PyData}, x ∈ xs → x.depth ≤ PyData.depthAll xs
  | y :: r, x, hx => by
    simp only [PyData.depthAll]
    rcases List.mem_cons.mp hx with rfl | hx
    · omega
    · have := dpt_mem hx; omega
theorem cl_mem : ∀ {xs : List PyData} {x : PyData}, layAllG xs = true → x ∈ xs → layG x = true
  | y :: r, x, h, hx => by
    simp only [layAllG, Bool.and_eq_true] at h
    rcases List.mem_cons.mp hx with rfl | hx
    · exact h.1
    · exact cl_mem h.2 hx
theorem dpt_tup {xs : List PyData} {x : PyData} (hx : x ∈ xs) : x.depth + 1 ≤ PyData.depth (.tuple xs) := by
  have := dpt_mem hx
  simp only [PyData.depth]
  omega
theorem Gd.mem {xs : List PyData} {x : PyData} (h : Gd (.tuple xs)) (hx : x ∈ xs) : Gd x := by
  obtain ⟨⟨h1, h2, h3⟩, h4, h5⟩ := h
  have hw := wt_mem hx
  have hd := dpt_tup hx
  simp only [PyData.showable] at h1
  simp only [PyData.leavesShort] at h2
  simp only [PyData.weight] at h3
  simp only [layG] at h4
  exact ⟨⟨sh_mem h1 hx, ls_mem h2 hx, by omega⟩, cl_mem h4 hx, by omega⟩
theorem Gd.len {xs : List PyData} (h : Gd (.tuple xs)) : xs.length ≤ 27000 := Nat.le_trans wt_len h.rp.wt
theorem Gd.str {z : Str} (h : Gd (.str z)) : z.length ≤ 27000 := h.rp.wt
theorem Gd.sh {z : Str} (h : Gd (.str z)) : SeqAt.shaped (.str z) = true := Shp.sh (k := 0) ⟨by have := h.sp.1; simpa only [layG] using this, Nat.zero_le _⟩ (by decide)
/-! ### a tuple of any things is compared with the empty one -/
end Al
namespace Al
open PySem PySem.Spec L2
open PyProof.Rows hiding St
/-! ### bounds of patterns (k02) -/
/-! ### promises (k02) -/
end Al
namespace Al
open PySem PySem.Spec L2
open PyProof.Rows hiding St
/-! ### what is put in a part's stead -/
end Al
namespace Al
open PySem PySem.Spec L2
open PyProof.Rows hiding St
end Al
namespace Al
open PySem PySem.Spec L2
open PyProof.Rows hiding St
/-! ### signs as texts -/
end Al
namespace Al
open PySem PySem.Spec L2
open PyProof.Rows hiding St
/-! ### the text of a pattern (k04) -/
/-! ### the reading -/
structure RdS4 where
  stk : List (Nat × Option (Bool × Pat))
  L : List (List PyData)
  val : Option Pat
  ltr : Option Str
def orW (o : Bool) : Str := if o = true then "or" else "then"
def entD : Option (Bool × Pat) → List PyData
  | none => []
  | some (o, p) => [.str (orW o), p.D]
instance (z : Str) (c : Nat) : Decidable (cds z = [] ∨ ∃ d, (cds z).getLast? = some d ∧ d < c) :=
  match h : (cds z).getLast? with
  | none => .isTrue (.inl (List.getLast?_eq_none_iff.mp h))
  | some d => if hd : d < c then .isTrue (.inr ⟨d, rfl, hd⟩) else .isFalse fun k => by
      rcases k with k | ⟨e, k1, k2⟩
      · rw [k] at h; cases h
      · cases k1; exact hd k2
structure RsOk (S : RdS4) : Prop where
  at_ : ∀ q ∈ S.stk, S.L[q.1]? = some (entD q.2)
  nd : S.stk.Pairwise fun a b => b.1 < a.1
  len : S.stk.length ≤ S.L.length
theorem RsOk.lt {S : RdS4} (h : RsOk S) : ∀ q ∈ S.stk, q.1 < S.L.length := fun q hq => (List.getElem?_eq_some_iff.mp (h.at_ q hq)).1
end Al
namespace Al
open PySem PySem.Spec L2
open PyProof.Rows hiding St
/-! ### the owned objects of a reading -/
/-! ### promises (k04) -/
def ltrOk (S : RdS4) : Prop := ∀ z, S.ltr = some z → z.length ≤ 8
end Al
namespace Al
open PySem PySem.Spec L2
open PyProof.Rows hiding St
/-! ### a tuple is no text -/
/-! ### what the reading keeps (k05) -/
structure RdJ (S : RdS4) (n : Nat) : Prop where
  rs : RsOk S
  v : ∀ p, S.val = some p → PatOk p ∧ p.dp ≤ n + 1
  s : ∀ q ∈ S.stk, ∀ o p, q.2 = some (o, p) → PatOk p ∧ p.dp ≤ n + 1
  l : ∀ z, S.ltr = some z → S.val = none ∧ z.length ≤ 8 ∧ (∀ c ∈ cds z, sgn c = true) ∧ (cds z).Pairwise (· < ·)
  t : S.ltr = none → S.val = none → ∀ q st, S.stk = q :: st → ∀ p, q.2 ≠ some (false, p)
theorem RdJ.ltr {S : RdS4} {n : Nat} (h : RdJ S n) : ltrOk S := fun z hz => (h.l z hz).2.1
theorem RdJ.mono {S : RdS4} {m n : Nat} (h : RdJ S m) (hn : m ≤ n) : RdJ S n :=
  ⟨h.rs, fun p e => ⟨(h.v p e).1, Nat.le_trans (h.v p e).2 (by omega)⟩, fun q hq o p e => ⟨(h.s q hq o p e).1, Nat.le_trans (h.s q hq o p e).2 (by omega)⟩, h.l, h.t⟩
end Al
namespace Al
open PySem PySem.Spec L2
open PyProof.Rows hiding St
/-! ### the law's own rows (k05) -/
/-! ### what a reading tells -/
/-! ### how deep a read pattern is -/
/-- what is on the stack is not too deep -/
def DpS (K : Nat) : List (Nat × Option (Bool × Pat)) → Prop
  | [] => True
  | (_, none) :: st => DpS K st
  | (_, some (_, q)) :: st => q.dp + (st.length + 1) ≤ K ∧ DpS K st
theorem DpS.mono {K K' : Nat} (h : K ≤ K') : ∀ {st : List (Nat × Option (Bool × Pat))}, DpS K st → DpS K' st
  | [], _ => trivial
  | (_, none) :: st, d => DpS.mono (st := st) h d
  | (_, some (_, q)) :: st, ⟨d1, d2⟩ => ⟨Nat.le_trans d1 h, DpS.mono (st := st) h d2⟩
/-! ### promises (k05) -/
/-- data whose texts and tuples are short -/
inductive Gw : PyData → Prop
  | str {z : Str} : z.length ≤ 27000 → Gw (.str z)
  | tup {xs : List PyData} : xs.length ≤ 27000 → (∀ x ∈ xs, Gw x) → Gw (.tuple xs)
theorem Gw.len {xs : List PyData} (h : Gw (.tuple xs)) : xs.length ≤ 27000 := by cases h; assumption
theorem Gw.mem {xs : List PyData} {x : PyData} (h : Gw (.tuple xs)) (hx : x ∈ xs) : Gw x := by cases h; rename_i h1 h2; exact h2 x hx
/-! ### stars -/
end Al
namespace Al
open PySem PySem.Spec L2
open PyProof.Rows hiding St
end Al
namespace Al
open PySem PySem.Spec L2
open PyProof.Rows hiding St
end Al
namespace Al
open PySem PySem.Spec L2
open PyProof.Rows hiding St
/-! ### long texts (k05) -/
end Al
namespace Al
open PySem PySem.Spec L2
open PyProof.Rows hiding St
/-! ### sets of texts: set(xs), set(text), sorted(set(..)) -/
def keyS (e : Int × Value) : Str := match e.2 with | .str k _ => k | _ => Str.empty
def GdS (P : Program) (w : World) (e : Int × Value) : Prop := ∃ k tk, e.2 = Value.str k tk ∧ e.1 = (strKind P w).hash k
/-- the set of texts at a: S its members, n their number -/
def SetS (P : Program) (w : World) (h : Heap) (a : Addr) (S : Str → Bool) (n : Nat) : Prop :=
  ∃ o es ep t, h.get? a = some o ∧ o.ExactSet ∧ o.data = .set es ep t ∧ (∀ e ∈ es.toList, GdS P w e) ∧ (es.toList.map keyS).Nodup ∧ (∀ k, S k = true ↔ k ∈ es.toList.map keyS) ∧
    es.size < scanBound ∧ t.fits es.size = true ∧ es.size = n ∧ Ris t.place.toList ∧ (w.params.followText "set-order" = true ∨ t.led = true)
section
variable {P : Program} {w : World} {h h' : Heap} {a : Addr} {S : Str → Bool} {n : Nat}
theorem SetS.at (R : SetS P w h a S n) (k : ∀ o, h.get? a = some o → h'.get? a = some o) : SetS P w h' a S n := by
  obtain ⟨o, es, ep, t, ho, r⟩ := R
  exact ⟨o, es, ep, t, k o ho, r⟩
end
end Al
namespace Al
open PySem PySem.Spec L2
open PyProof.Rows hiding St
/-! ### sorted of a set of ints, however many -/
end Al
namespace Al
open PySem PySem.Spec L2
open PyProof.Rows hiding St
open PySem.W (Looks findIn subIn typeIn keepIn clsIn)
/-! ### try: .., except (A, B) as n: .. -/
end Al
namespace Al
open PySem PySem.Spec L2
open PyProof.Rows hiding St
/-! ### {(a, b): v}: a display with one tuple for a key -/
/-! ### sets of rooms -/
/-- the rooms to which steps by c lead from the rooms rs -/
def ledN (m : Mach) (rs : List Nat) (c : Nat) : List Nat := (List.range m.n).filter fun r => m.st.any fun t => decide (t.2.1 = c) && decide (t.2.2 = r) && decide (t.1 ∈ rs)
theorem ledN_up (m : Mach) (rs : List Nat) (c : Nat) : Rms m.n (ledN m rs c) :=
  ⟨List.Pairwise.sublist List.filter_sublist (List.pairwise_lt_range), fun r hr => List.mem_range.mp (List.mem_filter.mp hr).1⟩
/-- the rooms as a tuple -/
abbrev rmT (rs : List Nat) : PyData := .tuple (rs.map iD)
end Al
namespace Al
open PySem PySem.Spec L2
open PyProof.Rows hiding St
/-! ### the sets that words lead to, one behind the other -/
def extR (m : Mach) (rs : List Nat) (cs : List Nat) (row : List (List Nat)) : List (List Nat) := cs.foldl (fun row c => if ledN m rs c ∈ row then row else row ++ [ledN m rs c]) row
structure RowOk (m : Mach) (row : List (List Nat)) : Prop where
  nd : row.Nodup
  ok : ∀ rs ∈ row, Rms m.n rs
theorem RowOk.snoc {m : Mach} {row : List (List Nat)} (h : RowOk m row) {rs : List Nat} {c : Nat} (hn : ledN m rs c ∉ row) : RowOk m (row ++ [ledN m rs c]) :=
  ⟨List.nodup_append.mpr ⟨h.nd, by simp, fun a ha b hb => by
    have : b = ledN m rs c := by simpa using hb
    subst this
    exact fun e => hn (by rw [← e]; exact ha)⟩, fun x hx => by
    rcases List.mem_append.mp hx with h1 | h1
    · exact h.ok x h1
    · have : x = ledN m rs c := by simpa using h1
      rw [this]; exact ledN_up m rs c⟩
theorem RowOk.ext {m : Mach} {rs : List Nat} : ∀ {cs : List Nat} {row : List (List Nat)}, RowOk m row → RowOk m (extR m rs cs row)
  | [], _, h => h
  | c :: cs, row, h => by
    show RowOk m (extR m rs cs (if ledN m rs c ∈ row then row else row ++ [ledN m rs c]))
    split
    · exact RowOk.ext h
    · rename_i hn
      exact RowOk.ext (h.snoc hn)
/-! the dict of their numbers -/
/-! what is told of a set -/
end Al
namespace Al
open PySem PySem.Spec L2
open PyProof.Rows hiding St
/-! ### doors that refuse (k36) -/
end Al
namespace Al
open PySem PySem.Spec L2
open PyProof.Rows hiding St
end Al
namespace Al
open PySem PySem.Spec L2
end Al
namespace Al
open PySem PySem.Spec L2
open PyProof.Rows hiding St
/-! ### sets told (k34) -/
/-! the told list, seen as data -/
/-! promises -/
/-! sizes -/
end Al
namespace Al
open PySem PySem.Spec L2
open PyProof.Rows hiding St
/-! ### the machine of the last signs: 2 ^ k sets -/
/-! numbers that are none -/
end Al
namespace Al
open PySem PySem.Spec L2
/-! ### the told list, lengthened -/
end Al
namespace Al
open PySem PySem.Spec L2
open PyProof.Rows hiding St
/-! ### patterns put otherwise -/
def eqP : Pat → Pat → Bool
  | .non, .non => true
  | .sgn z, .sgn w => decide (z = w)
  | .aga p, .aga q => eqP p q
  | .thn a b, .thn c d => eqP a c && eqP b d
  | .orr a b, .orr c d => eqP a c && eqP b d
  | _, _ => false
theorem eqP_refl : ∀ p : Pat, eqP p p = true
  | .non => rfl
  | .sgn z => decide_eq_true rfl
  | .aga p => eqP_refl p
  | .thn a b => by show (eqP a a && eqP b b) = true; rw [eqP_refl a, eqP_refl b]; rfl
  | .orr a b => by show (eqP a a && eqP b b) = true; rw [eqP_refl a, eqP_refl b]; rfl
theorem eqP_eq : ∀ {p q : Pat}, eqP p q = true → p = q
  | .non, q, h => by cases q <;> first | rfl | cases h
  | .sgn z, q, h => by
    cases q with
    | sgn w => rw [of_decide_eq_true (show decide (z = w) = true from h)]
    | _ => cases h
  | .aga p, q, h => by
    cases q with
    | aga r => rw [eqP_eq (show eqP p r = true from h)]
    | _ => cases h
  | .thn a b, q, h => by
    cases q with
    | thn c d =>
      obtain ⟨h1, h2⟩ := Bool.and_eq_true_iff.mp (show (eqP a c && eqP b d) = true from h)
      rw [eqP_eq h1, eqP_eq h2]
    | _ => cases h
  | .orr a b, q, h => by
    cases q with
    | orr c d =>
      obtain ⟨h1, h2⟩ := Bool.and_eq_true_iff.mp (show (eqP a c && eqP b d) = true from h)
      rw [eqP_eq h1, eqP_eq h2]
    | _ => cases h
instance : DecidableEq Pat := fun p q => if h : eqP p q = true then isTrue (eqP_eq h) else isFalse (fun e => h (by rw [e]; exact eqP_refl q))
/-- the signs of both, rising, each once -/
def mrg (a b : List Nat) : List Nat := (List.range 128).filter fun c => decide (c ∈ a ++ b)
def ofSg (z w : Str) : Option Pat := if 8 < (mrg (cds z) (cds w)).length then none else some (.sgn (mkS (mrg (cds z) (cds w))))
def ofAg : Pat → Option Pat
  | .non => some .non
  | .aga q => some (.aga q)
  | .orr p q => if p = .non then some (.aga q) else if q = .non then some (.aga p) else none
  | _ => none
def ofTh (p q : Pat) : Option Pat := if p = .non then some q else if q = .non ∨ (p = q ∧ p.isAga = true) then some p else none
def ofOr2 : Pat → Pat → Option Pat
  | .sgn z, .sgn w => ofSg z w
  | .thn a b, .thn c d => if a = c then some (.thn a (.orr b d)) else if b = d then some (.thn (.orr a c) b) else none
  | _, _ => none
def ofOr (p q : Pat) : Option Pat := if p = q then some p else if p = .non ∧ q.isAga = true then some q else if q = .non ∧ p.isAga = true then some p else ofOr2 p q
def byRule : Pat → Option Pat
  | .aga p => ofAg p
  | .thn p q => ofTh p q
  | .orr p q => ofOr p q
  | _ => none
/-- no rule fits, at the top, within -/
def nf (p : Pat) : Bool := (byRule p).isNone
/-- what a rule makes is no greater -/
structure Less (f p : Pat) : Prop where
  pt : f.pt < p.pt
  lv : f.lv ≤ p.lv
  dp : f.dp ≤ p.dp
/-- no greater than -/
structure LeP (f p : Pat) : Prop where
  pt : f.pt ≤ p.pt
  lv : f.lv ≤ p.lv
  dp : f.dp ≤ p.dp
theorem LeP.refl (p : Pat) : LeP p p := ⟨Nat.le_refl _, Nat.le_refl _, Nat.le_refl _⟩
theorem LeP.aga {p q : Pat} (h : LeP p q) : LeP (.aga p) (.aga q) := ⟨by have := h.pt; simp only [Pat.pt]; omega, by have := h.lv; simp only [Pat.lv]; omega, by have := h.dp; simp only [Pat.dp]; omega⟩
theorem LeP.thn {p q a b : Pat} (h : LeP p q) (g : LeP a b) : LeP (.thn p a) (.thn q b) := ⟨by have := h.pt; have := g.pt; simp only [Pat.pt]; omega, by have := h.lv; have := g.lv; simp only [Pat.lv]; omega, by have := h.dp; have := g.dp; simp only [Pat.dp]; omega⟩
theorem LeP.orr {p q a b : Pat} (h : LeP p q) (g : LeP a b) : LeP (.orr p a) (.orr q b) := ⟨by have := h.pt; have := g.pt; simp only [Pat.pt]; omega, by have := h.lv; have := g.lv; simp only [Pat.lv]; omega, by have := h.dp; have := g.dp; simp only [Pat.dp]; omega⟩
theorem LeP.trans {p q r : Pat} (h : LeP p q) (g : LeP q r) : LeP p r := ⟨Nat.le_trans h.pt g.pt, Nat.le_trans h.lv g.lv, Nat.le_trans h.dp g.dp⟩
theorem Less.le {p q : Pat} (h : Less p q) : LeP p q := ⟨Nat.le_of_lt h.pt, h.lv, h.dp⟩
/-! data of patterns -/
end Al
namespace Al
open PySem PySem.Spec L2
open PyProof.Rows hiding St
/-! ### set(text) -/
/-! ### a module's tuple, a module's dict of defs -/
end Al
namespace Al
open PySem PySem.Spec L2
open PyProof.Rows hiding St
/-! ### == of patterns -/
/-! heads -/
/-! promises -/
end Al
namespace Al
open PySem PySem.Spec L2
open PyProof.Rows hiding St
end Al
namespace Al
open PySem PySem.Spec L2
open PyProof.Rows hiding St
/-! ### promises of k63 -/
/-! the patterns of one rule -/
def more (o : Pat) : Pat := if o.isAga = true then o else .aga o
end Al
namespace Al
open PySem PySem.Spec L2
open PyProof.Rows hiding St
/-! ### x not in a tuple of data; what fits no rule -/
/-! what stands behind the word of a pattern -/
end Al
namespace Al
open PySem PySem.Spec L2
open PyProof.Rows hiding St
/-! ### sorted, its order told -/
/-- a step lies ahead of another one -/
def lt3 (a b : Stp) : Prop := a.1 < b.1 ∨ (a.1 = b.1 ∧ (a.2.1 < b.2.1 ∨ (a.2.1 = b.2.1 ∧ a.2.2 < b.2.2)))
instance (a b : Stp) : Decidable (lt3 a b) := inferInstanceAs (Decidable (a.1 < b.1 ∨ (a.1 = b.1 ∧ (a.2.1 < b.2.1 ∨ (a.2.1 = b.2.1 ∧ a.2.2 < b.2.2)))))
/-! ### sorted(d), d a dict whose keys are tuples -/
end Al
namespace Al
open PySem PySem.Spec L2
open PyProof.Rows hiding St
/-! ### sorted(d), d a dict whose keys are steps -/
/-! ### the leaves' places: the mathematics -/
/-- a pattern reads the word without signs -/
def nul : Pat → Bool
  | .non => true
  | .sgn _ => false
  | .aga _ => true
  | .thn p q => nul p && nul q
  | .orr p q => nul p || nul q
def en : Pat → Nat → List Nat
  | .non, _ => []
  | .sgn _, a => [a]
  | .aga p, a => en p a
  | .thn p q, a => if nul q = true then en p a ++ en q (a + p.lv) else en q (a + p.lv)
  | .orr p q, a => en p a ++ en q (a + p.lv)
/-- some leaves can stand right behind others -/
def jn (b : List Nat) : List Nat → List (List Nat) → List (List Nat)
  | [], ns => ns
  | i :: e, ns => jn b e (ns.set i (ns.getD i [] ++ b.filter fun x => !decide (x ∈ ns.getD i [])))
/-- the lists of what can stand behind: each once, small -/
def NsOk (ns : List (List Nat)) : Prop := ∀ l ∈ ns, l.Nodup ∧ ∀ x ∈ l, x < 100
theorem NsOk.at {ns : List (List Nat)} (h : NsOk ns) (i : Nat) : (ns.getD i []).Nodup ∧ ∀ x ∈ ns.getD i [], x < 100 := by
  by_cases hi : i < ns.length
  · rw [List.getD_eq_getElem?_getD, List.getElem?_eq_getElem hi]
    exact h _ (List.getElem_mem hi)
  · rw [List.getD_eq_getElem?_getD, List.getElem?_eq_none (by omega)]
    exact ⟨List.nodup_nil, fun _ h => nomatch h⟩
theorem more_ok {l b : List Nat} (hl : l.Nodup ∧ ∀ x ∈ l, x < 100) (hb : b.Nodup) (hb2 : ∀ x ∈ b, x < 100) : (l ++ b.filter fun x => !decide (x ∈ l)).Nodup ∧ ∀ x ∈ l ++ b.filter (fun x => !decide (x ∈ l)), x < 100 := by
  refine ⟨List.nodup_append.mpr ⟨hl.1, hb.filter _, fun x hx y hy e => ?_⟩, fun x hx => ?_⟩
  · have := (List.mem_filter.mp hy).2
    rw [← e] at this
    simp [hx] at this
  · rcases List.mem_append.mp hx with h | h
    · exact hl.2 x h
    · exact hb2 x (List.mem_filter.mp h).1
theorem NsOk.set {ns : List (List Nat)} (h : NsOk ns) {b : List Nat} (hb : b.Nodup) (hb2 : ∀ x ∈ b, x < 100) (i : Nat) : NsOk (ns.set i (ns.getD i [] ++ b.filter fun x => !decide (x ∈ ns.getD i []))) := fun l hl => by
  rcases List.mem_or_eq_of_mem_set hl with h1 | h1
  · exact h l h1
  · rw [h1]
    exact more_ok (h.at i) hb hb2
theorem NsOk.jn {b : List Nat} (hb : b.Nodup) (hb2 : ∀ x ∈ b, x < 100) : ∀ (e : List Nat) {ns : List (List Nat)}, NsOk ns → NsOk (jn b e ns)
  | [], _, h => h
  | i :: e, _, h => NsOk.jn hb hb2 e (h.set hb hb2 i)
end Al
namespace Al
open PySem PySem.Spec L2
open PyProof.Rows hiding St
/-! ### enumerate of a list of anything -/
/-! ### the leaves' places: what is owned -/
/-! ### promises of k17 -/
end Al
namespace Al
open PySem PySem.Spec L2
open PyProof.Rows hiding St
/-! ### what can stand behind what -/
/-! ### the machine of a pattern -/
/-! ### promises -/
end Al
namespace Al
open PySem PySem.Spec L2
open PyProof.Rows hiding St
section
variable {O : Own} {fs : List (Str × PV)} {ls : List Str} {ns : List (List Nat)} {ou : List PV} {A : Own}
theorem app_some {O A : Own} {i : Nat} {x : AO} (h : O[i]? = some x) : (O ++ A)[i]? = some x := by
  rw [List.getElem?_append_left (List.getElem?_eq_some_iff.mp h).1]; exact h
end
end Al
namespace Al
open PySem PySem.Spec L2
open PyProof.Rows hiding St
/-! ### a tuple of three new lists, which may grow -/
structure FW (O W : Own) (i x y z : Nat) (n : PyData) (dx dy dz : List PyData) : Prop where
  tup : W[i]? = some (.tup [.d n, .o x, .o y, .o z])
  hx : W[x]? = some (.lst (dx.map PV.d))
  hy : W[y]? = some (.lst (dy.map PV.d))
  hz : W[z]? = some (.lst (dz.map PV.d))
  bx : O.length ≤ x
  by_ : O.length ≤ y
  bz : O.length ≤ z
  xy : x ≠ y
  xz : x ≠ z
  yz : y ≠ z
  cl : ClO W
  tk : W.take O.length = O
  le : O.length ≤ W.length
section
variable {O W : Own} {i x y z : Nat} {n : PyData} {dx dy dz : List PyData}
theorem FW.lt (h : FW O W i x y z n dx dy dz) : x < W.length ∧ y < W.length ∧ z < W.length := ⟨(List.getElem?_eq_some_iff.mp h.hx).1, (List.getElem?_eq_some_iff.mp h.hy).1, (List.getElem?_eq_some_iff.mp h.hz).1⟩
theorem FW.ne (h : FW O W i x y z n dx dy dz) : i ≠ x ∧ i ≠ y ∧ i ≠ z := by
  refine ⟨fun e => ?_, fun e => ?_, fun e => ?_⟩
  · have := h.tup.symm.trans (e ▸ h.hx); cases this
  · have := h.tup.symm.trans (e ▸ h.hy); cases this
  · have := h.tup.symm.trans (e ▸ h.hz); cases this
theorem FW.app (h : FW O W i x y z n dx dy dz) {A : AO} (ha : A.below (W.length + 1) = true) : FW O (W ++ [A]) i x y z n dx dy dz :=
  ⟨app_some h.tup, app_some h.hx, app_some h.hy, app_some h.hz, h.bx, h.by_, h.bz, h.xy, h.xz, h.yz, cl_app h.cl ha, by rw [List.take_append_of_le_length h.le, h.tk], by rw [List.length_append]; exact Nat.le_trans h.le (Nat.le_add_right _ _)⟩
theorem FW.below (h : FW O W i x y z n dx dy dz) : (AO.tup [.o x, .o y, .o z]).below (W.length + 1) = true := by
  obtain ⟨l1, l2, l3⟩ := h.lt
  show (decide (x < W.length + 1) && (decide (y < W.length + 1) && (decide (z < W.length + 1) && true))) = true
  rw [decide_eq_true (by omega), decide_eq_true (by omega), decide_eq_true (by omega)]; rfl
end
end Al
namespace Al
open PySem PySem.Spec L2
open PyProof.Rows hiding St
/-! ### words that fit: by the parts, and by the places -/
inductive Str1 (R : Nat → Nat → Prop) : Nat → Nat → Prop
  | nil (i : Nat) : Str1 R i i
  | cons {i j k : Nat} : R i j → Str1 R j k → Str1 R i k
theorem Str1.snoc {R : Nat → Nat → Prop} {i j k : Nat} (h : Str1 R i j) : R j k → Str1 R i k := by
  induction h with
  | nil i => exact fun h => .cons h (.nil _)
  | cons h _ ih => exact fun h2 => .cons h (ih h2)
/-- a pattern reads the word's signs from i up to j -/
def RdP (t : List Nat) : Pat → Nat → Nat → Prop
  | .non, i, j => j = i
  | .sgn z, i, j => j = i + 1 ∧ ∃ c, t[i]? = some c ∧ c ∈ cds z
  | .aga p, i, j => Str1 (fun a b => RdP t p a b) i j
  | .thn p q, i, j => ∃ m, RdP t p i m ∧ RdP t q m j
  | .orr p q, i, j => RdP t p i j ∨ RdP t q i j
/-- a way through the places: place x reads sign i, .., place y reads the sign ahead of j -/
inductive Pth (R T : Nat → Nat → Prop) : Nat → Nat → Nat → Nat → Prop
  | one {x i : Nat} : T i x → Pth R T x i x (i + 1)
  | cons {x i z y j : Nat} : T i x → R x z → Pth R T z (i + 1) y j → Pth R T x i y j
section
variable {R S T : Nat → Nat → Prop} {x y z w i j m : Nat}
theorem Pth.mono (hs : ∀ a b, R a b → S a b) (h : Pth R T x i y j) : Pth S T x i y j := by
  induction h with
  | one h => exact .one h
  | cons h1 h2 _ ih => exact .cons h1 (hs _ _ h2) ih
theorem Pth.app (h : Pth R T x i y m) : R y z → Pth R T z m w j → Pth R T x i w j := by
  induction h with
  | one h => exact fun h1 h2 => .cons h h1 h2
  | cons h1 h2 _ ih => exact fun h3 h4 => .cons h1 h2 (ih h3 h4)
theorem Pth.lt (h : Pth R T x i y j) : i < j := by
  induction h with
  | one h => omega
  | cons _ _ _ ih => omega
theorem Pth.stay {P : Nat → Prop} (hs : ∀ u v, P u → R u v → S u v ∧ P v) (h : Pth R T x i y j) : P x → Pth S T x i y j ∧ P y := by
  induction h with
  | one h => exact fun hp => ⟨.one h, hp⟩
  | cons h1 h2 _ ih =>
    intro hp
    obtain ⟨a, b⟩ := hs _ _ hp h2
    obtain ⟨c, d⟩ := ih b
    exact ⟨.cons h1 a c, d⟩
end
/-! ### the going through the places -/
/-! ### where the law's own going ends -/
noncomputable def endsL (t : List Nat) (p : Pat) (a : Nat) : List Nat := (List.range (t.length + 1)).filter fun b => @decide (RdP t p a b) (Classical.propDecidable _)
end Al
namespace Al
open PySem PySem.Spec L2
open PyProof.Rows hiding St
/-! ### a dict whose keys are ints: list(d), sorted(d) -/
/-! ### the law's parts -/
/-- the part at i stands for the pattern -/
def AtP (ds : List PyData) : Pat → Nat → Prop
  | .non, i => ds[i]? = some (Pat.D .non)
  | .sgn z, i => ds[i]? = some (Pat.D (.sgn z))
  | .aga p, i => ∃ j, ds[i]? = some (.tuple [.str "again", iD j]) ∧ AtP ds p j
  | .thn p q, i => ∃ j k, ds[i]? = some (.tuple [.str "then", iD j, iD k]) ∧ AtP ds p j ∧ AtP ds q k
  | .orr p q, i => ∃ j k, ds[i]? = some (.tuple [.str "or", iD j, iD k]) ∧ AtP ds p j ∧ AtP ds q k
theorem AtP.lt {ds : List PyData} : ∀ {p : Pat} {i : Nat}, AtP ds p i → i < ds.length
  | .non, _, h => (List.getElem?_eq_some_iff.mp h).1
  | .sgn _, _, h => (List.getElem?_eq_some_iff.mp h).1
  | .aga _, _, ⟨_, h, _⟩ => (List.getElem?_eq_some_iff.mp h).1
  | .thn _ _, _, ⟨_, _, h, _⟩ => (List.getElem?_eq_some_iff.mp h).1
  | .orr _ _, _, ⟨_, _, h, _⟩ => (List.getElem?_eq_some_iff.mp h).1
theorem at_app {ds es : List PyData} {i : Nat} {x : PyData} (h : ds[i]? = some x) : (ds ++ es)[i]? = some x := by
  rw [List.getElem?_append_left (List.getElem?_eq_some_iff.mp h).1]; exact h
theorem AtP.app {ds : List PyData} (es : List PyData) : ∀ {p : Pat} {i : Nat}, AtP ds p i → AtP (ds ++ es) p i
  | .non, _, h => at_app h
  | .sgn _, _, h => at_app h
  | .aga _, _, ⟨j, h, h1⟩ => ⟨j, at_app h, h1.app es⟩
  | .thn _ _, _, ⟨j, k, h, h1, h2⟩ => ⟨j, k, at_app h, h1.app es, h2.app es⟩
  | .orr _ _, _, ⟨j, k, h, h1, h2⟩ => ⟨j, k, at_app h, h1.app es, h2.app es⟩
/-- one part stands for one pattern alone -/
theorem AtP.uniq {ds : List PyData} : ∀ {p q : Pat} {i : Nat}, AtP ds p i → AtP ds q i → p = q := by
  intro p
  induction p with
  | non =>
    intro q i h g
    have h : ds[i]? = some (Pat.D .non) := h
    cases q with
    | non => rfl
    | sgn z => have g : ds[i]? = some (Pat.D (.sgn z)) := g; rw [h] at g; simp [Pat.D] at g
    | aga a => obtain ⟨j, g, _⟩ := g; rw [h] at g; simp [Pat.D] at g
    | thn a b => obtain ⟨j, k, g, _⟩ := g; rw [h] at g; simp [Pat.D] at g
    | orr a b => obtain ⟨j, k, g, _⟩ := g; rw [h] at g; simp [Pat.D] at g
  | sgn z =>
    intro q i h g
    have h : ds[i]? = some (Pat.D (.sgn z)) := h
    cases q with
    | non => have g : ds[i]? = some (Pat.D .non) := g; rw [h] at g; simp [Pat.D] at g
    | sgn z' => have g : ds[i]? = some (Pat.D (.sgn z')) := g; rw [h] at g; simp [Pat.D] at g; rw [g]
    | aga a => obtain ⟨j, g, _⟩ := g; rw [h] at g; simp [Pat.D] at g
    | thn a b => obtain ⟨j, k, g, _⟩ := g; rw [h] at g; simp [Pat.D] at g
    | orr a b => obtain ⟨j, k, g, _⟩ := g; rw [h] at g; simp [Pat.D] at g
  | aga a ih =>
    intro q i h g
    obtain ⟨j, h, h1⟩ := h
    cases q with
    | non => have g : ds[i]? = some (Pat.D .non) := g; rw [h] at g; simp [Pat.D] at g
    | sgn z => have g : ds[i]? = some (Pat.D (.sgn z)) := g; rw [h] at g; simp [Pat.D] at g
    | aga b =>
      obtain ⟨j', g, g1⟩ := g
      rw [h] at g
      simp at g
      have e : j = j' := by omega
      subst e
      rw [ih h1 g1]
    | thn a b => obtain ⟨j, k, g, _⟩ := g; rw [h] at g; simp at g
    | orr a b => obtain ⟨j, k, g, _⟩ := g; rw [h] at g; simp at g
  | thn a b iha ihb =>
    intro q i h g
    obtain ⟨j, k, h, h1, h2⟩ := h
    cases q with
    | non => have g : ds[i]? = some (Pat.D .non) := g; rw [h] at g; simp [Pat.D] at g
    | sgn z => have g : ds[i]? = some (Pat.D (.sgn z)) := g; rw [h] at g; simp [Pat.D] at g
    | aga b => obtain ⟨j', g, g1⟩ := g; rw [h] at g; simp at g
    | thn a' b' =>
      obtain ⟨j', k', g, g1, g2⟩ := g
      rw [h] at g
      simp at g
      have e : j = j' := by omega
      have e' : k = k' := by omega
      subst e e'
      rw [iha h1 g1, ihb h2 g2]
    | orr a b => obtain ⟨j, k, g, _⟩ := g; rw [h] at g; exact absurd (PyData.str.inj (List.cons.inj (PyData.tuple.inj (Option.some.inj g))).1) (by decide)
  | orr a b iha ihb =>
    intro q i h g
    obtain ⟨j, k, h, h1, h2⟩ := h
    cases q with
    | non => have g : ds[i]? = some (Pat.D .non) := g; rw [h] at g; simp [Pat.D] at g
    | sgn z => have g : ds[i]? = some (Pat.D (.sgn z)) := g; rw [h] at g; simp [Pat.D] at g
    | aga b => obtain ⟨j', g, g1⟩ := g; rw [h] at g; simp at g
    | thn a b => obtain ⟨j, k, g, _⟩ := g; rw [h] at g; exact absurd (PyData.str.inj (List.cons.inj (PyData.tuple.inj (Option.some.inj g))).1) (by decide)
    | orr a' b' =>
      obtain ⟨j', k', g, g1, g2⟩ := g
      rw [h] at g
      simp at g
      have e : j = j' := by omega
      have e' : k = k' := by omega
      subst e e'
      rw [iha h1 g1, ihb h2 g2]
/-- what is kept tells where the parts end -/
def Kept (ds : List PyData) (t : List Nat) (kvs : List (List Key × PV)) : Prop := (kvs.map (·.1)).Nodup ∧ ∀ kv ∈ kvs, ∃ (p : Pat) (i a : Nat), kv = ([.inl ((i : Nat) : Int), .inl ((a : Nat) : Int)], .d (rmsD (endsL t p a))) ∧ AtP ds p i ∧ a ≤ t.length
abbrev kq (i a : Nat) : List Key := [.inl ((i : Nat) : Int), .inl ((a : Nat) : Int)]
theorem kq_inj {i a i' a' : Nat} (h : kq i a = kq i' a') : i = i' ∧ a = a' := by
  simp only [kq, List.cons.injEq, Sum.inl.injEq, and_true] at h
  omega
theorem Kept.get {ds : List PyData} {t : List Nat} {kvs : List (List Key × PV)} (h : Kept ds t kvs) {p : Pat} {i a : Nat} (hp : AtP ds p i) {x : PV} (hg : getK kvs (kq i a) = some x) : x = .d (rmsD (endsL t p a)) := by
  unfold getK at hg
  rw [Option.map_eq_some_iff] at hg
  obtain ⟨kv, h1, rfl⟩ := hg
  have hm := List.mem_of_find?_eq_some h1
  have he : kv.1 = kq i a := of_decide_eq_true (List.find?_some (p := fun kv : List Key × PV => decide (kv.1 = kq i a)) h1)
  obtain ⟨q, i', a', rfl, hq, _⟩ := h.2 kv hm
  obtain ⟨rfl, rfl⟩ := kq_inj he
  rw [hp.uniq hq]
theorem Kept.len {ds : List PyData} {t : List Nat} {kvs : List (List Key × PV)} (h : Kept ds t kvs) : kvs.length ≤ ds.length * (t.length + 1) := by
  have nd := h.1
  have hs : ∀ x ∈ kvs.map (·.1), x ∈ (List.range ds.length).flatMap fun i => (List.range (t.length + 1)).map fun a => kq i a := fun x hx => by
    obtain ⟨kv, h1, rfl⟩ := List.mem_map.mp hx
    obtain ⟨p, i, a, rfl, hp, ha⟩ := h.2 kv h1
    exact List.mem_flatMap.mpr ⟨i, List.mem_range.mpr hp.lt, List.mem_map.mpr ⟨a, List.mem_range.mpr (by omega), rfl⟩⟩
  have := List.Nodup.length_le_of_subset nd hs
  rw [List.length_map] at this
  refine Nat.le_trans this ?_
  have : ∀ l : List Nat, (l.flatMap fun i => (List.range (t.length + 1)).map fun a => kq i a).length = l.length * (t.length + 1) := fun l => by
    induction l with
    | nil => simp
    | cons x l ih => rw [List.flatMap_cons, List.length_append, ih, List.length_map, List.length_range, List.length_cons, Nat.succ_mul]; omega
  rw [this, List.length_range]
  exact Nat.le_refl _
end Al
namespace Al
open PySem PySem.Spec L2
open PyProof.Rows hiding St
/-! ### words and what is none -/
/-! ### promises of k18 -/
/-- what stands while the ends are sought: the parts at np, what is kept at nk -/
structure EndH (O : Own) (ds : List PyData) (t : Str) (np nk : Nat) (kvs : List (List Key × PV)) : Prop where
  hp : O[np]? = some (.lst (ds.map PV.d))
  hk : O[nk]? = some (.dT kvs)
  kept : Kept ds (cds t) kvs
  dl : ds.length ≤ 100
  tl : t.length ≤ 60
  cl : ClO O
/-! ### where the parts end: what the law keeps -/
theorem EndH.ne {O : Own} {ds : List PyData} {t : Str} {np nk : Nat} {kvs : List (List Key × PV)} (h : EndH O ds t np nk kvs) : nk ≠ np := fun e => by
  have := h.hk.symm.trans (e ▸ h.hp)
  cases this
theorem EndH.more {O : Own} {ds : List PyData} {t : Str} {np nk : Nat} {kvs kvs' : List (List Key × PV)} (h : EndH O ds t np nk kvs) (hk : Kept ds (cds t) kvs') {A : Own} (hA : ClO (O.set nk (.dT kvs') ++ A)) : EndH (O.set nk (.dT kvs') ++ A) ds t np nk kvs' :=
  ⟨app_some (by rw [List.getElem?_set_ne h.ne]; exact h.hp), app_some (List.getElem?_set_self (List.getElem?_eq_some_iff.mp h.hk).1), hk, h.dl, h.tl, hA⟩
end Al
namespace Al
open PySem PySem.Spec L2
open PyProof.Rows hiding St
/-! ### long words -/
end Al
namespace Al
open PySem PySem.Spec L2
open PyProof.Rows hiding St
/-! ### a dict with tuple keys: setdefault, pop -/
end Al
namespace Al
open PySem PySem.Spec L2
open PyProof.Rows hiding St
/-! ### a memory: what is kept of a machine's sets -/
abbrev krs (rs : List Nat) : List Key := rs.map fun r => (Sum.inl ((r : Nat) : Int) : Key)
/-- where signs lead from a set -/
abbrev nxD (m : Mach) (rs es : List Nat) : List (Key × PV) := es.map fun c => ((Sum.inr (⟨#[c]⟩ : Str) : Key), PV.d (rmT (ledN m rs c)))
/-- an entry: the set, where its dict lies, the signs that it has -/
abbrev Ent := List Nat × Nat × List Nat
abbrev kpD (L : List Ent) : List (List Key × PV) := L.map fun e => (krs e.1, PV.o e.2.1)
structure Kn (O : Own) (n : Nat) (m : Mach) (B kx : Nat) (L : List Ent) : Prop where
  ob : O[n]? = some (.ins "Known" [("own", .d (mD m)), ("bound", .d (iD B)), ("kept", .o kx)])
  kp : O[kx]? = some (.dT (kpD L))
  el : ∀ e ∈ L, O[e.2.1]? = some (.dK (nxD m e.1 e.2.2))
  nd : (L.map (·.1)).Nodup
  js : (L.map (·.2.1)).Nodup
  le : L.length ≤ B
  es : ∀ e ∈ L, e.2.2.Nodup ∧ ∀ c ∈ e.2.2, sgn c = true
def fpK (n kx : Nat) (L : List Ent) (i : Nat) : Prop := i = n ∨ i = kx ∨ ∃ e ∈ L, i = e.2.1
def Fr (fp : Nat → Prop) (O O' : Own) : Prop := O.length ≤ O'.length ∧ ∀ i, i < O.length → ¬ fp i → O'[i]? = O[i]?
theorem Fr.refl (fp : Nat → Prop) (O : Own) : Fr fp O O := ⟨Nat.le_refl _, fun _ _ _ => rfl⟩
theorem Fr.app {fp : Nat → Prop} {O O' : Own} (h : Fr fp O O') (A : Own) : Fr fp O (O' ++ A) := ⟨by rw [List.length_append]; have := h.1; omega, fun i hi hn => by rw [List.getElem?_append_left (by have := h.1; omega)]; exact h.2 i hi hn⟩
theorem Fr.set {fp : Nat → Prop} {O O' : Own} (h : Fr fp O O') {k : Nat} (hk : fp k ∨ O.length ≤ k) (X : AO) : Fr fp O (O'.set k X) := ⟨by rw [List.length_set]; exact h.1, fun i hi hn => by
  rw [List.getElem?_set_ne (fun e => by subst e; rcases hk with h1 | h1; exact hn h1; omega)]
  exact h.2 i hi hn⟩
theorem Fr.trans {fp fp' : Nat → Prop} {O O1 O2 : Own} (h : Fr fp O O1) (g : Fr fp' O1 O2) (hf : ∀ i, fp' i → fp i ∨ O.length ≤ i) : Fr fp O O2 := ⟨Nat.le_trans h.1 g.1, fun i hi hn => by
  rw [g.2 i (by have := h.1; omega) (fun z => (hf i z).elim hn (by omega))]
  exact h.2 i hi hn⟩
def NT (O : Own) : Prop := ∀ ob ∈ O, isTupO ob = false
theorem NT.app {O A : Own} (h : NT O) (g : NT A) : NT (O ++ A) := fun ob hob => (List.mem_append.mp hob).elim (h ob) (g ob)
theorem NT.set {O : Own} (h : NT O) {k : Nat} {X : AO} (hX : isTupO X = false) : NT (O.set k X) := fun ob hob => (List.mem_or_eq_of_mem_set hob).elim (h ob) fun e => e ▸ hX
/-- a memory goes on -/
structure KnTo (O O' : Own) (n : Nat) (m : Mach) (B kx kx' : Nat) (L L' : List Ent) : Prop where
  kn : Kn O' n m B kx' L'
  fr : Fr (fpK n kx L) O O'
  fp : ∀ i, fpK n kx' L' i → fpK n kx L i ∨ O.length ≤ i
  cl : ClO O'
  nt : NT O'
theorem KnTo.trans {O O1 O2 : Own} {n : Nat} {m : Mach} {B kx kx1 kx2 : Nat} {L L1 L2 : List Ent} (h : KnTo O O1 n m B kx kx1 L L1) (g : KnTo O1 O2 n m B kx1 kx2 L1 L2) : KnTo O O2 n m B kx kx2 L L2 :=
  ⟨g.kn, h.fr.trans g.fr h.fp, fun i hi => (g.fp i hi).elim (h.fp i) fun h1 => .inr (Nat.le_trans h.fr.1 h1), g.cl, g.nt⟩
theorem KnTo.refl {O : Own} {n : Nat} {m : Mach} {B kx : Nat} {L : List Ent} (h : Kn O n m B kx L) (cl : ClO O) (nt : NT O) : KnTo O O n m B kx kx L L := ⟨h, Fr.refl _ _, fun _ h => .inl h, cl, nt⟩
theorem Kn.app {O : Own} {n : Nat} {m : Mach} {B kx : Nat} {L : List Ent} (h : Kn O n m B kx L) (A : Own) : Kn (O ++ A) n m B kx L := ⟨app_some h.ob, app_some h.kp, fun e he => app_some (h.el e he), h.nd, h.js, h.le, h.es⟩
theorem KnTo.app {O O' : Own} {n : Nat} {m : Mach} {B kx kx' : Nat} {L L' : List Ent} (h : KnTo O O' n m B kx kx' L L') {A : Own} (cl : ClO (O' ++ A)) (nt : NT A) : KnTo O (O' ++ A) n m B kx kx' L L' := ⟨h.kn.app A, h.fr.app A, h.fp, cl, h.nt.app nt⟩
section
variable {O : Own} {n : Nat} {m : Mach} {B kx : Nat} {L : List Ent}
theorem Kn.fp_lt (h : Kn O n m B kx L) {i : Nat} (hi : fpK n kx L i) : i < O.length := by
  rcases hi with rfl | rfl | ⟨e, he, rfl⟩
  · exact (List.getElem?_eq_some_iff.mp h.ob).1
  · exact (List.getElem?_eq_some_iff.mp h.kp).1
  · exact (List.getElem?_eq_some_iff.mp (h.el e he)).1
theorem Kn.not_lst (h : Kn O n m B kx L) {i : Nat} (hi : fpK n kx L i) {xs : List PV} (hx : O[i]? = some (.lst xs)) : False := by
  rcases hi with rfl | rfl | ⟨e, he, rfl⟩
  · have := h.ob.symm.trans hx; cases this
  · have := h.kp.symm.trans hx; cases this
  · have := (h.el e he).symm.trans hx; cases this
theorem Kn.ne1 (h : Kn O n m B kx L) : n ≠ kx := fun e => by
  have := h.ob.symm.trans (e ▸ h.kp)
  cases this
theorem Kn.ne2 (h : Kn O n m B kx L) {e : Ent} (he : e ∈ L) : n ≠ e.2.1 ∧ kx ≠ e.2.1 := by
  refine ⟨fun z => ?_, fun z => ?_⟩
  · have := h.ob.symm.trans (z ▸ h.el e he)
    cases this
  · have := h.kp.symm.trans (z ▸ h.el e he)
    cases this
end
theorem kpD_below {L : List Ent} {m : Nat} (h : ∀ e ∈ L, e.2.1 < m) : (AO.dT (kpD L)).below m = true := by
  show List.all _ _ = true
  refine List.all_eq_true.mpr fun kv hkv => ?_
  obtain ⟨e, he, rfl⟩ := List.mem_map.mp hkv
  exact decide_eq_true (h e he)
theorem Kn.frame {O O' : Own} {n : Nat} {m : Mach} {B kx : Nat} {L : List Ent} (h : Kn O n m B kx L) (f : ∀ i, fpK n kx L i → O'[i]? = O[i]?) : Kn O' n m B kx L :=
  ⟨(f n (.inl rfl)).trans h.ob, (f kx (.inr (.inl rfl))).trans h.kp, fun e he => (f _ (.inr (.inr ⟨e, he, rfl⟩))).trans (h.el e he), h.nd, h.js, h.le, h.es⟩
/-- a set more is kept -/
theorem Kn.more {O : Own} {n : Nat} {m : Mach} {B kx : Nat} {L : List Ent} (h : Kn O n m B kx L) (cl : ClO O) (nt : NT O) {rs : List Nat} (hn : rs ∉ L.map (·.1)) (hl : L.length < B) : KnTo O ((O ++ [AO.dK []]).set kx (.dT (kpD (L ++ [(rs, O.length, [])])))) n m B kx kx L (L ++ [(rs, O.length, [])]) := by
  have hkx := (List.getElem?_eq_some_iff.mp h.kp).1
  have hne : ∀ i, i ≠ kx → i < O.length → ((O ++ [AO.dK []]).set kx (.dT (kpD (L ++ [(rs, O.length, [])]))))[i]? = O[i]? := fun i hi hl => by
    rw [List.getElem?_set_ne (fun z => hi z.symm), List.getElem?_append_left hl]
  refine ⟨⟨?_, ?_, fun x hx => ?_, ?_, ?_, by rw [List.length_append]; exact hl, fun x hx => ?_⟩, ?_, fun i hi => ?_, ?_, ?_⟩
  · rw [hne n h.ne1 (List.getElem?_eq_some_iff.mp h.ob).1]; exact h.ob
  · exact List.getElem?_set_self (by rw [List.length_append]; omega)
  · rcases List.mem_append.mp hx with hx | hx
    · have he := h.el x hx
      rw [hne _ (h.ne2 hx).2.symm (List.getElem?_eq_some_iff.mp he).1]; exact he
    · rw [List.mem_singleton.mp hx]
      show ((O ++ [AO.dK []]).set kx _)[O.length]? = _
      rw [List.getElem?_set_ne (by omega), List.getElem?_append_right (Nat.le_refl _), Nat.sub_self]; rfl
  · rw [List.map_append]
    exact List.nodup_append.mpr ⟨h.nd, by simp, fun a ha b hb e => by
      have hb : b = rs := by simpa using hb
      subst hb
      exact hn (e ▸ ha)⟩
  · rw [List.map_append]
    refine List.nodup_append.mpr ⟨h.js, by simp, fun a ha b hb e => ?_⟩
    obtain ⟨x, hx, rfl⟩ := List.mem_map.mp ha
    have h1 := (List.getElem?_eq_some_iff.mp (h.el x hx)).1
    have h2 : b = O.length := by simpa using hb
    omega
  · rcases List.mem_append.mp hx with hx | hx
    · exact h.es x hx
    · rw [List.mem_singleton.mp hx]; exact ⟨List.nodup_nil, fun _ z => nomatch z⟩
  · exact ((Fr.refl _ _).app _).set (.inl (.inr (.inl rfl))) _
  · rcases hi with h1 | h1 | ⟨x, hx, rfl⟩
    · exact .inl (.inl h1)
    · exact .inl (.inr (.inl h1))
    · rcases List.mem_append.mp hx with hx | hx
      · exact .inl (.inr (.inr ⟨x, hx, rfl⟩))
      · rw [List.mem_singleton.mp hx]; exact .inr (Nat.le_refl _)
  · refine cl_set (cl_app cl rfl) (kpD_below fun x hx => ?_)
    rw [List.length_append]
    rcases List.mem_append.mp hx with hx | hx
    · have := (List.getElem?_eq_some_iff.mp (h.el x hx)).1
      omega
    · rw [List.mem_singleton.mp hx]; show O.length < O.length + 1; omega
  · exact (nt.app fun ob hob => by rw [List.mem_singleton.mp hob]; rfl).set rfl
/-! ### promises of k35 -/
end Al
namespace Al
open PySem PySem.Spec L2
open PyProof.Rows hiding St
theorem ty_DT {X : Ax} {O : Own} {n : Nat} {kvs : List (List Key × PV)} (hO : O[n]? = some (.dT kvs)) : TyA X "dict" (.o n) O := fun as F H v w r => by
  obtain ⟨q, rfl, h1, fn, ho, hh, ws, rfl, rr⟩ := own_at w hO r
  exact .inr (.inr (.inl ⟨rfl, .inr ⟨_, hh⟩⟩))
/-! ### some memories side by side -/
structure Mm where
  n : Nat
  m : Mach
  B : Nat
  kx : Nat
  L : List Ent
abbrev Mm.Kn (O : Own) (d : Mm) : Prop := Al.Kn O d.n d.m d.B d.kx d.L
abbrev Mm.fp (d : Mm) (i : Nat) : Prop := fpK d.n d.kx d.L i
structure Mem (O : Own) (ds : List Mm) : Prop where
  kn : ∀ d ∈ ds, d.Kn O
  dj : ds.Pairwise fun a b => ∀ i, a.fp i → ¬ b.fp i
theorem Mem.two {O : Own} {ds : List Mm} (h : Mem O ds) {j k : Nat} {a b : Mm} (ha : ds[j]? = some a) (hb : ds[k]? = some b) (hjk : j ≠ k) {i : Nat} (h1 : a.fp i) : ¬ b.fp i := by
  obtain ⟨l1, rfl⟩ := List.getElem?_eq_some_iff.mp ha
  obtain ⟨l2, rfl⟩ := List.getElem?_eq_some_iff.mp hb
  have dj := List.pairwise_iff_getElem.mp h.dj
  rcases Nat.lt_or_gt_of_ne hjk with h2 | h2
  · exact dj j k l1 l2 h2 i h1
  · exact fun h3 => dj k j l2 l1 h2 i h3 h1
theorem Mem.mk' {O : Own} {ds : List Mm} (kn : ∀ d ∈ ds, d.Kn O) (dj : ∀ (j k : Nat) (a b : Mm), ds[j]? = some a → ds[k]? = some b → j < k → ∀ i, a.fp i → ¬ b.fp i) : Mem O ds :=
  ⟨kn, List.pairwise_iff_getElem.mpr fun j k l1 l2 hjk i h1 => dj j k _ _ (List.getElem?_eq_getElem l1) (List.getElem?_eq_getElem l2) hjk i h1⟩
theorem Mem.go {O O' : Own} {ds : List Mm} {k : Nat} {d : Mm} {kx' : Nat} {L' : List Ent} (h : Mem O ds) (hk : ds[k]? = some d) (g : KnTo O O' d.n d.m d.B d.kx kx' d.L L') : Mem O' (ds.set k ⟨d.n, d.m, d.B, kx', L'⟩) := by
  have hkl := (List.getElem?_eq_some_iff.mp hk).1
  have other : ∀ (j : Nat) (a : Mm), j ≠ k → (ds.set k ⟨d.n, d.m, d.B, kx', L'⟩)[j]? = some a → ds[j]? = some a := fun j a hj ha => by
    rwa [List.getElem?_set_ne (fun e => hj e.symm)] at ha
  have self : ∀ a : Mm, (ds.set k ⟨d.n, d.m, d.B, kx', L'⟩)[k]? = some a → a = ⟨d.n, d.m, d.B, kx', L'⟩ := fun a ha => by
    rw [List.getElem?_set_self hkl] at ha
    exact (Option.some.inj ha).symm
  have lt : ∀ (j : Nat) (a : Mm), ds[j]? = some a → ∀ i, a.fp i → i < O.length := fun j a ha i hi => (h.kn a (List.mem_of_getElem? ha)).fp_lt hi
  refine Mem.mk' (fun a ha => ?_) fun j j' a b ha hb hjj i h1 h2 => ?_
  · obtain ⟨j, hj⟩ := List.getElem?_of_mem ha
    by_cases e : j = k
    · subst e
      rw [self a hj]; exact g.kn
    · have h3 := other j a e hj
      exact (h.kn a (List.mem_of_getElem? h3)).frame fun i hi => g.fr.2 i (lt j a h3 i hi) (h.two h3 hk e hi)
  · by_cases e : j = k
    · have hb2 := other j' b (by omega) hb
      subst e
      rw [self a ha] at h1
      rcases g.fp i h1 with h3 | h3
      · exact h.two hk hb2 (by omega) h3 h2
      · have := lt j' b hb2 i h2; omega
    · have ha2 := other j a e ha
      by_cases e' : j' = k
      · subst e'
        rw [self b hb] at h2
        rcases g.fp i h2 with h3 | h3
        · exact h.two ha2 hk e h1 h3
        · have := lt j a ha2 i h1; omega
      · exact h.two ha2 (other j' b e' hb) (by omega) h1 h2
theorem Mem.frame {O O' : Own} {ds : List Mm} (h : Mem O ds) (f : ∀ d ∈ ds, ∀ i, d.fp i → O'[i]? = O[i]?) : Mem O' ds := ⟨fun d hd => (h.kn d hd).frame (f d hd), h.dj⟩
theorem Mem.app {O : Own} {ds : List Mm} (h : Mem O ds) (A : Own) : Mem (O ++ A) ds := ⟨fun d hd => (h.kn d hd).app A, h.dj⟩
/-- what a memory's going leaves: lists -/
theorem KnTo.lst {O O' : Own} {n : Nat} {m : Mach} {B kx kx' : Nat} {L L' : List Ent} (g : KnTo O O' n m B kx kx' L L') (h : Kn O n m B kx L) {i : Nat} {xs : List PV} (hi : O[i]? = some (.lst xs)) : O'[i]? = some (.lst xs) := by
  rw [g.fr.2 i (List.getElem?_eq_some_iff.mp hi).1 (fun z => h.not_lst z hi)]
  exact hi
/-! ### promises of k35: the law's own -/
end Al
namespace Al
open PySem PySem.Spec L2
open PyProof.Rows hiding St
/-! ### the same memories, further on -/
def Sm (ds ds' : List Mm) : Prop := ds'.length = ds.length ∧ ∀ (j : Nat) (d : Mm), ds[j]? = some d → ∃ kx L, ds'[j]? = some ⟨d.n, d.m, d.B, kx, L⟩
theorem Sm.refl (ds : List Mm) : Sm ds ds := ⟨rfl, fun _ d h => ⟨d.kx, d.L, h⟩⟩
theorem Sm.set {ds ds' : List Mm} (h : Sm ds ds') {k : Nat} {n : Nat} {m : Mach} {B kx : Nat} {L : List Ent} (hk : ds'[k]? = some ⟨n, m, B, kx, L⟩) (kx' : Nat) (L' : List Ent) : Sm ds (ds'.set k ⟨n, m, B, kx', L'⟩) := by
  refine ⟨by rw [List.length_set]; exact h.1, fun j d hj => ?_⟩
  obtain ⟨kx2, L2, h2⟩ := h.2 j d hj
  by_cases e : k = j
  · subst e
    rw [hk] at h2
    cases h2
    exact ⟨kx', L', List.getElem?_set_self (List.getElem?_eq_some_iff.mp hk).1⟩
  · exact ⟨kx2, L2, by rw [List.getElem?_set_ne e]; exact h2⟩
theorem Sm.trans {a b c : List Mm} (h : Sm a b) (g : Sm b c) : Sm a c := ⟨g.1.trans h.1, fun j d hj => by
  obtain ⟨kx, L, h1⟩ := h.2 j d hj
  obtain ⟨kx2, L2, h2⟩ := g.2 j _ h1
  exact ⟨kx2, L2, h2⟩⟩
theorem Sm.ns {ds ds' : List Mm} (h : Sm ds ds') : (ds.map fun d => PV.o d.n) = ds'.map fun d => PV.o d.n := by
  refine List.ext_getElem? fun j => ?_
  rw [List.getElem?_map, List.getElem?_map]
  cases e : ds[j]? with
  | none => rw [List.getElem?_eq_none (by have := List.getElem?_eq_none_iff.mp e; have := h.1; omega)]
  | some d =>
    obtain ⟨kx, L, h1⟩ := h.2 j d e
    rw [h1]; rfl
theorem Mem.lst {O : Own} {ds : List Mm} (h : Mem O ds) (A : Own) (hn : ∀ ob ∈ A, isTupO ob = false) : Mem (O ++ A) ds := h.app A
abbrev insK (m : Mach) (B kx : Nat) : AO := .ins "Known" [("own", .d (mD m)), ("bound", .d (iD B)), ("kept", .o kx)]
theorem Kn.new {O : Own} {m : Mach} {B : Nat} : Kn (O ++ [insK m B (O.length + 1), .dT []]) O.length m B (O.length + 1) [] := ⟨get_at0, get_at 1, (fun _ h => nomatch h), List.nodup_nil, List.nodup_nil, Nat.zero_le _, (fun _ h => nomatch h)⟩
/-- a memory that came behind O leaves O -/
theorem KnTo.base {O O1 O2 : Own} {n : Nat} {m : Mach} {B kx kx' : Nat} {L L' : List Ent} (g : KnTo O1 O2 n m B kx kx' L L') (e : O1.take O.length = O) (hf : ∀ i, fpK n kx L i → O.length ≤ i) (hl : O.length ≤ O1.length) : O2.take O.length = O := by
  refine List.ext_getElem? fun i => ?_
  rw [List.getElem?_take]
  by_cases hi : i < O.length
  · rw [if_pos hi, g.fr.2 i (by omega) (fun z => by have := hf i z; omega)]
    have := congrArg (fun l : Own => l[i]?) e
    simp only [List.getElem?_take, if_pos hi] at this
    exact this
  · rw [if_neg hi, List.getElem?_eq_none (by omega)]
/-! ### fifty: the machine of 128 sets -/
end Al
namespace Al
open PySem PySem.Spec L2
open PyProof.Rows hiding St
/-! ### sorted(d) of a dict with int keys, however many -/
end Al
namespace Al
open PySem PySem.Spec L2
open PyProof.Rows hiding St
/-! ### where vectors have more than nought: the sets -/
/-! ### words lead by the told sets -/
end Al
namespace Al
open PySem PySem.Spec L2
open PyProof.Rows hiding St
/-! ### the told sets, frozen -/
end Al
namespace Al
open PySem PySem.Spec L2
open PyProof.Rows hiding St
/-! ### {k: v}; dict(list of pairs); len(set(list of texts)) -/
end Al
namespace Al
open PySem PySem.Spec L2
open PyProof.Rows hiding St
/-! ### promises of k37 -/
/-- what stands: two memories, a reader, the hand -/
structure St37 (O : Own) (ds : List Mm) (m : Mach) (h si rn q : Nat) (a s : Int) (z : Str) : Prop where
  mem : Mem O ds
  two : ds.length = 2
  ok : ∀ d ∈ ds, d.m = m ∧ 1 ≤ d.B ∧ d.B ≤ 4096
  hd : O[h]? = some (hnd a s)
  ls : O[si]? = some (.lst (ds.map fun d => PV.o d.n))
  rd : O[rn]? = some (RdI m z q)
  vs : O[q]? = some (rws m (cds z))
  hq : h ≠ q
  sq : si ≠ q
  len : z.length ≤ 400
  cl : ClO O
  nt : NT O
end Al
namespace Al
open PySem PySem.Spec L2
open PyProof.Rows hiding St
theorem Kn.not_ins {O : Own} {n : Nat} {m : Mach} {B kx : Nat} {L : List Ent} (h : Kn O n m B kx L) {i : Nat} (hi : fpK n kx L i) {m2 : Mach} {z : Str} {q : Nat} (hx : O[i]? = some (RdI m2 z q)) : False := by
  rcases hi with rfl | rfl | ⟨e, he, rfl⟩
  · have := h.ob.symm.trans hx
    cases this
  · have := h.kp.symm.trans hx; cases this
  · have := (h.el e he).symm.trans hx; cases this
theorem Mem.setN {O : Own} {ds : List Mm} (h : Mem O ds) {i : Nat} (hn : ∀ d ∈ ds, ¬ d.fp i) (X : AO) : Mem (O.set i X) ds := h.frame fun d hd j hj => List.getElem?_set_ne (fun e => by subst e; exact hn d hd hj)
theorem KnTo.rdr {O O' : Own} {n : Nat} {m : Mach} {B kx kx' : Nat} {L L' : List Ent} (g : KnTo O O' n m B kx kx' L L') (h : Kn O n m B kx L) {i : Nat} {m2 : Mach} {z : Str} {q : Nat} (hi : O[i]? = some (RdI m2 z q)) : O'[i]? = some (RdI m2 z q) := by
  rw [g.fr.2 i (List.getElem?_eq_some_iff.mp hi).1 (fun z => h.not_ins z hi)]
  exact hi
section
variable {O : Own} {ds : List Mm} {m : Mach} {h si rn q : Nat} {a s : Int} {z : Str}
theorem St37.rh (t : St37 O ds m h si rn q a s z) : rn ≠ h ∧ rn ≠ si ∧ rn ≠ q := by
  refine ⟨fun e => ?_, fun e => ?_, fun e => ?_⟩
  · have := t.rd.symm.trans (e ▸ t.hd); cases this
  · have := t.rd.symm.trans (e ▸ t.ls); cases this
  · have := t.rd.symm.trans (e ▸ t.vs); cases this
theorem St37.app (t : St37 O ds m h si rn q a s z) {A : Own} (cl : ClO (O ++ A)) (nt : NT A) : St37 (O ++ A) ds m h si rn q a s z :=
  ⟨t.mem.app A, t.two, t.ok, app_some t.hd, app_some t.ls, app_some t.rd, app_some t.vs, t.hq, t.sq, t.len, cl, t.nt.app nt⟩
theorem St37.back (t : St37 O ds m h si rn q a s z) : St37 (O.set rn (RdI m ⟨#[]⟩ O.length) ++ [rws m []]) ds m h si rn O.length a s ⟨#[]⟩ := by
  obtain ⟨r1, r2, r3⟩ := t.rh
  have hl := (List.getElem?_eq_some_iff.mp t.rd).1
  have ll : (O.set rn (RdI m ⟨#[]⟩ O.length)).length = O.length := List.length_set
  have gt : ∀ {i : Nat} {x : AO}, O[i]? = some x → i ≠ rn → (O.set rn (RdI m ⟨#[]⟩ O.length) ++ [rws m []])[i]? = some x := fun {i x} e hne => by
    refine app_some ?_
    rw [List.getElem?_set_ne (fun e2 => hne e2.symm)]; exact e
  have clA : ClO (O.set rn (RdI m ⟨#[]⟩ O.length) ++ [rws m []]) := by
    have c1 := cl_app (x := rws m []) t.cl (lst_below _)
    have c2 := cl_rdI (n := rn) (q := O.length) (m := m) (z := ⟨#[]⟩) c1 (by rw [List.length_append]; show O.length < O.length + 1; omega)
    rwa [List.set_append_left _ _ hl] at c2
  refine ⟨(t.mem.setN (fun d hd hi => (t.mem.kn d hd).not_ins hi t.rd) _).app _, t.two, t.ok, gt t.hd r1.symm, gt t.ls r2.symm, app_some (List.getElem?_set_self hl), ?_, ?_, ?_, Nat.zero_le _, clA, (t.nt.set rfl).app (fun ob hob => by rw [List.mem_singleton.mp hob]; rfl)⟩
  · have := get_at0 (O := O.set rn (RdI m ⟨#[]⟩ O.length)) (T := [rws m []])
    rw [ll] at this
    exact this
  · have := (List.getElem?_eq_some_iff.mp t.hd).1; omega
  · have := (List.getElem?_eq_some_iff.mp t.ls).1; omega
theorem St37.go (t : St37 O ds m h si rn q a s z) {O' : Own} {k : Nat} {d : Mm} {kx' : Nat} {L' : List Ent} (hk : ds[k]? = some d) (g : KnTo O O' d.n d.m d.B d.kx kx' d.L L') : St37 O' (ds.set k ⟨d.n, d.m, d.B, kx', L'⟩) m h si rn q a s z := by
  have hK := t.mem.kn d (List.mem_of_getElem? hk)
  have en : ((ds.set k ⟨d.n, d.m, d.B, kx', L'⟩).map fun d => PV.o d.n) = ds.map fun d => PV.o d.n := ((Sm.refl ds).set (n := d.n) (m := d.m) (B := d.B) (kx := d.kx) (L := d.L) hk kx' L').ns.symm
  refine ⟨t.mem.go hk g, by rw [List.length_set]; exact t.two, fun e he => ?_, g.lst hK t.hd, by rw [en]; exact g.lst hK t.ls, g.rdr hK t.rd, g.lst hK t.vs, t.hq, t.sq, t.len, g.cl, g.nt⟩
  rcases List.mem_or_eq_of_mem_set he with h1 | h1
  · exact t.ok e h1
  · rw [h1]; exact t.ok d (List.mem_of_getElem? hk)
end
end Al
namespace Al
open PySem PySem.Spec L2
open PyProof.Rows hiding St
/-! ### functions made in a def's body -/
/-- the heap H1 behind the making of a function: the object o at f, the code object at c', the table at P -/
structure MkH (H H1 : Hp) (P : Addr) (ps ps' : Array Value) (f c' : Addr) (o : HO) (q : Str) : Prop where
  old : ∀ b u, H b = some u → b ≠ P → H1 b = some u
  fresh : H f = none
  cf : c' ≠ f
  f1 : H1 f = some o
  c1 : H1 c' = some (LamX.CodeO c' q)
  cH : H c' = none ∨ H c' = some (LamX.CodeO c' q)
  p1 : H1 P = some (.tbl ps')
  tr : TriplesOk ps'.toList
  cd : ∀ (pos : Pos) (cv : Value), codeAmong pos ps'.toList = some cv → codeAmong pos ps.toList = some cv ∨ cv = .ref c'
section
variable {X : Cx} {pins : List (Addr × Obj)} {σ : L2.St} {H : Hp} {s : Shared} {c P : Addr} {q name : Str} {ps : Array Value} {params : Arguments} {scope : Scope} {pos : Pos} {E : Value → Shared → Prop} {Q : Value → Shared → Prop}
/-- the table is written, the code object is there, the function's object is laid -/
theorem mk_new {f c' : Addr} {H0 : Hp} {o : HO} (hP : H P = some (.tbl ps)) (ht : TriplesOk ps.toList) (nc : H c' = none) (nf : upd (upd H P (.tbl (ps ++ #[rawInt pos.line, rawInt pos.col, .ref c']))) c' (LamX.CodeO c' q) f = none) : MkH H (upd (upd (upd H P (.tbl (ps ++ #[rawInt pos.line, rawInt pos.col, .ref c']))) c' (LamX.CodeO c' q)) f o) P ps (ps ++ #[rawInt pos.line, rawInt pos.col, .ref c']) f c' o q := by
  have cf : c' ≠ f := fun e => by subst e; rw [upd_same] at nf; cases nf
  have nf1 := NdefX.upd_none nf
  have pf : P ≠ f := fun e => by subst e; rw [upd_same] at nf1; cases nf1
  have pc : P ≠ c' := ne_of_none hP nc
  have el : (ps ++ #[rawInt pos.line, rawInt pos.col, .ref c']).toList = ps.toList ++ [rawInt pos.line, rawInt pos.col, .ref c'] := by simp
  refine ⟨fun b u e hb => ?_, NdefX.upd_none nf1, cf, upd_same, by rw [upd_ne cf, upd_same], .inl nc, by rw [upd_ne pf, upd_ne pc, upd_same], ?_, fun p2 cv h => ?_⟩
  · rw [upd_ne (ne_of_none e (NdefX.upd_none nf1)), upd_ne (ne_of_none e nc), upd_ne hb]; exact e
  · rw [el]; exact PySem.TriplesOk_snoc _ _ _ _ ht
  · rw [el] at h
    exact LamX.among_app _ ht h
theorem mk_old {f c' : Addr} {o : HO} (hP : H P = some (.tbl ps)) (ht : TriplesOk ps.toList) (hc : H c' = some (LamX.CodeO c' q)) (nf : H f = none) : MkH H (upd H f o) P ps ps f c' o q := by
  refine ⟨fun b u e _ => ?_, nf, ne_of_none hc nf, upd_same, ?_, .inr hc, ?_, ht, fun _ _ h => .inl h⟩
  · rw [upd_ne (ne_of_none e nf)]; exact e
  · rw [upd_ne (ne_of_none hc nf)]; exact hc
  · rw [upd_ne (ne_of_none hP nf)]; exact hP
/-- a lambda's object just laid is known from now on -/
theorem inv_lam {F : LF} {o : Obj} {t' : Nat} {pm ctv : Value} (I : Inv X pins σ H s) (ho : o = PySem.W.kla_obj "<lambda>" F.qual F.params F.body F.scope F.cl pm F.c ctv) :
    Inv X pins σ (upd H s.heap.objs.size (LmO s.heap.objs.size F)) { s with heap := s.heap.push o, toks := t' } := by
  subst ho
  refine I.laid (a := s.heap.objs.size) (fun b u e => Heap.get?_push_of_some _ e) (Nat.le_refl _) ?_
  have e : (s.heap.push (PySem.W.kla_obj "<lambda>" F.qual F.params F.body F.scope F.cl pm F.c ctv)).get? s.heap.objs.size = some (PySem.W.kla_obj "<lambda>" F.qual F.params F.body F.scope F.cl pm F.c ctv) := Heap.get?_push_size _ rfl
  exact ⟨⟨pm, ctv, e⟩, ⟨_, e⟩, fun h1 h2 ⟨p, t, z⟩ st => ⟨p, t, st _ z⟩⟩
theorem mk_lam {body : Expr} (I : Inv X pins σ H s) (TB : LamX.TabB X.base X.mg c P) (hcode : X.env.code = .ref c) (hP : H P = some (.tbl ps)) (ht : TriplesOk ps.toList)
    (ha : ∀ (pos : Pos) (cv : Value), codeAmong pos ps.toList = some cv → ∃ d, cv = .ref d ∧ H d = some (LamX.CodeO d (X.env.qual ++ "<lambda>"))) (hdef : defaultsOf params X.env = ([], [])) (hfree : ∀ y ∈ scope.names, y.2 = .free → ∃ c, X.env.cells.lookup y.1 = some c)
    (k : ∀ (f c' : Addr) (ps' : Array Value) (H1 : Hp) (s' : Shared), Inv X pins σ H1 s' → MkH H H1 P ps ps' f c' (LmO f ⟨X.env.qual ++ "<lambda>", params, body, scope, cloFrom X.env.cells scope.names [], c'⟩) (X.env.qual ++ "<lambda>") → Q (.ref f) s') :
    wpAny (model X.prog X.w) X.A (eval (.Lambda params body scope pos) X.env) Q E s := by
  refine PySem.W.kla_eval hdef ?_
  have bP : s.heap.BuiltinsAt X.mg P := TB.bm.keeps I.bk
  have hP' : s.heap.get? P = some { cls := .none, data := .fields ps } := I.hok P _ hP
  cases hc : codeAmong pos ps.toList with
  | some cv =>
    obtain ⟨d, rfl, hd⟩ := ha pos cv hc
    refine PySem.W.kla_makeFunctionHit (c := c) (P := P) (ps := ps) (mg := X.mg) (closure_ok hfree) I.ok.glob (I.mod.glob.keeps I.bk) hcode (TB.code.keeps I.bk) hP' ht hc bP fun ctv h' tk hx hsz => ?_
    have I1 : Inv X pins σ H { s with heap := h', toks := tk } := I.kept hx
    have nf : H h'.objs.size = none := I1.hok.fresh (Nat.le_refl _)
    exact k _ d _ _ _ (inv_lam (F := ⟨X.env.qual ++ "<lambda>", params, body, scope, cloFrom X.env.cells scope.names [], d⟩) (t' := tk) (pm := (X.mg "__name__").getD .none) (ctv := ctv) I1 rfl) (mk_old hP ht hd nf)
  | none =>
    refine PySem.W.kla_makeFunction (c := c) (P := P) (ps := ps) (mg := X.mg) (closure_ok hfree) I.ok.glob (I.mod.glob.keeps I.bk) hcode (TB.code.keeps I.bk) hP' ht hc TB.gP bP fun c' ctv h' tk hx hge hlt hrec htb => ?_
    obtain ⟨d, oc, vs, t, e, hoc, hd, hv⟩ := hrec
    cases e
    have nc : H c' = none := I.hok.fresh hge
    have I1 := LamX.inv_table (q := X.env.qual ++ "<lambda>") (more := #[rawInt pos.line, rawInt pos.col, .ref c']) (h' := h') (t' := tk) I hP (fun b o hb e => hx b o hb e) htb hge ⟨oc, vs, t, hoc, hd, hv⟩
    have nf := I1.hok.fresh (Nat.le_refl _)
    exact k _ c' _ _ _ (inv_lam (F := ⟨X.env.qual ++ "<lambda>", params, body, scope, cloFrom X.env.cells scope.names [], c'⟩) (t' := tk) (pm := (X.mg "__name__").getD .none) (ctv := ctv) I1 rfl) (mk_new (H0 := H) hP ht nc nf)
end
theorem codeO_lst {a : Addr} {q : Str} {h : HO} (e : LamX.CodeO a q = h) : (∀ xs, h ≠ .lst xs) ∧ (∀ xs, h ≠ .tup xs) ∧ (∀ xs, h ≠ .dK xs) ∧ (∀ xs, h ≠ .dT xs) ∧ (∀ C d xs, h ≠ .ins C d xs) ∧ ∀ xs, h ≠ .tbl xs := by
  subst e
  refine ⟨?_, ?_, ?_, ?_, ?_, ?_⟩ <;> (unfold LamX.CodeO; intros; intro z; cases z)
/-- what stands when a function was made -/
theorem Wd.made {K : KF} {O : Own} {as : List Addr} {F H H1 : Hp} (w : Wd K O as F H) {j : Nat} {P : Addr} {q : Str} {ps ps' : Array Value} {f : Addr} {G : CF} (hj : O[j]? = some (.tbl P q)) (hps : H P = some (.tbl ps)) (m : MkH H H1 P ps ps' f G.c (CFO f G) q) (hq : G.qual = q) :
    ∃ F', Wd K O as F' H1 ∧ Same F F' ∧ RPV K F' as (.fn G) (.ref f) := by
  subst hq
  obtain ⟨a0, ha0, rfl, fP, ps0, hp0, ht0, hc0⟩ := w.at_ hj
  have ff : F f = none := w.ex.free m.fresh
  have fc : F G.c = none ∨ F G.c = some (LamX.CodeO G.c G.qual) := by
    cases e : F G.c with
    | none => exact .inl rfl
    | some u =>
      have h1 := w.ex _ _ e
      rcases m.cH with h2 | h2
      · rw [h1] at h2; cases h2
      · exact .inr (by rw [← h2, h1])
  have sm : Same F (upd (upd F G.c (LamX.CodeO G.c G.qual)) f (CFO f G)) := fun b u e => by
    rw [upd_ne (ne_of_none e ff)]
    by_cases hb : b = G.c
    · subst hb
      rw [upd_same]
      rcases fc with h | h
      · rw [e] at h; cases h
      · rw [← e, h]
    · rw [upd_ne hb]; exact e
  have off : ∀ a u, H a = some u → u ≠ LamX.CodeO G.c G.qual → a ≠ f ∧ a ≠ G.c := fun a u e hne => by
    refine ⟨ne_of_none e m.fresh, fun z => ?_⟩
    subst z
    rcases m.cH with h | h
    · rw [e] at h; cases h
    · exact hne (Option.some.inj (e.symm.trans h))
  refine ⟨upd (upd F G.c (LamX.CodeO G.c G.qual)) f (CFO f G), ⟨w.fa, w.fF.trans sm, w.len, w.nd, fun b u e => ?_, fun i a ob h1 h2 => ?_⟩, sm, f, rfl, upd_same, by rw [upd_ne m.cf, upd_same]⟩
  · by_cases hb : b = f
    · subst hb; rw [upd_same] at e; rw [m.f1]; exact e
    · rw [upd_ne hb] at e
      by_cases hc : b = G.c
      · subst hc; rw [upd_same] at e; rw [m.c1]; exact e
      · rw [upd_ne hc] at e
        exact m.old b u (w.ex b u e) fun z => by subst z; rw [fP] at e; cases e
  · have q0 := w.own i a ob h1 h2
    by_cases hij : i = j
    · subst hij
      have e1 : ob = .tbl a0 G.qual := Option.some.inj (h1.symm.trans hj)
      have e2 : a = a0 := Option.some.inj (h2.symm.trans ha0)
      subst e1 e2
      have ps0e : ps0 = ps := by
        have := hp0.symm.trans hps
        cases this; rfl
      subst ps0e
      obtain ⟨n1, n2⟩ := off a _ hp0 fun z => (codeO_lst z.symm).2.2.2.2.2 _ rfl
      refine ⟨rfl, by rw [upd_ne n1, upd_ne n2]; exact fP, ps', m.p1, m.tr, fun pos cv hc => ?_⟩
      rcases m.cd pos cv hc with h | h
      · obtain ⟨d, e3, e4⟩ := hc0 pos cv h
        exact ⟨d, e3, sm _ _ e4⟩
      · exact ⟨G.c, h, by rw [upd_ne m.cf, upd_same]⟩
    · have hne : a ≠ a0 := fun z => hij (nodup_at w.nd (z ▸ h2) ha0)
      obtain ⟨u, hu⟩ := q0.any
      have hh : H1 a = H a := by rw [hu]; exact m.old a u hu hne
      cases ob with
      | gone => exact ⟨u, by rw [hh]; exact hu⟩
      | tbl P2 q2 =>
        obtain ⟨e1, fa, ps2, hp2, t2, c2⟩ := q0
        obtain ⟨n1, n2⟩ := off a _ hp2 fun z => (codeO_lst z.symm).2.2.2.2.2 _ rfl
        exact OwnAt.step (ob := .tbl P2 q2) sm (Gr.refl _) hh (fun z => by rw [upd_ne n1, upd_ne n2]; exact z) ⟨e1, fa, ps2, hp2, t2, c2⟩
      | xo R =>
        obtain ⟨fa, h9, e9, r⟩ := q0
        obtain ⟨n1, n2⟩ := off a _ e9 (R.nc _ _ r)
        exact OwnAt.step (ob := .xo R) sm (Gr.refl _) hh (fun z => by rw [upd_ne n1, upd_ne n2]; exact z) ⟨fa, h9, e9, r⟩
      | lst xs =>
        obtain ⟨fa, h9, e9, vs, rfl, r⟩ := q0
        obtain ⟨n1, n2⟩ := off a _ e9 fun z => (codeO_lst z.symm).1 _ rfl
        exact OwnAt.step (ob := .lst xs) sm (Gr.refl _) hh (fun z => by rw [upd_ne n1, upd_ne n2]; exact z) ⟨fa, _, e9, vs, rfl, r⟩
      | tup xs =>
        obtain ⟨fa, h9, e9, vs, rfl, r⟩ := q0
        obtain ⟨n1, n2⟩ := off a _ e9 fun z => (codeO_lst z.symm).2.1 _ rfl
        exact OwnAt.step (ob := .tup xs) sm (Gr.refl _) hh (fun z => by rw [upd_ne n1, upd_ne n2]; exact z) ⟨fa, _, e9, vs, rfl, r⟩
      | dK xs =>
        obtain ⟨fa, h9, e9, vs, rfl, r⟩ := q0
        obtain ⟨n1, n2⟩ := off a _ e9 fun z => (codeO_lst z.symm).2.2.1 _ rfl
        exact OwnAt.step (ob := .dK xs) sm (Gr.refl _) hh (fun z => by rw [upd_ne n1, upd_ne n2]; exact z) ⟨fa, _, e9, vs, rfl, r⟩
      | dT xs =>
        obtain ⟨fa, h9, e9, vs, rfl, r⟩ := q0
        obtain ⟨n1, n2⟩ := off a _ e9 fun z => (codeO_lst z.symm).2.2.2.1 _ rfl
        exact OwnAt.step (ob := .dT xs) sm (Gr.refl _) hh (fun z => by rw [upd_ne n1, upd_ne n2]; exact z) ⟨fa, _, e9, vs, rfl, r⟩
      | ins c xs =>
        obtain ⟨fa, h9, e9, C, dx, ws, mc, rfl, r⟩ := q0
        obtain ⟨n1, n2⟩ := off a _ e9 fun z => (codeO_lst z.symm).2.2.2.2.1 _ _ _ rfl
        exact OwnAt.step (ob := .ins c xs) sm (Gr.refl _) hh (fun z => by rw [upd_ne n1, upd_ne n2]; exact z) ⟨fa, _, e9, C, dx, ws, mc, rfl, r⟩
end Al
namespace Al
open PySem PySem.Spec L2
open PyProof.Rows hiding St
/-! ### def and lambda in a def's body -/
section
variable {X : Ax} {ρ : Env1} {O : Own} {Φ : PV → Own → Prop} {D : AEnds}
/-- the table's owned object, as the heap has it -/
theorem tbl_at {K : KF} {as : List Addr} {F H : Hp} (w : Wd K O as F H) {j : Nat} {P : Addr} {q : Str} (hj : O[j]? = some (.tbl P q)) :
    ∃ ps : Array Value, H P = some (.tbl ps) ∧ TriplesOk ps.toList ∧ ∀ (pos : Pos) (cv : Value), codeAmong pos ps.toList = some cv → ∃ c, cv = .ref c ∧ H c = some (LamX.CodeO c q) := by
  obtain ⟨a, _, rfl, _, ps, h1, h2, h3⟩ := w.at_ hj
  exact ⟨ps, h1, h2, fun pos cv hc => let ⟨c, e1, e2⟩ := h3 pos cv hc; ⟨c, e1, w.ex _ _ e2⟩⟩
def tMake (P : Addr) (q : Str) (mk : Addr → CF) (Q : Addr → Hp → Prop) : Hp → Prop := fun H => ∃ ps : Array Value, H P = some (.tbl ps) ∧ TriplesOk ps.toList ∧ (∀ (pos : Pos) (cv : Value), codeAmong pos ps.toList = some cv → ∃ c, cv = .ref c ∧ H c = some (LamX.CodeO c q)) ∧
  ∀ (f c' : Addr) (ps' : Array Value) (H1 : Hp), MkH H H1 P ps ps' f c' (CFO f (mk c')) q → Q f H1
theorem tMake_of {as : List Addr} {F H : Hp} (w : Wd X.k O as F H) {j : Nat} {P : Addr} {q : Str} {mk : Addr → CF} {Q : Addr → Hp → Prop} (hj : O[j]? = some (.tbl P q)) (hm : ∀ c, (mk c).c = c ∧ (mk c).qual = q)
    (h : ∀ (f c' : Addr) (H1 F' : Hp), Wd X.k O as F' H1 → Same F F' → RPV X.k F' as (.fn (mk c')) (.ref f) → Q f H1) : tMake P q mk Q H := by
  obtain ⟨ps, h1, h2, h3⟩ := tbl_at w hj
  refine ⟨ps, h1, h2, h3, fun f c' ps' H1 m => ?_⟩
  obtain ⟨e1, e2⟩ := hm c'
  obtain ⟨F', w', s', r'⟩ := w.made (G := mk c') hj h1 (by rw [e1]; exact m) e2
  exact h f c' H1 F' w' s' r'
theorem pe_mklam {X : Cx} {c P : Addr} {params : Arguments} {body : Expr} {scope : Scope} {pos : Pos} (TB : LamX.TabB X.base X.mg c P) (hcode : X.env.code = .ref c) (hdef : defaultsOf params X.env = ([], []))
    (hfree : ∀ y ∈ scope.names, y.2 = .free → X.env.scope.names.lookup y.1 = some .cell ∨ X.env.scope.names.lookup y.1 = some .free) :
    PE X (.Lambda params body scope pos) (fun _ H Q => tMake P (X.env.qual ++ "<lambda>") (fun c' => .lm ⟨X.env.qual ++ "<lambda>", params, body, scope, cloFrom X.env.cells scope.names [], c'⟩) (fun f H1 => Q (.ref f) H1) H) := by
  refine ⟨fun pins s σ H Q I h => ?_⟩
  obtain ⟨ps, h1, h2, h3, k⟩ := h
  refine mk_lam I TB hcode h1 h2 h3 hdef (fun y hy e => (hfree y hy e).elim (fun z => I.ok.has _ (.inl z)) fun z => I.ok.has _ (.inr z)) fun f c' ps' H1 s' I1 m => ?_
  exact ⟨.ref f, H1, I1, rfl, k f c' ps' H1 m⟩
theorem ae_lam {j : Nat} {c P : Addr} {params : Arguments} {body : Expr} {scope : Scope} {pos : Pos} (TB : LamX.TabB X.c.base X.c.mg c P) (hcode : X.c.env.code = .ref c) (hj : O[j]? = some (.tbl P (X.c.env.qual ++ "<lambda>")))
    (hfree : ∀ y ∈ scope.names, y.2 = .free → X.c.env.scope.names.lookup y.1 = some .cell ∨ X.c.env.scope.names.lookup y.1 = some .free)
    (k : ∀ c', Φ (.fn (.lm ⟨X.c.env.qual ++ "<lambda>", params, body, scope, cloFrom X.c.env.cells scope.names [], c'⟩)) O)
    (hdef : defaultsOf params X.c.env = ([], []) := by rfl) : AE X (.Lambda params body scope pos) ρ O Φ := fun as F σ H w r =>
  tE_of (pe_mklam TB hcode hdef hfree) (tMake_of w hj (fun c => ⟨rfl, rfl⟩) fun f c' H1 F' w' s' r' => ⟨_, O, as, F', w', Gr.refl _, s', r', k c'⟩)
end
end Al
namespace Al
open PySem PySem.Spec L2
open PyProof.Rows hiding St
/-! ### a frame with captured cells and cells of its own -/
theorem cells_app : ∀ (names : List (Str × NameKind)) (n : Nat) (acc cl : List (Str × Addr)), cellsFrom n names (acc ++ cl) = cellsFrom n names acc ++ cl
  | [], _, _, _ => rfl
  | (x, k) :: r, n, acc, cl => by
    unfold cellsFrom
    split
    · exact cells_app r (n + 1) ((x, n) :: acc) cl
    · exact cells_app r n acc cl
theorem cells_own : ∀ {names : List (Str × NameKind)} {n : Nat} {acc : List (Str × Addr)} {x : Str} {c : Addr}, (x, c) ∈ cellsFrom n names acc → (x, c) ∈ acc ∨ (x, NameKind.cell) ∈ names
  | [], _, _, _, _, h => .inl h
  | (y, k) :: r, n, acc, x, c, h => by
    unfold cellsFrom at h
    split at h
    · rename_i hk
      rcases cells_own h with h1 | h1
      · rcases List.mem_cons.mp h1 with e | h2
        · cases e
          exact .inr (List.mem_cons.mpr (.inl (by rw [eq_of_beq hk])))
        · exact .inl h2
      · exact .inr (List.mem_cons_of_mem _ h1)
    · rcases cells_own h with h1 | h1
      · exact .inl h1
      · exact .inr (List.mem_cons_of_mem _ h1)
section
variable {M : Model} {A : Around} {E : Value → Shared → Prop} {s : Shared}
/-- a frame is made: captured cells cl, new ones, the parameters bound -/
theorem nfe_both {scope : Scope} {globals : Addr} {cl : List (Str × Addr)} {binds : List (Str × Value)} {qual : Str} {func : Option Addr} {code : Value} {builtins : Addr} {Q : Env → Shared → Prop}
    (hk : scope.kind = .function) (hl : ∀ x ∈ binds, scope.names.lookup x.1 = some .local)
    (hQ : ∀ (h' : Heap) (tk : Tok), h'.Ns s.heap.objs.size (fun x => binds.reverse.lookup x) → (∀ b o, s.heap.get? b = some o → h'.get? b = some o) →
      (∀ n c, (n, c) ∈ cellsFrom (s.heap.objs.size + 1) scope.names [] → h'.IsCell c none ∧ s.heap.objs.size < c) → (cellsFrom (s.heap.objs.size + 1) scope.names []).Pairwise (fun x y => x.2 ≠ y.2) → Heap.SameBut s.heap.objs.size (pushCells (s.heap.push { cls := .type "frame", data := .dict #[] }) scope.names) h' →
      Q (newEnv scope s.heap.objs.size globals (cellsFrom (s.heap.objs.size + 1) scope.names [] ++ cl) qual func code none builtins) { s with heap := h', toks := tk }) :
    wpAny M A (newFunctionEnv scope globals cl binds qual func code none builtins) Q E s := by
  simp only [newFunctionEnv, Option.isSome_none, Bool.false_eq_true, if_false]
  refine wpAny_bind (wpAny_alloc ?_)
  refine wpAny_bind (wpAny_layCells _ (fun name kind cells => by cases hkc : kind == NameKind.cell <;> simp [hkc]) _ _ _ _ ?_)
  have ok := cellsFrom_ok scope.names (s.heap.push { cls := .type "frame", data := .dict #[] }) (s.heap.objs.size + 1) [] ⟨fun _ _ hm => (nomatch hm), List.Pairwise.nil⟩ (by rw [Heap.size_push]; exact Nat.le_refl _)
  rw [Heap.size_push] at ok
  have e0 : cellsFrom (s.heap.objs.size + 1) scope.names cl = cellsFrom (s.heap.objs.size + 1) scope.names [] ++ cl := cells_app scope.names _ [] cl
  rw [show ({ s with heap := s.heap.push { cls := .type "frame", data := .dict #[] } } : Shared).heap.objs.size = s.heap.objs.size + 1 from Heap.size_push .., e0]
  have ns0 : (pushCells (s.heap.push { cls := .type "frame", data := .dict #[] }) scope.names).Ns s.heap.objs.size fun _ => none := (Heap.Ns.new s.heap (.type "frame")).keeps (pushCells_keeps _ _)
  refine wpAny_bind ?_
  refine wpAny_forIn_list _ (fun rest _ s' => ∃ done h' tk, binds = done ++ rest ∧ s' = { s with heap := h', toks := tk } ∧ h'.Ns s.heap.objs.size (fun x => done.reverse.lookup x) ∧
    Heap.SameBut s.heap.objs.size (pushCells (s.heap.push { cls := .type "frame", data := .dict #[] }) scope.names) h') _ ?_ ?_ binds _ ⟨[], _, _, rfl, rfl, ns0, Heap.SameBut.refl ..⟩
  · rintro ⟨name, v⟩ rest _ s' ⟨done, h', tk, hb, rfl, hns, hsb⟩
    have hkl : Env.kindOf (newEnv scope s.heap.objs.size globals (cellsFrom (s.heap.objs.size + 1) scope.names [] ++ cl) qual func code none builtins) name = some .local := hl (name, v) (by rw [hb]; simp)
    have hp : ((newEnv scope s.heap.objs.size globals (cellsFrom (s.heap.objs.size + 1) scope.names [] ++ cl) qual func code none builtins).scope.kind == .class || ((newEnv scope s.heap.objs.size globals (cellsFrom (s.heap.objs.size + 1) scope.names [] ++ cl) qual func code none builtins).scope.kind == .module &&
        (newEnv scope s.heap.objs.size globals (cellsFrom (s.heap.objs.size + 1) scope.names [] ++ cl) qual func code none builtins).locals != (newEnv scope s.heap.objs.size globals (cellsFrom (s.heap.objs.size + 1) scope.names [] ++ cl) qual func code none builtins).globals)) = false := by
      show (scope.kind == .class || (scope.kind == .module && _)) = false
      rw [hk]; rfl
    refine wpAny_bind ?_
    show wpAny _ _ (storeName (newEnv scope s.heap.objs.size globals (cellsFrom (s.heap.objs.size + 1) scope.names [] ++ cl) qual func code none builtins) name v) _ _ _
    rw [storeName_local hkl hp v]
    refine wpAny_nsSet hns fun h2 hn2 hs2 => wpAny_pure ⟨done ++ [(name, v)], h2, _, by simp [hb], rfl, ?_, hsb.trans hs2⟩
    rw [lookup_reverse_snoc]
    exact hn2
  · rintro _ s' ⟨done, h', tk, hb, rfl, hns, hsb⟩
    rw [List.append_nil] at hb
    subst hb
    refine wpAny_pure (hQ h' tk hns (fun b o e => ?_) (fun n c hm => ?_) ok.apart hsb)
    · exact hsb.extBut b o (Nat.ne_of_lt (Heap.lt_size e)) (pushCells_keeps _ _ b o (Heap.get?_push_of_some _ e))
    · obtain ⟨h1, h2⟩ := ok.empty n c hm
      exact ⟨h1.sameBut hsb (Nat.ne_of_gt h2), h2⟩
end
/-- the names of a function made in a def: the parameters, then the captured ones, then the others -/
structure BScope (N ps fr : List Str) (sc : Scope) : Prop where
  kind : sc.kind = .function
  co : sc.isCoroutine = false
  gen : sc.isGenerator = false
  nd : N.Nodup
  pre : N.take (ps.length + fr.length) = ps ++ fr
  par : ∀ x ∈ ps, sc.names.lookup x = some .local
  ndn : (sc.names.map (·.1)).Nodup
  free : ∀ y ∈ sc.names, y.2 = .free → y.1 ∈ fr
  frk : ∀ x ∈ fr, sc.names.lookup x = some .free
def bscB (N ps fr : List Str) (sc : Scope) : Bool :=
  decide (sc.kind = .function) && !sc.isCoroutine && !sc.isGenerator && decide N.Nodup && decide (N.take (ps.length + fr.length) = ps ++ fr) && ps.all (fun x => decide (sc.names.lookup x = some .local)) && decide (sc.names.map (·.1)).Nodup && sc.names.all (fun y => !decide (y.2 = .free) || decide (y.1 ∈ fr)) && fr.all (fun x => decide (sc.names.lookup x = some .free))
theorem bscope_by {N ps fr : List Str} {sc : Scope} (h : bscB N ps fr sc = true) : BScope N ps fr sc := by
  unfold bscB at h
  simp only [Bool.and_eq_true, Bool.not_eq_true', decide_eq_true_eq, List.all_eq_true, Bool.or_eq_true, decide_eq_false_iff_not] at h
  obtain ⟨⟨⟨⟨⟨⟨⟨⟨h1, h2⟩, h3⟩, h4⟩, h5⟩, h6⟩, h7⟩, h8⟩, h9⟩ := h
  exact ⟨h1, h2, h3, h4, h5, h6, h7, fun y hy e => (h8 y hy).elim (fun z => absurd e z) id, h9⟩
theorem lookup_app {α : Type} {l m : List (Str × α)} {x : Str} : (l ++ m).lookup x = match l.lookup x with | some a => some a | none => m.lookup x := by
  rw [List.lookup_append]
  cases l.lookup x <;> rfl
theorem kind_one {l : List (Str × NameKind)} (nd : (l.map (·.1)).Nodup) {x : Str} {k k' : NameKind} (h1 : (x, k) ∈ l) (h2 : l.lookup x = some k') : k = k' := by
  have h3 := PySem.mem_of_lookup h2
  induction l with
  | nil => cases h1
  | cons y l ih =>
    rw [List.map_cons, List.nodup_cons] at nd
    rcases List.mem_cons.mp h1 with e1 | h1
    · rcases List.mem_cons.mp h3 with e2 | h3
      · rw [← e1] at e2; cases e2; rfl
      · exact absurd (by rw [← e1]; exact List.mem_map.mpr ⟨_, h3, rfl⟩) nd.1
    · rcases List.mem_cons.mp h3 with e2 | h3
      · exact absurd (by rw [← e2]; exact List.mem_map.mpr ⟨_, h1, rfl⟩) nd.1
      · refine ih nd.2 h1 ?_ h3
        rw [List.lookup_cons] at h2
        split at h2
        · rename_i hb
          have : x = y.1 := eq_of_beq hb
          exact absurd (by rw [← this]; exact List.mem_map.mpr ⟨_, h1, rfl⟩) nd.1
        · exact h2
abbrev CF.scope : CF → Scope
  | .nd F => F.scope
  | .lm F => F.scope
abbrev CF.cl : CF → List (Str × Addr)
  | .nd F => F.cl
  | .lm F => F.cl
abbrev envB (G : CF) (f L : Addr) : Env := PySem.W.envX G.qual G.scope L f (.ref G.c) (cellsFrom (L + 1) G.scope.names [] ++ G.cl)
/-- the context of its body, at its entry -/
def bcx (CX : CXT) (P : Program) (w : World) (K : PySem.W.Frag) (mg : Str → Option Value) (base : Heap) (N : List Str) (G : CF) (f : Addr) (A : Around) (outer : List Env) (s : Shared) (H : Hp) (E : XK) : Cx :=
  { prog := P, w := w, K := K, mg := mg, base := base, A := A.deeper (envB G f s.heap.objs.size), N := N, s_0 := s, H_0 := H, env := envB G f s.heap.objs.size, outer := outer, stack := envB G f s.heap.objs.size :: outer, ex := [], calm := true, fn := fun y => G.scope.names.lookup y == some .cell, pn := [],
    xe := fun e s' => wpAny (model P w) (A.deeper (envB G f s.heap.objs.size)) (leaving (envB G f s.heap.objs.size) e) (fun _ s'' => CX outer H s E e s'') (fun e' s'' => CX outer H s E e' s'') s' }
section
variable {CX : CXT} {P : Program} {w : World} {K : PySem.W.Frag} {mg : Str → Option Value} {base : Heap} {N ps fr : List Str} {G : CF} {f : Addr} {A : Around} {outer : List Env} {s : Shared} {H : Hp} {E : XK} {us : List Value} {vs : List V} {ws : List (Option V)}
theorem inv_startB {h1 : Heap} {tk : Nat} (S : BScope N ps fr G.scope) (hd : A.handled = none) (e0 : Env0 P w K mg base A outer s H) (hl : vs.length = ps.length) (r : Vals vs us) (C : NdefX.CellsAt G.cl fr ws s.heap H) (hns : h1.Ns s.heap.objs.size fun y => (ps.zip us).reverse.lookup y)
    (kp : ∀ b o, s.heap.get? b = some o → h1.get? b = some o) (own : ∀ n c, (n, c) ∈ cellsFrom (s.heap.objs.size + 1) G.scope.names [] → h1.IsCell c none ∧ s.heap.objs.size < c) (ap : (cellsFrom (s.heap.objs.size + 1) G.scope.names []).Pairwise (fun x y => x.2 ≠ y.2)) :
    Inv (bcx CX P w K mg base N G f A outer s H E) [] (NdefX.startF N vs ws) H { s with heap := h1, toks := tk } := by
  have hpl : ps.length + fr.length ≤ N.length := by
    have q := congrArg List.length S.pre
    rw [List.length_take, List.length_append] at q
    omega
  have noA : ∀ b : Addr, b ∉ (bcx CX P w K mg base N G f A outer s H E).ex := fun b z => absurd (show b ∈ ([] : List Addr) from z) (by simp)
  have kpC : ∀ {c : Addr} {v : Option Value}, s.heap.IsCell c v → h1.IsCell c v := fun x => x.keeps kp
  have capLt : ∀ {y c}, G.cl.lookup y = some c → c < s.heap.objs.size := fun {y c} e => by
    obtain ⟨_, v, z⟩ := C.all y c e
    exact z.lt
  have ownN : ∀ {y c}, (cellsFrom (s.heap.objs.size + 1) G.scope.names []).lookup y = some c → (y, NameKind.cell) ∈ G.scope.names := fun {y c} e => by
    rcases cells_own (PySem.mem_of_lookup e) with h | h
    · cases h
    · exact h
  have split : ∀ {y c}, (cellsFrom (s.heap.objs.size + 1) G.scope.names [] ++ G.cl).lookup y = some c → (cellsFrom (s.heap.objs.size + 1) G.scope.names []).lookup y = some c ∨ G.cl.lookup y = some c := fun {y c} e => by
    rw [lookup_app] at e
    cases h : (cellsFrom (s.heap.objs.size + 1) G.scope.names []).lookup y with
    | some a => rw [h] at e; exact .inl e
    | none => rw [h] at e; exact .inr e
  have capLook : ∀ {y c}, y ∈ fr → G.cl.lookup y = some c → (cellsFrom (s.heap.objs.size + 1) G.scope.names [] ++ G.cl).lookup y = some c := fun {y c} hy e => by
    rw [lookup_app]
    cases h : (cellsFrom (s.heap.objs.size + 1) G.scope.names []).lookup y with
    | none => exact e
    | some a => exact absurd (kind_one S.ndn (ownN h) (S.frk y hy)) (by decide)
  refine ⟨⟨e0.mod, S.kind, rfl, rfl, Nat.le_refl _, fun x y c e1 e2 => ?_, fun y hy => ?_, fun y c z e => ?_, fun _ => hd, Around.frames_deeper e0.frames, .inr ⟨rfl, rfl⟩, fun b z => absurd z (noA b), e0.bs, e0.bsz, fun b _ _ => noA b, fun b z => absurd z (noA b), e0.funs, e0.frf⟩,
    rfl, e0.bare, Un.kept kp, ⟨_, hns, fun i y v e1 e2 e3 => ?_⟩, fun y c e => ?_, e0.hok.fresh (Nat.le_refl _), fun y c e => ?_, fun q hq => absurd (show q ∈ ([] : List (Addr × Obj)) ++ [] from hq) (by simp), e0.hok.kept kp, ?_⟩
  · rcases split e1 with a1 | a1 <;> rcases split e2 with a2 | a2
    · exact name_of_addr ap (PySem.mem_of_lookup a1) (PySem.mem_of_lookup a2)
    · exact absurd (Nat.lt_trans (own x c (PySem.mem_of_lookup a1)).2 (capLt a2)) (Nat.lt_irrefl _)
    · exact absurd (Nat.lt_trans (own y c (PySem.mem_of_lookup a2)).2 (capLt a1)) (Nat.lt_irrefl _)
    · exact C.inj x y c a1 a2
  · have hy : G.scope.names.lookup y = some .cell ∨ G.scope.names.lookup y = some .free := hy
    rcases hy with hy | hy
    · obtain ⟨c, hc⟩ := cell_has (n := s.heap.objs.size + 1) hy
      exact ⟨c, by show List.lookup y (_ ++ _) = _; rw [lookup_app, hc]⟩
    · obtain ⟨i, hi⟩ := List.mem_iff_getElem?.mp (S.free _ (PySem.mem_of_lookup hy) rfl)
      obtain ⟨c, hc, _⟩ := C.has i y hi
      exact ⟨c, capLook (List.mem_of_getElem? hi) hc⟩
  · have z : (G.scope.names.lookup y == some NameKind.cell) = true := z
    have hy : G.scope.names.lookup y = some .cell := by simpa using z
    obtain ⟨c', hc⟩ := cell_has (n := s.heap.objs.size + 1) hy
    have e : (cellsFrom (s.heap.objs.size + 1) G.scope.names [] ++ G.cl).lookup y = some c := e
    rw [lookup_app, hc] at e
    obtain rfl : c' = c := Option.some.inj e
    exact Nat.le_of_lt (own y c' (PySem.mem_of_lookup hc)).2
  · have e1 : N[i]? = some y := e1
    have clen := C.len
    unfold NdefX.startF at e2
    by_cases h9 : i < ps.length
    · have hq : (ps ++ fr)[i]? = some y := by
        rw [← S.pre, List.getElem?_take_of_lt (by omega)]; exact e1
      rw [List.getElem?_append_left h9] at hq
      rw [List.getElem?_append_left (by rw [List.length_map]; omega), List.getElem?_map] at e2
      obtain ⟨v', ha, e⟩ := Option.map_eq_some_iff.mp e2
      cases e
      obtain ⟨u, hu, rv⟩ := r.get ha
      have ndP : ps.Nodup := by
        have q := S.nd.sublist (List.take_sublist (ps.length + fr.length) N)
        rw [S.pre] at q
        exact (List.nodup_append.mp q).1
      exact ⟨u, rv, .inl ⟨S.par y (List.mem_of_getElem? hq), NdefX.zip_look ndP hq hu⟩⟩
    · rw [List.getElem?_append_right (by rw [List.length_map]; omega), List.length_map] at e2
      by_cases h8 : i < ps.length + fr.length
      · have hq : (ps ++ fr)[i]? = some y := by
          rw [← S.pre, List.getElem?_take_of_lt (by omega)]; exact e1
        rw [List.getElem?_append_right (by omega)] at hq
        rw [List.getElem?_append_left (by omega), hl] at e2
        obtain ⟨c, hc, hv⟩ := C.has (i - ps.length) y hq
        obtain ⟨u, ru, hu⟩ := hv v e2
        exact ⟨u, ru, .inr ⟨.inr (S.frk y (List.mem_of_getElem? hq)), c, capLook (List.mem_of_getElem? hq) hc, kpC hu⟩⟩
      · rw [List.getElem?_append_right (by omega), List.getElem?_replicate] at e2
        split at e2 <;> cases e2
  · rcases split e with a | a
    · exact ⟨none, (own y c (PySem.mem_of_lookup a)).1⟩
    · obtain ⟨v, z⟩ := (C.all y c a).2
      exact ⟨v, kpC z⟩
  · rcases split e with a | a
    · exact e0.hok.fresh (Nat.le_of_lt (own y c (PySem.mem_of_lookup a)).2)
    · exact (C.all y c a).1
  · have clen := C.len
    unfold NdefX.startF
    show _ = N.length
    rw [List.length_append, List.length_append, List.length_map, List.length_replicate]
    omega
end
end Al
namespace Al
open PySem PySem.Spec L2
open PyProof.Rows hiding St
/-! ### what a made function promises -/
/-- sp: what its captured cells hold, its arguments -/
structure COk (P : Program) (w : World) (K : PySem.W.Frag) (mg : Str → Option Value) (base : Heap) (CX : CXT) (k : Nat) (f : Addr) (G : CF) (n : Nat) (fr : List Str) (sp : List V → Sp) : Prop where
  len : ∀ (ws : List V) vs H Q E, ws.length = fr.length → sp ws vs H Q E → vs.length = n
  run : ∀ (A : Around) (outer : List Env) (s : Shared) (H : Hp) (us : List Value) (vs : List V) (ws : List V) (Q : VK) (E : XK), RoomG k A → Env0 P w K mg base A outer s H → H f = some (CFO f G) → H G.c = some (LamX.CodeO G.c G.qual) →
    NdefX.CellsAt G.cl fr (ws.map some) s.heap H → Vals vs us → sp ws vs H Q E → codeAny (model P w) A (.call (.ref f) ⟨us, []⟩) (CR CX outer P w H s Q E) s
section
variable {CX : CXT} {P : Program} {w : World} {K : PySem.W.Frag} {mg : Str → Option Value} {base : Heap} {N ps fr : List Str} {f : Addr} {k : Nat} {sp : List V → Sp}
theorem cok_lm {F : LF} (S : BScope N ps fr F.scope) (hb : ∀ (pm ctv : Value) (us : List Value), us.length = ps.length → bindArgs (PySem.W.kla_fn "<lambda>" F.qual F.params F.body F.scope F.cl pm (.ref F.c) ctv) ⟨us, []⟩ = pure (ps.zip us)) (len : ∀ (ws : List V) vs H Q E, ws.length = fr.length → sp ws vs H Q E → vs.length = ps.length)
    (hbody : ∀ (A : Around) (outer : List Env) (s : Shared) (H : Hp) (vs : List V) (ws : List V) (Q : VK) (E : XK), RoomG k (A.deeper (envB (.lm F) f s.heap.objs.size)) → ws.length = fr.length → sp ws vs H Q E →
      ∃ t, PE (bcx CX P w K mg base N (.lm F) f A outer s H E) F.body t ∧ t (NdefX.startF N vs (ws.map some)) H Q) : COk P w K mg base CX (k + 1) f (.lm F) ps.length fr sp := by
  refine ⟨len, fun A outer s H us vs ws Q E hr e0 hf hc C r hsp => ?_⟩
  have cl0 : ws.length = fr.length := by have := C.len; rwa [List.length_map] at this
  have hl := len _ _ _ _ _ cl0 hsp
  have lim : s.heap.NoLimit := e0.mod.nolimit.keeps fun b o e => (e0.bs b o e).1
  obtain ⟨⟨pm, ctv, ho⟩, _, _⟩ := e0.hok f _ hf
  refine PySem.W.kla_callFunE hr.r.depth ho rfl S.co S.gen rfl (NdefX.codeO_at e0.hok hc) ?_
  rw [hb pm ctv us (by rw [← r.length]; exact hl)]
  refine wpAny_pure (nfe_both S.kind (fun ⟨n, _⟩ hy => S.par n (List.of_mem_zip hy).1) fun h1 tk hns kp own ap _ => ⟨lim.keeps kp, ?_⟩)
  show codeAny _ _ (.expr F.body (envB (.lm F) f s.heap.objs.size)) _ _
  have cl : ws.length = fr.length := by have := C.len; rwa [List.length_map] at this
  obtain ⟨t, ht, hq⟩ := hbody A outer s H vs ws Q E ⟨hr.r.deeper _, guards_deeper hr.g⟩ cl hsp
  have I := inv_startB (CX := CX) (G := .lm F) (f := f) (E := E) (tk := tk) S hr.r.hd e0 hl r C hns kp own ap
  refine PySem.W.kla_codeExpr (wpAny_mono (ht.run [] _ _ H Q I hq) (fun v s' hs => ?_) fun e s' hs => hs)
  obtain ⟨v', H', J, rv, q⟩ := hs
  exact ⟨v', H', J.os, J.bare, J.base, J.hok, rv, q⟩
end
/-- the promise R of the captured values and the arguments -/
def spC (K : PySem.W.Frag) (mg : Str → Option Value) (R : RX) (ws : List V) : Sp := fun vs H Q E => ∃ O as F caps args Φ Ξ, Wd ⟨K, mg, as, F⟩ O as F H ∧ RPs ⟨K, mg, as, F⟩ F as caps ws ∧ RPs ⟨K, mg, as, F⟩ F as args vs ∧ R (caps ++ args) O Φ Ξ ∧
  (∀ v H', PQ ⟨K, mg, as, F⟩ as F Φ v H' → Q v H') ∧ ∀ cls d H', XQ ⟨K, mg, as, F⟩ as F Ξ cls d H' → E cls d H'
/-- where its body stands -/
abbrev axB (P : Program) (w : World) (K : PySem.W.Frag) (mg : Str → Option Value) (base : Heap) (N : List Str) (G : CF) (f : Addr) (A : Around) (outer : List Env) (s : Shared) (H : Hp) (E : XK) (as : List Addr) (F : Hp) : Ax :=
  ⟨(bcx (CX P w) P w K mg base N G f A outer s H E).nox, as, F⟩
section
variable {P : Program} {w : World} {K : PySem.W.Frag} {mg : Str → Option Value} {base : Heap} {N ps fr : List Str} {f : Addr} {k : Nat} {R : RX}
theorem rs_startF {KK : KF} {F : Hp} {as : List Addr} {args caps : List PV} {vs ws : List V} (n : Nat) (h1 : RPs KK F as args vs) (h2 : RPs KK F as caps ws) :
    RS KK F as (args.map some ++ (caps.map some ++ List.replicate n none)) (vs.map some ++ ((ws.map some) ++ List.replicate n none)) := by
  have h3 : RS KK F as (caps.map some ++ List.replicate n none) (ws.map some ++ List.replicate n none) := RS.start n h2
  induction h1 with
  | nil => exact h3
  | cons h t ih => exact .cons (fun pv e => by cases e; exact ⟨_, rfl, h⟩) ih
theorem okLm {F : LF} (S : BScope N ps fr F.scope) (hb : ∀ (pm ctv : Value) (us : List Value), us.length = ps.length → bindArgs (PySem.W.kla_fn "<lambda>" F.qual F.params F.body F.scope F.cl pm (.ref F.c) ctv) ⟨us, []⟩ = pure (ps.zip us)) (len : ∀ caps args O Φ Ξ, caps.length = fr.length → R (caps ++ args) O Φ Ξ → args.length = ps.length)
    (hbody : ∀ (A : Around) (outer : List Env) (s : Shared) (H : Hp) (E : XK) (as0 : List Addr) (F0 : Hp) (caps args : List PV) (O : Own) (Φ : PV → Own → Prop) (Ξ : Ex → Own → Prop), RoomG k (A.deeper (envB (.lm F) f s.heap.objs.size)) → caps.length = fr.length → args.length = ps.length → R (caps ++ args) O Φ Ξ →
      AE (axB P w K mg base N (.lm F) f A outer s H E as0 F0) F.body (args.map some ++ (caps.map some ++ List.replicate (N.length - args.length - caps.length) none)) O (Gh O.length Φ)) : COk P w K mg base (CX P w) (k + 1) f (.lm F) ps.length fr (spC K mg R) := by
  refine cok_lm S hb (fun ws vs H Q E hw h => ?_) fun A outer s H vs ws Q E hr hl h => ?_
  · obtain ⟨O, as, F, caps, args, Φ, Ξ, w0, r1, r2, q, _⟩ := h
    rw [← r2.len]
    exact len _ _ _ _ _ (by rw [r1.len]; exact hw) q
  · obtain ⟨O, as, F1, caps, args, Φ, Ξ, w0, r1, r2, q, hQ, hE⟩ := h
    have z := hbody A outer s H E as F1 caps args O Φ Ξ hr (by rw [r1.len]; exact hl) (len _ _ _ _ _ (by rw [r1.len]; exact hl) q) q as F1 (NdefX.startF N vs (ws.map some)) H w0 (by
      unfold NdefX.startF
      rw [List.length_map, ← r1.len, ← r2.len]
      exact rs_startF _ r2 r1)
    refine ⟨_, (pe_tE (X := (axB P w K mg base N (.lm F) f A outer s H E as F1).c)).nox, ?_⟩
    exact tE_mono z fun v H' y => hQ _ _ (PQ.gh (by rw [w0.len]; exact Nat.le_refl _) w0.fa.le y)
end
end Al
namespace Al
open PySem PySem.Spec L2
open PyProof.Rows hiding St
/-! ### a function value called by a local name; defs that receive one -/
theorem COk.mono {P : Program} {w : World} {K : PySem.W.Frag} {mg : Str → Option Value} {base : Heap} {CX : CXT} {j k : Nat} {f : Addr} {G : CF} {n : Nat} {fr : List Str} {sp : List V → Sp} (F : COk P w K mg base CX j f G n fr sp) (h : j ≤ k) : COk P w K mg base CX k f G n fr sp :=
  ⟨F.len, fun A outer s H us vs ws Q E hr => F.run A outer s H us vs ws Q E (hr.mono h)⟩
/-- it may be called from the frames outer on: its captured cells hold caps -/
structure CalAt (G : Gx) (k n : Nat) (Rn : RX) (outer : List Env) (h : Heap) (H : Hp) (as : List Addr) (F : Hp) (C : CF) (caps : List PV) : Prop where
  ex : ∃ (fr : List Str) (ws : List V), RPs ⟨G.K, G.mg, as, F⟩ F as caps ws ∧ NdefX.CellsAt C.cl fr (ws.map some) h H ∧ ∀ f, COk G.P G.w G.K G.mg G.base (CX G.P G.w) k f C n fr (spC G.K G.mg Rn)
  out : ∀ y c, C.cl.lookup y = some c → c ∉ frs outer
/-- .. as the running frame knows it -/
structure CalX (X : Ax) (k n : Nat) (Rn : RX) (C : CF) (caps : List PV) : Prop where
  at_ : CalAt (gx X) k n Rn X.c.outer X.c.s_0.heap X.c.H_0 X.a0 X.F0 C caps
  ex : X.c.ex = []
section
variable {X : Ax} {e : Expr} {es : List Expr} {ρ : Env1} {O : Own} {Φ : PV → Own → Prop} {as : List Addr} {F H : Hp} {σ : L2.St} {pos p : Pos}
theorem fnAt_c {Y : Cx} {pins : List (Addr × Obj)} {s : Shared} {f : Addr} {C : CF} (I : Inv Y pins σ H s) (e : H f = some (CFO f C)) : PySem.W.FnAt f s.heap := by
  cases C with
  | nd F => exact NdefX.fnAt_of I e
  | lm F =>
    obtain ⟨⟨pm, ctv, ho⟩, _, _⟩ := I.hok f _ e
    exact ⟨_, _, _, _, ho⟩
theorem runC {k n : Nat} {f : Addr} {C : CF} {fr : List Str} {sp : List V → Sp} {W : WX} {pins : List (Addr × Obj)} {s : Shared} {Q : VK} {us : List Value} {vs ws : List V} {E : XK} (G : COk X.c.prog X.c.w X.c.K X.c.mg X.c.base (CX X.c.prog X.c.w) k f C n fr sp) (hr : RoomG k X.c.A) (tk : Takes X.c W)
    (hW : ∀ cls d H', E cls d H' → W cls d σ H') (I : Inv X.c pins σ H s) (hf : H f = some (CFO f C)) (hc : H C.c = some (LamX.CodeO C.c C.qual)) (hC : NdefX.CellsAt C.cl fr (ws.map some) s.heap H) (r : Vals vs us) (h : sp ws vs H Q E) :
    wpAny (model X.c.prog X.c.w) X.c.A (call (.ref f) us) (L2.EP X.c pins σ Q) X.c.xe s := by
  refine wpAny_call (codeAny_mono (G.run X.c.A X.c.stack s H us vs ws Q E hr I.env0 hf hc hC r h) fun r s' hq => ?_)
  cases r with
  | error e => exact tk e s' (XE.of_call I hW hq)
  | ok fl =>
    cases fl with
    | ret u => exact I.after hq
    | next => exact False.elim hq
    | brk => exact False.elim hq
    | cont => exact False.elim hq
theorem pe_callV {k n i : Nat} {x : Str} {C : CF} {fr : List Str} {sp : List V → Sp} {W : WX} {ws : List V} {t : TA} (G : ∀ f, COk X.c.prog X.c.w X.c.K X.c.mg X.c.base (CX X.c.prog X.c.w) k f C n fr sp) (hr : RoomG k X.c.A) (hN : X.c.N[i]? = some x) (hv : Vis X.c.env.scope x)
    (hC : ∀ pins s σ H, Inv X.c pins σ H s → NdefX.CellsAt C.cl fr (ws.map some) s.heap H) (tk : Takes X.c W) (ha : PA X.c (e :: es) t)
    (hd : (x == ("__debug__" : Str)) = false := by decide) (hcd : (x == ("__classdict__" : Str)) = false := by decide) (he : starEach (e :: es) X.c.env = (false, eval e X.c.env) :: starEach es X.c.env := by rfl) (hpl : (backTo pos (starEach es X.c.env)).any (·.1) = false := by rfl) :
    PE X.c (.Call (.Name x p) (e :: es) [] pos) (fun σ H Q => ∃ f, σ[i]? = some (some (.ref f)) ∧ H f = some (CFO f C) ∧ t σ H fun vs H1 => H1 f = some (CFO f C) ∧ H1 C.c = some (LamX.CodeO C.c C.qual) ∧ ∃ E : XK, sp ws vs H1 Q E ∧ ∀ cls d H', E cls d H' → W cls d σ H') := by
  refine ⟨fun pins s σ H Q I h => ?_⟩
  obtain ⟨f, hs, hf, ht⟩ := h
  refine wpAny_Call_Name_kw (thn ((pe_var (pos := p) hN hv hd hcd).run pins s σ H (fun v H1 => v = .ref f ∧ H1 = H) I ⟨.ref f, hs, rfl, rfl⟩) fun u s1 ⟨v, H1, I1, r1, q1⟩ => ?_)
  obtain ⟨ev, eH⟩ := q1
  subst ev
  rw [eH] at I1
  obtain rfl : u = Value.ref f := r1
  refine PySem.W.callWith_F (first := []) (fnAt_c I1 hf) (thn (ha.run pos pins s1 σ H _ I1 ht) fun us s2 ⟨vs, H2, I2, r, h1, h2, E, q, hW⟩ => ⟨fnAt_c I2 h1, ?_⟩) he hpl
  show wpAny _ _ (call (.ref f) us) _ _ _
  exact runC (G f) hr tk hW I2 h1 h2 (hC _ _ _ _ I2) r q
/-- g(e, ..), g a local name that holds the function C -/
theorem ae_callV (i : Nat) {j k n : Nat} {x : Str} {C : CF} {Rn : RX} {caps : List PV} (G : CalX X j n Rn C caps) (hr : RoomG k X.A) (hj : j ≤ k) (hs : ρ[i]? = some (some (.fn C)))
    (h : AA X (e :: es) ρ O fun args O1 => Rn (caps ++ args) O1 Φ fun _ _ => False) (hN : X.N[i]? = some x := by rfl) (hv : Vis X.env.scope x := by first | exact Or.inl rfl | exact Or.inr (Or.inl rfl) | exact Or.inr (Or.inr rfl))
    (hd : (x == ("__debug__" : Str)) = false := by decide) (hcd : (x == ("__classdict__" : Str)) = false := by decide) (he : starEach (e :: es) X.env = (false, eval e X.env) :: starEach es X.env := by rfl) (hpl : (backTo pos (starEach es X.env)).any (·.1) = false := by rfl) : AE X (.Call (.Name x p) (e :: es) [] pos) ρ O Φ := fun as F σ H w r => by
  obtain ⟨fr, ws, rc, cc, ok⟩ := G.at_.ex
  refine tE_of (pe_callV (W := fun cls d σ H => ∃ e ρ O as F, Wd X.k O as F H ∧ RS X.k F as ρ σ ∧ XRel X.k F e cls d ∧ False) (fun f => (ok f).mono hj) hr hN hv (fun pins s σ H I => NdefX.CellsAt.later cc G.at_.out (fun y c _ z => by rw [G.ex] at z; cases z) I) takes_none pa_tA hd hcd he hpl) ?_
  obtain ⟨v, h1, f, rfl, h2, h3⟩ := r.get hs
  refine ⟨f, h1, w.ex _ _ h2, ?_⟩
  refine h.run w r fun args O1 as1 F1 vs H1 w1 g1 s1 rx r1 q => ⟨w1.ex _ _ (s1 _ _ h2), w1.ex _ _ (s1 _ _ h3), XQ ⟨X.c.K, X.c.mg, as1, F1⟩ as1 F1 (fun _ _ => False), ⟨O1, as1, F1, caps, args, Φ, _, w1.floor (Gr.refl _) (Same.refl _), ?_, ?_, q, fun v H' z => ?_, fun _ _ _ z => z⟩, fun cls d H' z => ?_⟩
  · exact rps_floor (K := X.k) ((rps_floor rc).mono w1.fF w1.fa)
  · exact rps_floor (K := X.k) rx
  · exact PQ.back g1 s1 (PQ.lift (K := X.k) w1.fa w1.fF z)
  · obtain ⟨_, _, _, _, _, _, _, _, z⟩ := z
    exact z.elim
end
end Al
namespace Al
open PySem PySem.Spec L2
open PyProof.Rows hiding St
/-! ### defs that receive a function -/
/-- .. the function, what its cells hold, the arguments -/
abbrev RC := CF → List PV → RX
def spD (G : Gx) (kn n : Nat) (Rn : RX) (R : RC) (outer : List Env) (h : Heap) : Sp := fun vs H Q E => ∃ O as F C caps args Φ Ξ, Wd ⟨G.K, G.mg, as, F⟩ O as F H ∧ RPs ⟨G.K, G.mg, as, F⟩ F as args vs ∧ CalAt G kn n Rn outer h H as F C caps ∧ R C caps args O Φ Ξ ∧
  (∀ v H', PQ ⟨G.K, G.mg, as, F⟩ as F Φ v H' → Q v H') ∧ ∀ cls d H', XQ ⟨G.K, G.mg, as, F⟩ as F Ξ cls d H' → E cls d H'
structure FnC (G : Gx) (kn n : Nat) (Rn : RX) (k : Nat) (f : Addr) (fd : FuncData) (ps : List Str) (R : RC) : Prop where
  len : ∀ C caps args O Φ Ξ, R C caps args O Φ Ξ → args.length = ps.length
  run : ∀ (A : Around) (outer : List Env) (s : Shared) (H : Hp) (args : Args) (us : List Value) (vs : List V) (Q : VK) (E : XK), RoomG k A → Env0 G.P G.w G.K G.mg G.base A outer s H → BindsTo s fd args (ps.zip us) → Vals vs us → spD G kn n Rn R outer s.heap vs H Q E →
    codeAny (model G.P G.w) A (.call (.ref f) args) (CR (CX G.P G.w) outer G.P G.w H s Q E) s
def DefC (G : Gx) (kn n : Nat) (Rn : RX) (k : Nat) (x : Str) (ps : List Str) (R : RC) : Prop :=
  ∃ f fd, FnC G kn n Rn k f fd ps R ∧ G.mg x = some (.ref f) ∧ PySem.W.keepIn G.K (.ref f) = true ∧ Binds G.K fd ps []
section
variable {P : Program} {w : World} {K : PySem.W.Frag} {mg : Str → Option Value} {base : Heap}
theorem fnC_run {CX : CXT} {k : Nat} {f : Addr} {name qual : Str} {params : Arguments} {body : List Stmt} {scope : Scope} {dV kV doc pm cdv ct oc : Value} {an od : Option Addr} {osl : Array (Option Value)} {N ps : List Str} (lk : K.lookup f = some ⟨oc, od, .func (PySem.W.fnOf name qual params body scope dV kV doc pm an cdv ct), osl⟩) (hcd : PySem.W.codeIn K cdv qual = true) (S : FnScope N ps scope)
    {A : Around} {outer : List Env} {s : Shared} {H : Hp} {args : Args} {us : List Value} {vs : List V} {Q : VK} {E : XK} (hr : RoomG (k + 1) A) (e0 : Env0 P w K mg base A outer s H) (hb : BindsTo s (PySem.W.fnOf name qual params body scope dV kV doc pm an cdv ct) args (ps.zip us)) (r : Vals vs us) (hl : vs.length = ps.length)
    (hbody : RoomG k (A.deeper (envOfC qual scope s.heap.objs.size f cdv)) → ∃ t, PSs (cxOf CX P w K mg base N qual scope f cdv A outer s H E) body t ∧ t { nx := fun _ H' => Q .non H', rt := Q } (L2.start N vs) H) :
    codeAny (model P w) A (.call (.ref f) args) (CR CX outer P w H s Q E) s := by
  have KX : K.In s.heap := e0.mod.kin.keeps fun b o e => (e0.bs b o e).1
  have lim : s.heap.NoLimit := e0.mod.nolimit.keeps fun b o e => (e0.bs b o e).1
  have hkind : ∀ y ∈ ps.zip us, scope.names.lookup y.1 = some .local ∨ (scope.names.lookup y.1 = some .cell ∧ ((cellsFrom (s.heap.objs.size + 1) scope.names []).lookup y.1).isSome = true) := fun ⟨n, v⟩ hy => by
    rcases S.par n (List.of_mem_zip hy).1 with q | q
    · exact .inl q
    · exact .inr ⟨q, PySem.W.cellsFrom_some _ _ _ (.inl q)⟩
  refine codeAny_call_function hr.r.depth (KX _ _ lk) rfl S.co S.gen rfl (PySem.W.codeRec_of KX hcd) (hb _ _ _ _ ?_)
  refine wpAny_newFunctionEnv_cells S.kind hkind fun env he s1 x => ?_
  subst he
  refine ⟨lim.keeps x.toInCall.keep, codeAny_func ?_⟩
  obtain ⟨t, ht, hq⟩ := hbody ⟨hr.r.deeper _, guards_deeper hr.g⟩
  have I : Inv (cxOf CX P w K mg base N qual scope f cdv A outer s H E) [] (L2.start N vs) H s1 := inv_start S hr.r.hd e0 hl r x
  refine wpAny_mono (ht.run [] s1 (L2.start N vs) H _ I hq) (fun fl s' hs => ?_) fun e s' hs => hs
  have fin : ∀ {σ' : L2.St} {H' : Hp} {v : V} {u : Value}, Inv (cxOf CX P w K mg base N qual scope f cdv A outer s H E) [] σ' H' s' → RelV v u → Q v H' → CE outer P w H s Q u s' :=
    fun {σ' H' v u} J rv q => ⟨v, H', J.os, J.bare, J.base, J.hok, rv, q⟩
  cases fl with
  | ret u =>
    obtain ⟨v, σ', H', J, rv, q⟩ := hs
    exact fin J rv q
  | next =>
    obtain ⟨σ', H', J, q⟩ := hs
    exact fin (v := V.non) (u := Value.none) J rfl q
  | brk =>
    obtain ⟨_, _, _, q⟩ := hs
    exact False.elim q
  | cont =>
    obtain ⟨_, _, _, q⟩ := hs
    exact False.elim q
theorem okFC {x qual : Str} {st : Stmt} {f : Addr} {fd : FuncData} {N ps : List Str} {k kn n : Nat} {Rn : RX} {R : RC} (F : Fun K x qual st f fd) (S : FnScope N ps (defScope st)) (len : ∀ C caps args O Φ Ξ, R C caps args O Φ Ξ → args.length = ps.length)
    (hbody : ∀ (cdv : Value) (A : Around) (outer : List Env) (s : Shared) (H : Hp) (E : XK) (as0 : List Addr) (F0 : Hp) (C : CF) (caps args : List PV) (O : Own) (Φ : PV → Own → Prop) (Ξ : Ex → Own → Prop), RoomG k (A.deeper (envOfC qual (defScope st) s.heap.objs.size f cdv)) → R C caps args O Φ Ξ →
      CalX (axN P w K mg base N qual (defScope st) f cdv A outer s H E as0 F0) kn n Rn C caps →
      ASs (axN P w K mg base N qual (defScope st) f cdv A outer s H E as0 F0) (defBody st) (args.map some ++ List.replicate (N.length - args.length) none) O { nx := fun _ O' => Gh O.length Φ (.d .none) O', rt := Gh O.length Φ }) : FnC ⟨P, w, K, mg, base⟩ kn n Rn (k + 1) f fd ps R := by
  obtain ⟨oc, od, kV, doc, pm, an, cdv, ct, osl, rfl, lk, hcd⟩ := F.ex
  refine ⟨len, fun A outer s H args us vs Q E hr e0 hb r h => ?_⟩
  obtain ⟨O, as, F, C, caps, pvs, Φ, Ξ, w0, rs, cal, q, hQ, hE⟩ := h
  refine fnC_run lk hcd S hr e0 hb r (by rw [← rs.len]; exact len _ _ _ _ _ _ q) fun hr1 => ?_
  have z := hbody cdv A outer s H E as F C caps pvs O Φ Ξ hr1 q ⟨cal, rfl⟩ as F (L2.start N vs) H w0 (by unfold L2.start; rw [← rs.len]; exact RS.start _ rs)
  refine ⟨_, (pss_tSs (X := (axN P w K mg base N qual (defScope st) f cdv A outer s H E as F).c)).nox, ?_⟩
  refine tSs_le z ⟨fun σ' H' y => ?_, fun v H' y => ?_, fun _ _ y => ?_, fun _ _ y => ?_⟩
  · obtain ⟨ρ', O', as', F', w', g', s', r', q'⟩ := y
    exact hQ _ _ (q'.sound (by rw [w0.len]; exact Nat.le_refl _) w0.fa.le w' g' s' .non)
  · exact hQ _ _ (PQ.gh (by rw [w0.len]; exact Nat.le_refl _) w0.fa.le y)
  · obtain ⟨_, _, _, _, _, _, _, _, z⟩ := y
    exact z
  · obtain ⟨_, _, _, _, _, _, _, _, z⟩ := y
    exact z
end
section
variable {X : Ax} {e : Expr} {es : List Expr} {ρ : Env1} {O : Own} {Φ : PV → Own → Prop} {as : List Addr} {F H : Hp} {σ : L2.St} {pos p : Pos}
theorem pe_callC {k kn n : Nat} {f : Addr} {fd : FuncData} {ps : List Str} {Rn : RX} {R : RC} {W : WX} {x : Str} {t : TA} (G : FnC (gx X) kn n Rn k f fd ps R) (hr : RoomG k X.c.A) (hg : Gl X.c x) (hm : X.c.mg x = some (.ref f)) (hk : PySem.W.keepIn X.c.K (.ref f) = true) (hb : Binds X.c.K fd ps []) (tk : Takes X.c W)
    (ha : PA X.c (e :: es) t) (hdb : (x == ("__debug__" : Str)) = false := by decide) (he : starEach (e :: es) X.c.env = (false, eval e X.c.env) :: starEach es X.c.env := by rfl) (hpl : (backTo pos (starEach es X.c.env)).any (·.1) = false := by rfl) :
    PE X.c (.Call (.Name x p) (e :: es) [] pos) (fun σ H Q => t σ H fun vs H1 => ∃ E : XK, vs.length = ps.length ∧ (∀ pins s, Inv X.c pins σ H1 s → spD (gx X) kn n Rn R X.c.stack s.heap vs H1 Q E) ∧ ∀ cls d H', E cls d H' → W cls d σ H') := by
  refine ⟨fun pins s σ H Q I h => ?_⟩
  refine wpAny_Call_Name_kw (ld_glob I hg hm ?_ hdb)
  refine PySem.W.callWith_K (h₀ := X.c.base) I.ok.mod.kin hk (thn (ha.run pos pins s σ H _ I h) fun us s1 ⟨vs, H1, I1, r, E, hl, q, hW⟩ => ⟨I1.kIn, ?_⟩) he hpl
  have hl2 : (us ++ []).length = ps.length := by rw [List.append_nil, ← r.length]; exact hl
  have hb2 := hb s1 us I1.kIn hl2
  rw [List.append_nil] at hb2
  refine wpAny_call (codeAny_mono (G.run X.c.A X.c.stack s1 H1 ⟨us, []⟩ us vs Q E hr I1.env0 hb2 r (q _ _ I1)) fun r s' hq => ?_)
  cases r with
  | error e => exact tk e s' (XE.of_call I1 hW hq)
  | ok fl =>
    cases fl with
    | ret u => exact I1.after hq
    | next => exact False.elim hq
    | brk => exact False.elim hq
    | cont => exact False.elim hq
theorem slots_caps {K : KF} {F : Hp} {as : List Addr} {ρ : Env1} {σ : L2.St} (r : RS K F as ρ σ) : ∀ {js : List Nat} {caps : List PV}, js.map (fun j => ρ[j]?) = caps.map (fun c => some (some c)) → ∃ ws, RPs K F as caps ws ∧ js.map (NdefX.slotAt σ) = ws.map some
  | [], [], _ => ⟨[], .nil, rfl⟩
  | [], _ :: _, h => by cases h
  | _ :: _, [], h => by cases h
  | j :: js, c :: caps, h => by
    rw [List.map_cons, List.map_cons] at h
    obtain ⟨h1, h2⟩ := List.cons.inj h
    obtain ⟨v, e1, e2⟩ := r.get h1
    obtain ⟨ws, r2, e3⟩ := slots_caps r h2
    exact ⟨v :: ws, .cons e2 r2, by rw [List.map_cons, List.map_cons, e3, NdefX.slotAt_of e1]⟩
/-- the running frame's captured names and what the function's cells hold -/
structure CapX (X : Ax) (ρ : Env1) (k n : Nat) (Rn : RX) (C : CF) (caps : List PV) : Prop where
  ex : ∃ (fr : List Str) (js : List Nat), (X.c.Ok → NdefX.Caps X.c C.cl fr js) ∧ js.map (fun j => ρ[j]?) = caps.map (fun c => some (some c)) ∧ ∀ f, COk X.c.prog X.c.w X.c.K X.c.mg X.c.base (CX X.c.prog X.c.w) k f C n fr (spC X.c.K X.c.mg Rn)
theorem CapX.cal {k n : Nat} {Rn : RX} {C : CF} {caps : List PV} (G : CapX X ρ k n Rn C caps) (hfn : ∀ y, X.c.fn y = true) {pins : List (Addr × Obj)} {s : Shared} (I : Inv X.c pins σ H s) {K : KF} (hK : K.K = X.c.K) (hm : K.mg = X.c.mg) (r : RS K F as ρ σ) :
    CalAt (gx X) k n Rn X.c.stack s.heap H as F C caps := by
  obtain ⟨fr, js, cp, hj, ok⟩ := G.ex
  obtain ⟨ws, r2, e⟩ := slots_caps r hj
  have c1 := cp I.ok
  have cc := NdefX.cells_of I c1
  rw [e] at cc
  obtain ⟨KK, mm, a0, F0⟩ := K
  subst hK hm
  refine ⟨⟨fr, ws, rps_floor r2, cc, ok⟩, fun y c hy hb => ?_⟩
  have hx := c1.sub y c hy
  rcases List.mem_cons.mp (I.stkSub c hb) with z | z
  · exact I.cne y c hx z
  · obtain ⟨_, o, ho, _⟩ := I.ok.funs.mem z
    exact absurd (Nat.lt_of_lt_of_le (Heap.lt_size ho) (I.ok.cab y c (hfn y) hx)) (Nat.lt_irrefl _)
/-- f(.., g): f receives a function that was made here -/
theorem ae_callC {k kn n : Nat} {ps : List Str} {Rn : RX} {R : RC} {x : Str} (G : DefC (gx X) kn n Rn k x ps R) (hr : RoomG k X.A)
    (h : AA X (e :: es) ρ O fun args O1 => ∃ C caps, CapX X ρ kn n Rn C caps ∧ R C caps args O1 Φ fun _ _ => False) (hfn : ∀ y, X.c.fn y = true := by intro _; rfl) (hg : Gl X.c x := by rfl) (hdb : (x == ("__debug__" : Str)) = false := by decide)
    (he : starEach (e :: es) X.env = (false, eval e X.env) :: starEach es X.env := by rfl) (hpl : (backTo pos (starEach es X.env)).any (·.1) = false := by rfl) : AE X (.Call (.Name x p) (e :: es) [] pos) ρ O Φ := fun as F σ H w r => by
  obtain ⟨f, fd, h1, h2, h3, h4⟩ := G
  refine tE_of (pe_callC (W := fun cls d σ H => ∃ e ρ O as F, Wd X.k O as F H ∧ RS X.k F as ρ σ ∧ XRel X.k F e cls d ∧ False) h1 hr hg h2 h3 h4 takes_none pa_tA hdb he hpl) ?_
  refine h.run w r fun args O1 as1 F1 vs H1 w1 g1 s1 rx r1 q => ?_
  obtain ⟨C, caps, cx, q⟩ := q
  refine ⟨XQ ⟨X.c.K, X.c.mg, as1, F1⟩ as1 F1 (fun _ _ => False), by rw [← rx.len]; exact h1.len _ _ _ _ _ _ q, fun pins s I => ⟨O1, as1, F1, C, caps, args, Φ, _, w1.floor (Gr.refl _) (Same.refl _), rps_floor (K := X.k) rx, cx.cal hfn I rfl rfl r1, q, fun v H' z => ?_, fun _ _ _ z => z⟩, fun cls d H' z => ?_⟩
  · exact PQ.back g1 s1 (PQ.lift (K := X.k) w1.fa w1.fF z)
  · obtain ⟨_, _, _, _, _, _, _, _, z⟩ := z
    exact z.elim
end
end Al
namespace Al
open PySem PySem.Spec L2
open PyProof.Rows hiding St
/-! ### the end of a law whose defs make functions: tables of code objects are owned at its start -/
section
variable {P : Program} {w : World} {K : PySem.W.Frag} {mg mb : Str → Option Value} {k : Nat} {fa a : Addr} {fd : FuncData} {x : Str} {sp : Sp} {s₁ : Shared} {vs : List Value} {ns : List Int} {cs : List (Addr × Addr)}
/-- an object that is neither a list nor an empty table is not tracked -/
theorem untracked {H : Hp} (ha : s₁.heap.get? a = some { cls := .type "list", data := .seq vs.toArray }) (hT : ∀ p ∈ cs, s₁.heap.get? p.2 = some { cls := .none, data := .fields #[] }) (hA : ∀ b, H b ≠ none → b = a ∨ ∃ p ∈ cs, b = p.2) {b : Addr} {o : Obj} (e : s₁.heap.get? b = some o)
    (h : match o.data with | .seq .. => False | .fields us => us ≠ #[] | _ => True) : H b = none := by
  refine Option.eq_none_iff_forall_ne_some.mpr fun u q => ?_
  rcases hA b (by rw [q]; simp) with e' | ⟨p, hp, e'⟩
  · rw [e', ha] at e
    cases e
    exact h
  · rw [e', hT p hp] at e
    cases e
    exact h rfl
theorem call_fromT (KX : K.In s₁.heap) (hns : s₁.heap.Ns mainGlobals mg) (hb : s₁.heap.Ns builtinsNs mb) (hbb : ∀ x : Str, x ≠ "__name__" → mb x = bootBuiltins x) (hlim : s₁.heap.NoLimit) (hg : s₁.gens = #[])
    (hT : ∀ p ∈ cs, s₁.heap.get? p.2 = some { cls := .none, data := .fields #[] }) (nT : ∀ p ∈ cs, K.lookup p.2 = none) (C : ∀ p ∈ cs, PySem.W.CodeHd s₁.heap p.1 p.2)
    (hbm : ∃ (bm : Addr) (ob : Obj), mg "__builtins__" = some (.ref bm) ∧ bm ≠ builtinsNs ∧ s₁.heap.get? bm = some ob ∧ ob.cls = .type "module" ∧ ob.dict = some builtinsNs ∧ ob.data = .plain)
    (ha : s₁.heap.get? a = some { cls := .type "list", data := .seq vs.toArray }) (hr : Room k callerA)
    (F : ∀ base : Heap, K.In base → base.Ns mainGlobals mg → (∀ p ∈ cs, LamX.TabB base mg p.1 p.2) → FnA P w K mg base (CX P w) k fa fd [x] sp) (hbind : ∀ (s : Shared) (u : Value), BindsTo s fd ⟨[u], []⟩ [(x, u)])
    {H : Hp} (hH : ∀ p ∈ cs, H p.2 = some (.tbl #[])) (hO : ∀ b, H b = none ∨ (∃ p ∈ cs, b = p.2) ∨ ∃ o xs, H b = some (.frz o (.lst xs))) (hsp : sp [.ref a] H (fun v _ => v = .bl true) fun _ _ _ => False) (hok : HOk P w H s₁.heap) (hA : ∀ b, H b ≠ none → b = a ∨ ∃ p ∈ cs, b = p.2) (hK : H a ≠ none → K.lookup a = none) :
    codeAny (model P w) callerA (.call (.ref fa) ⟨[.ref a], []⟩) (fun r s' => r = .ok (.ret (.bool true)) ∧ OldK s₁.heap s'.heap ∧ s'.os = s₁.os ∧ AllBare s'.gens) s₁ := by
  have non : ∀ {b : Addr} {o : Obj}, s₁.heap.get? b = some o → (match o.data with | .seq .. => False | .fields us => us ≠ #[] | _ => True) → (hidT s₁.heap H).get? b = some o := fun e h => hidT_get e (untracked ha hT hA e h)
  have ns_of : ∀ {b : Addr} {m : Str → Option Value}, s₁.heap.Ns b m → (hidT s₁.heap H).Ns b m := fun {b m} z => by
    obtain ⟨o, es, ep, e, d, r⟩ := z
    exact ⟨o, es, ep, non e (by rw [d]; trivial), d, r⟩
  have K_in : K.In (hidT s₁.heap H) := by
    intro b o e
    refine hidT_get (KX b o e) (Option.eq_none_iff_forall_ne_some.mpr fun u q => ?_)
    have q' : H b ≠ none := fun z => by rw [z] at q; cases q
    rcases hA b q' with e' | ⟨p, hp, e'⟩
    · rw [e'] at q' e
      rw [hK q'] at e
      cases e
    · rw [e', nT p hp] at e
      cases e
  have M : Mod K mg (hidT s₁.heap H) := by
    obtain ⟨mc, h1, h2⟩ := hlim
    exact ⟨K_in, ns_of hns, ⟨mb, ns_of hb, hbb⟩, mc, ns_of h1, h2⟩
  have TB : ∀ p ∈ cs, LamX.TabB (hidT s₁.heap H) mg p.1 p.2 := fun p hp => by
    obtain ⟨og, eg, pg, hgo, hgd, _⟩ := hns
    have tp := hT p hp
    have gP : mainGlobals ≠ p.2 := fun z => by
      rw [z, tp] at hgo
      cases hgo
      cases hgd
    refine ⟨?_, ?_, gP⟩
    · obtain ⟨o, us, file, tf, flags, tg, inF, text, tt, e1, r1, r2, r3, r4⟩ := C p hp
      refine ⟨o, us, file, tf, flags, tg, inF, text, tt, non e1 ?_, r1, r2, r3, r4⟩
      rw [r2]
      intro z
      rw [z] at r3
      simp at r3
    · obtain ⟨bm, ob, b1, b2, b3, b4, b5, b6⟩ := hbm
      refine ⟨bm, ob, b1, b2, fun z => ?_, fun z => ?_, non b3 (by rw [b6]; trivial), b4, b5, b6⟩
      · rw [z, hgo] at b3
        cases b3
        rw [hgd] at b6
        cases b6
      · rw [z, tp] at b3
        cases b3
        cases b6
  have e0 : Env0 P w K mg (hidT s₁.heap H) callerA [] s₁ H := { frames := rfl, mod := M, bs := fun b o e => of_hidT e, bsz := Nat.le_of_eq (hidT_size _ _), funs := trivial, frf := fun b hb => (List.not_mem_nil (show b ∈ ([] : List Addr) from hb)).elim, hok := hok, bare := .of_eq hg }
  have z := (F _ K_in (ns_of hns) TB).run callerA [] s₁ H ⟨[.ref a], []⟩ [.ref a] [.ref a] _ _ ⟨hr, rfl⟩ e0 (hbind s₁ (.ref a)) (.cons rfl .nil) hsp
  refine codeAny_mono z fun r s' h => ?_
  match r, h with
  | .error e, h =>
    obtain ⟨_, _, _, _, _, _, _, _, _, _, _, _, q⟩ := h
    exact q.elim
  | .ok (.ret u), ⟨v, H', os, bare, un, hok', r', q⟩ =>
    obtain rfl : v = .bl true := q
    obtain rfl : u = Value.bool true := r'
    have at_tab : ∀ p ∈ cs, ∃ more : Array Value, s'.heap.get? p.2 = some { cls := .none, data := .fields more } := fun p hp => by
      obtain ⟨more, z⟩ := un.tbls p.2 #[] (hH p hp)
      exact ⟨_, hok' p.2 _ z⟩
    have same : ∀ b o, (¬ ∃ p ∈ cs, b = p.2) → s₁.heap.get? b = some o → s'.heap.get? b = some o := fun b o nb e => by
      rcases hO b with q | q | ⟨ob, xs, q⟩
      · exact un.keep b o e q (fun z => List.not_mem_nil (show b ∈ ([] : List Addr) from z)) (List.not_mem_nil)
      · exact (nb q).elim
      · have e1 := (hok b _ q).1
        rw [e] at e1
        cases e1
        exact (hok' b _ (un.frzs b _ _ q)).1
    refine ⟨rfl, ⟨fun b o e => ?_, fun b o e => ?_⟩, os, bare⟩ <;> by_cases hb : ∃ p ∈ cs, b = p.2
    · obtain ⟨p, hp, ep⟩ := hb
      subst ep
      obtain ⟨more, hm⟩ := at_tab p hp
      rw [hT p hp] at e
      cases e
      exact .inr (.inl ⟨((C p hp).tab (hT p hp)).isCodeTable, rfl, #[], more, rfl, by rw [Array.empty_append]; exact hm⟩)
    · exact .inl (same b o hb e)
    · obtain ⟨p, hp, ep⟩ := hb
      subst ep
      obtain ⟨more, hm⟩ := at_tab p hp
      exact ⟨_, hm⟩
    · exact ⟨o, same b o hb e⟩
end
end Al
namespace Al
open PySem PySem.Spec L2
open PyProof.Rows hiding St
section
variable {P : Program} {w : World} {K : PySem.W.Frag} {mg mb : Str → Option Value} {k : Nat} {fa a : Addr} {fd : FuncData} {x : Str} {sp : Sp} {s₁ : Shared} {vs : List Value} {ns : List Int} {cs : List (Addr × Addr)}
/-- the heap at the start: the script where it is not the program's, the tables -/
def startH (K : PySem.W.Frag) (a : Addr) (vs : List Value) (ns : List Int) (cs : List (Addr × Addr)) : Hp := fun b =>
  if b ∈ cs.map (·.2) then some (.tbl #[]) else if b = a ∧ (K.lookup a).isNone = true then some (HO.frz { cls := .type "list", data := .seq vs.toArray } (.lst (ns.map V.int))) else none
theorem startH_tab {p : Addr × Addr} (h : p ∈ cs) : startH K a vs ns cs p.2 = some (.tbl #[]) := if_pos (List.mem_map.mpr ⟨p, h, rfl⟩)
theorem startH_cases (b : Addr) : (∃ p ∈ cs, b = p.2) ∧ startH K a vs ns cs b = some (.tbl #[]) ∨ (¬ ∃ p ∈ cs, b = p.2) ∧ (b = a ∧ K.lookup a = none ∧ startH K a vs ns cs b = some (HO.frz { cls := .type "list", data := .seq vs.toArray } (.lst (ns.map V.int))) ∨ startH K a vs ns cs b = none) := by
  unfold startH
  by_cases h : b ∈ cs.map (·.2)
  · obtain ⟨p, hp, e⟩ := List.mem_map.mp h
    exact .inl ⟨⟨p, hp, e.symm⟩, if_pos h⟩
  · refine .inr ⟨fun ⟨p, hp, e⟩ => h (List.mem_map.mpr ⟨p, hp, e.symm⟩), ?_⟩
    rw [if_neg h]
    by_cases h2 : b = a ∧ (K.lookup a).isNone = true
    · exact .inl ⟨h2.1, Option.isNone_iff_eq_none.mp h2.2, if_pos h2⟩
    · exact .inr (if_neg h2)
theorem law_callAT (KX : K.In s₁.heap) (hns : s₁.heap.Ns mainGlobals mg) (hb : s₁.heap.Ns builtinsNs mb) (hbb : ∀ x : Str, x ≠ "__name__" → mb x = bootBuiltins x) (hlim : s₁.heap.NoLimit) (hg : s₁.gens = #[])
    (hT : ∀ p ∈ cs, s₁.heap.get? p.2 = some { cls := .none, data := .fields #[] }) (nT : ∀ p ∈ cs, K.lookup p.2 = none) (C : ∀ p ∈ cs, PySem.W.CodeHd s₁.heap p.1 p.2)
    (hbm : ∃ (bm : Addr) (ob : Obj), mg "__builtins__" = some (.ref bm) ∧ bm ≠ builtinsNs ∧ s₁.heap.get? bm = some ob ∧ ob.cls = .type "module" ∧ ob.dict = some builtinsNs ∧ ob.data = .plain)
    (ha : s₁.heap.get? a = some { cls := .type "list", data := .seq vs.toArray }) (hi : IntsAre vs ns) (hl : ns.length ≤ sizeLine) (hr : Room k callerA)
    (F : ∀ base : Heap, K.In base → base.Ns mainGlobals mg → (∀ p ∈ cs, LamX.TabB base mg p.1 p.2) → FnA P w K mg base (CX P w) k fa fd [x] sp) (hbind : ∀ (s : Shared) (u : Value), BindsTo s fd ⟨[u], []⟩ [(x, u)])
    (hsp : ∀ H : Hp, (∀ p ∈ cs, H p.2 = some (.tbl #[])) → SqL K H a (ns.map V.int) → sp [.ref a] H (fun v _ => v = .bl true) fun _ _ _ => False) :
    codeAny (model P w) callerA (.call (.ref fa) ⟨[.ref a], []⟩) (fun r s' => r = .ok (.ret (.bool true)) ∧ OldK s₁.heap s'.heap ∧ s'.os = s₁.os ∧ AllBare s'.gens) s₁ := by
  have rv := vals_ints hi
  have lenV := hi.length
  have na : ¬ ∃ p ∈ cs, a = p.2 := fun ⟨p, hp, e⟩ => by
    have q := hT p hp
    rw [← e, ha] at q
    cases q
  refine call_fromT (H := startH K a vs ns cs) KX hns hb hbb hlim hg hT nT C hbm ha hr F hbind (fun p hp => startH_tab hp) (fun b => ?_) (hsp _ (fun p hp => startH_tab hp) ?_) (fun b u z => ?_) (fun b z => ?_) fun z => ?_
  · rcases startH_cases (K := K) (a := a) (vs := vs) (ns := ns) (cs := cs) b with ⟨h, _⟩ | ⟨_, ⟨_, _, h⟩ | h⟩
    · exact .inr (.inl h)
    · exact .inr (.inr ⟨_, _, h⟩)
    · exact .inl h
  · rcases startH_cases (K := K) (a := a) (vs := vs) (ns := ns) (cs := cs) a with ⟨h, _⟩ | ⟨_, ⟨_, _, h⟩ | h⟩
    · exact (na h).elim
    · exact .inl (.inr ⟨_, h⟩)
    · cases hk : K.lookup a with
      | none =>
        unfold startH at h
        rw [if_neg (fun z => by obtain ⟨p, hp, e⟩ := List.mem_map.mp z; exact na ⟨p, hp, e.symm⟩), if_pos ⟨rfl, by rw [hk]; rfl⟩] at h
        cases h
      | some o =>
        have e := KX a o hk
        rw [ha] at e
        cases e
        exact .inr ⟨_, vs.toArray, _, hk, rfl, rfl, rfl, by rw [List.size_toArray, lenV]; exact hl, by simpa using rv⟩
  · rcases startH_cases (K := K) (a := a) (vs := vs) (ns := ns) (cs := cs) b with ⟨⟨p, hp, e⟩, h⟩ | ⟨_, ⟨e, _, h⟩ | h⟩
    · rw [h] at z
      cases z
      rw [e]
      exact hT p hp
    · rw [h] at z
      cases z
      rw [e]
      exact ⟨ha, by rw [List.length_map]; exact hl, vs, _, rv, ha⟩
    · rw [h] at z
      cases z
  · rcases startH_cases (K := K) (a := a) (vs := vs) (ns := ns) (cs := cs) b with ⟨h, _⟩ | ⟨_, ⟨e, _, _⟩ | h⟩
    · exact .inr h
    · exact .inl e
    · exact absurd h z
  · rcases startH_cases (K := K) (a := a) (vs := vs) (ns := ns) (cs := cs) a with ⟨h, _⟩ | ⟨_, ⟨_, h, _⟩ | h⟩
    · exact (na h).elim
    · exact h
    · exact absurd h z
end
/-- the end: cs, the code objects of the defs that make functions, and their tables -/
theorem walk_ofAT {l : PySem.W.OpenLaw} {n k : Nat} {q : Program} {loose : List Str} {XP : (Str → Option Value) → Heap → Prop} {YP : World → Heap → Prop} {d : DefRec} {K : Params → PySem.W.Frag} {x : Str} {cs : List (Addr × Addr)} {R : RX}
    (hn : l.most = some n) (hn2 : n ≤ sizeLine) (hdf : d.params.defaults = []) (hr : Room k callerA) (hY : ∀ (w : World) (h : Heap), YP w h → (K w.params).In h) (hT : ∀ (w : World) (h : Heap), YP w h → ∀ p ∈ cs, h.get? p.2 = some { cls := .none, data := .fields #[] })
    (nT : ∀ w : World, ∀ p ∈ cs, (K w.params).lookup p.2 = none) (hC : ∀ w : World, ∀ p ∈ cs, PySem.W.codeHdIn (K w.params) p.1 p.2 = true)
    (F : ∀ (w : World) (mg : Str → Option Value) (fa : Addr) (h : Heap), (K w.params).In h → h.Ns mainGlobals mg → mg d.name = some (.ref fa) →
      ∃ fd : FuncData, (∀ (s : Shared) (u : Value), BindsTo s fd ⟨[u], []⟩ [(x, u)]) ∧ ∀ base : Heap, (K w.params).In base → base.Ns mainGlobals mg → (∀ p ∈ cs, LamX.TabB base mg p.1 p.2) → Fn ⟨l.prog, w, K w.params, mg, base⟩ k fa fd [x] R)
    (hsp : ∀ (K : PySem.W.Frag) (mg : Str → Option Value) (H : Hp) (a : Addr) (ns : List Int), ns.length ≤ n → (∀ p ∈ cs, H p.2 = some (.tbl #[])) → SqL K H a (ns.map V.int) → spA K mg R [.ref a] H (fun v _ => v = .bl true) fun _ _ _ => False) :
    PySem.W.WalkO q loose XP YP l.row.toRowW d [] (fun f vs => PySem.call f vs) := by
  refine Att.attach_call hn hdf fun w s₀ s₁ mg mb fa o pm cd doc a vs ns G Y ho hd hcd hmg hobj hints hlen hg => ?_
  obtain ⟨fd, hb, hF⟩ := F w mg fa _ (hY w _ Y) G.T.g hmg
  exact law_callAT (hY w _ Y) G.T.g G.T.b G.T.builtins G.T.nolimit hg (hT w _ Y) (nT w) (fun p hp => PySem.W.codeHd_of_K (hY w _ Y) (hC w p hp)) G.T.bmain hobj hints (Nat.le_trans hlen hn2) hr hF hb fun H hH hS => hsp _ mg H a ns hlen hH hS
/-- what a law is asked: the tables of the defs that make functions are its first owned objects -/
def tabs : List ((Addr × Addr) × Str) → Own
  | [] => []
  | (p, q) :: r => .tbl p.2 q :: tabs r
def rLawT (ts : List ((Addr × Addr) × Str)) : RA := fun args O Φ => ∃ ns, args = [.s ns] ∧ ns.length ≤ 63 ∧ O = tabs ts ∧ ∀ O', Φ (pB true) O'
theorem tabs_len : ∀ ts : List ((Addr × Addr) × Str), (tabs ts).length = ts.length
  | [] => rfl
  | _ :: r => congrArg (· + 1) (tabs_len r)
theorem tabs_at : ∀ {ts : List ((Addr × Addr) × Str)} {i : Nat} {a : Addr} {ob : AO}, (tabs ts)[i]? = some ob → (ts.map (·.1.2))[i]? = some a → ∃ q, ob = .tbl a q
  | [], _, _, _, h, _ => by simp [tabs] at h
  | (p, q) :: r, 0, a, ob, h1, h2 => by
    have h1 : some (AO.tbl p.2 q) = some ob := h1
    have h2 : some p.2 = some a := h2
    cases h1
    cases h2
    exact ⟨q, rfl⟩
  | (p, q) :: r, i + 1, a, ob, h1, h2 => tabs_at (ts := r) (i := i) h1 h2
theorem law_spT (ts : List ((Addr × Addr) × Str)) (hnd : (ts.map (·.1.2)).Nodup) (K : PySem.W.Frag) (mg : Str → Option Value) (H : Hp) (a : Addr) (ns : List Int) (hl : ns.length ≤ 63) (hH : ∀ p ∈ ts.map (·.1), H p.2 = some (.tbl #[])) (hS : SqL K H a (ns.map V.int)) :
    spA K mg (up (rLawT ts)) [.ref a] H (fun v _ => v = .bl true) fun _ _ _ => False := by
  have tabH : ∀ b, b ∈ ts.map (·.1.2) → H b = some (.tbl #[]) := fun b hb => by
    obtain ⟨t, ht, e⟩ := List.mem_map.mp hb
    rw [← e]
    exact hH t.1 (List.mem_map.mpr ⟨t, ht, rfl⟩)
  refine ⟨tabs ts, ts.map (·.1.2), fun b => if b ∈ ts.map (·.1.2) then none else H b, [.s ns], fun pv _ => pv = pB true, fun _ _ => False, ⟨Gr.refl _, Same.refl _, by rw [tabs_len, List.length_map], hnd, fun b u e => ?_, fun i b ob h1 h2 => ?_⟩, .cons ⟨a, rfl, ?_⟩ .nil, ⟨ns, rfl, hl, rfl, fun _ => rfl⟩, fun v H' z => ?_, fun cls d H' z => ?_⟩
  · by_cases hb : b ∈ ts.map (·.1.2)
    · exact absurd ((if_pos hb).symm.trans e) (by simp)
    · exact (if_neg hb).symm.trans e
  · obtain ⟨q, rfl⟩ := tabs_at h1 h2
    have hb := List.mem_of_getElem? h2
    exact ⟨rfl, if_pos hb, #[], tabH _ hb, by first | exact trivial | constructor | decide, fun pos cv h => by first | cases h | (simp [codeAmong] at h)⟩
  · have na : ∀ u : HO, H a = some u → u ≠ .tbl #[] → (fun b => if b ∈ ts.map (·.1.2) then none else H b : Hp) a = some u := fun u e hu => by
      refine (if_neg fun hb => ?_).trans e
      rw [tabH a hb] at e
      cases e
      exact hu rfl
    rcases hS with (z | ⟨o, z⟩) | z
    · exact .inl (.inl (na _ z (by simp)))
    · exact .inl (.inr ⟨o, na _ z (by simp)⟩)
    · exact .inr z
  · obtain ⟨pv, O', as', F', w', g', s', r, e⟩ := z
    subst e
    cases (show Dq F' v (.bool true) from r)
    rfl
  · obtain ⟨_, _, _, _, _, _, _, _, q⟩ := z
    exact q
end Al
namespace Al
open PySem PySem.Spec L2
open PyProof.Rows hiding St
/-! ### a function made in the running frame: what its cells hold -/
section
variable {X : Ax} {ρ : Env1} {kn n : Nat} {Rn : RX} {caps : List PV}
theorem capX_lm {F : LF} (fr : List Str) (js : List Nat) (hcl : F.cl = cloFrom X.c.env.cells F.scope.names []) (hcap : js.map (fun j => ρ[j]?) = caps.map (fun c => some (some c))) (ok : ∀ f, COk X.c.prog X.c.w X.c.K X.c.mg X.c.base (CX X.c.prog X.c.w) kn f (.lm F) n fr (spC X.c.K X.c.mg Rn))
    (hb : NdefX.ndefB X.c.env.scope F.scope fr = true) (hjs : js.map (fun j => X.N[j]?) = fr.map some) : CapX X ρ kn n Rn (.lm F) caps :=
  ⟨fr, js, fun k => by show NdefX.Caps X.c F.cl fr js; rw [hcl]; exact NdefX.Caps.made k (NdefX.ndef_free hb) (NdefX.ndef_fr hb) hjs, hcap, ok⟩
end
end Al
namespace Al
/-! ### the first word that leads somewhere (words stand backwards: the last sign ahead) -/
/-- shorter, or as long and ahead as letters go -/
def sl : List Nat → List Nat → Prop
  | [], [] => False
  | [], _ :: _ => True
  | _ :: _, [] => False
  | c :: u, d :: v => sl u v ∨ (u = v ∧ c < d)
theorem sl_nil {u : List Nat} : ¬ sl u [] := by cases u <;> simp [sl]
theorem sl_cons {c d : Nat} {u v : List Nat} : sl (c :: u) (d :: v) ↔ sl u v ∨ (u = v ∧ c < d) := by simp [sl]
theorem sl_irrefl : ∀ u : List Nat, ¬ sl u u
  | [] => sl_nil
  | c :: u => fun h => by
    rcases sl_cons.mp h with h | ⟨_, h⟩
    · exact sl_irrefl u h
    · omega
theorem sl_trans : ∀ {u v w : List Nat}, sl u v → sl v w → sl u w
  | _, _, [], _, h => (sl_nil h).elim
  | _, [], _, h, _ => (sl_nil h).elim
  | [], _ :: _, _ :: _, _, _ => by simp [sl]
  | a :: u, b :: v, c :: w, h1, h2 => by
    rw [sl_cons] at h1 h2 ⊢
    rcases h1 with h1 | ⟨e1, h1⟩ <;> rcases h2 with h2 | ⟨e2, h2⟩
    · exact .inl (sl_trans h1 h2)
    · exact .inl (e2 ▸ h1)
    · exact .inl (e1 ▸ h2)
    · exact .inr ⟨e1.trans e2, by omega⟩
theorem sl_total : ∀ u v : List Nat, sl u v ∨ u = v ∨ sl v u
  | [], [] => .inr (.inl rfl)
  | [], _ :: _ => .inl (by simp [sl])
  | _ :: _, [] => .inr (.inr (by simp [sl]))
  | a :: u, b :: v => by
    rw [sl_cons, sl_cons]
    rcases sl_total u v with h | h | h
    · exact .inl (.inl h)
    · subst h
      rcases Nat.lt_trichotomy a b with h | h | h
      · exact .inl (.inr ⟨rfl, h⟩)
      · exact .inr (.inl (by rw [h]))
      · exact .inr (.inr (.inr ⟨rfl, h⟩))
    · exact .inr (.inr (.inl h))
theorem sl_asymm {u v : List Nat} (h1 : sl u v) (h2 : sl v u) : False := sl_irrefl u (sl_trans h1 h2)
theorem sl_snoc : ∀ (c : Nat) (u : List Nat), sl u (c :: u)
  | _, [] => by simp [sl]
  | c, d :: u => by rw [sl_cons]; exact .inl (sl_snoc d u)
theorem sl_acc : ∀ u : List Nat, Acc sl u
  | [] => ⟨_, fun v h => (sl_nil h).elim⟩
  | c :: u => by
    have key : ∀ u : List Nat, Acc sl u → ∀ c, Acc sl (c :: u) := fun u hu => by
      induction hu with
      | intro u _ ih =>
        intro c
        induction c using Nat.strongRecOn with
        | _ c ihc =>
          refine ⟨_, fun v h => ?_⟩
          cases v with
          | nil => exact ⟨_, fun v h => (sl_nil h).elim⟩
          | cons d v =>
            rcases sl_cons.mp h with h2 | ⟨e, h2⟩
            · exact ih v h2 d
            · rw [e]; exact ihc d h2
    exact key u (sl_acc u) c
theorem sl_least {P : List Nat → Prop} {u : List Nat} (h : P u) : ∃ v, P v ∧ (∀ x, P x → ¬ sl x v) ∧ (v = u ∨ sl v u) := by
  induction sl_acc u with
  | intro u _ ih =>
    by_cases hx : ∃ x, P x ∧ sl x u
    · obtain ⟨x, hp, hs⟩ := hx
      obtain ⟨v, h1, h2, h3⟩ := ih x hs hp
      refine ⟨v, h1, h2, .inr ?_⟩
      rcases h3 with e | h3
      · rw [e]; exact hs
      · exact sl_trans h3 hs
    · exact ⟨u, h, fun x hp hs => hx ⟨x, hp, hs⟩, .inl rfl⟩
section
variable {α : Type} (nx : α → Nat → List α) (st : α)
/-- the word leads from st to y -/
def Rc : List Nat → α → Prop
  | [], y => y = st
  | c :: w, y => ∃ z, Rc w z ∧ y ∈ nx z c
/-- the first such word, the one without signs among them -/
def Lw (w : List Nat) (y : α) : Prop := Rc nx st w y ∧ ∀ u, Rc nx st u y → ¬ sl u w
/-- the first such word, not without signs -/
def Fst (w : List Nat) (y : α) : Prop := w ≠ [] ∧ Rc nx st w y ∧ ∀ u, u ≠ [] → Rc nx st u y → ¬ sl u w
variable {nx st}
theorem Lw.fst {w : List Nat} {y : α} (h : Lw nx st w y) (hw : w ≠ []) : Fst nx st w y := ⟨hw, h.1, fun u _ hu => h.2 u hu⟩
theorem Fst.uniq {u w : List Nat} {y : α} (h1 : Fst nx st u y) (h2 : Fst nx st w y) : u = w := by
  rcases sl_total u w with h | h | h
  · exact (h2.2.2 u h1.1 h1.2.1 h).elim
  · exact h
  · exact (h1.2.2 w h2.1 h2.2.1 h).elim
theorem Lw.ahead {c : Nat} {v : List Nat} {y : α} (h : Lw nx st (c :: v) y) : ∃ z, Lw nx st v z ∧ y ∈ nx z c := by
  obtain ⟨z, hz, hy⟩ := h.1
  exact ⟨z, ⟨hz, fun u hu hs => h.2 (c :: u) ⟨z, hu, hy⟩ (sl_cons.mpr (.inl hs))⟩, hy⟩
/-- the state while the group S of the word w is gone through, the signs d done: K known, Q waiting -/
structure Jn (nx : α → Nat → List α) (st goal : α) (w : List Nat) (S : List α) (d : List Nat) (K : List α) (Q : List (List α × List Nat)) : Prop where
  known : ∀ x ∈ K, (∃ u, Fst nx st u x) ∧ x ≠ goal
  nd : K.Nodup
  done : ∀ y u c x, Lw nx st u y → x ∈ nx y c → (sl u w ∨ (u = w ∧ c ∈ d)) → x ∈ K
  wait : ∀ g ∈ Q, sl w g.2 ∧ g.1 ≠ [] ∧ (∀ x ∈ g.1, Fst nx st g.2 x ∧ x ∈ K) ∧ ∃ c v, g.2 = c :: v ∧ (sl v w ∨ (v = w ∧ c ∈ d))
  up : Q.Pairwise fun g g' => sl g.2 g'.2
  where_ : ∀ x ∈ K, ∀ u, Fst nx st u x → sl u w ∨ u = w ∨ ∃ g ∈ Q, g.2 = u ∧ x ∈ g.1
  cur : ∀ x, Lw nx st w x → x ∈ S
  lead : ∀ x ∈ S, Rc nx st w x
theorem Jn.start {goal : α} : Jn nx st goal [] [st] [] [] [] :=
  ⟨fun x h => (List.not_mem_nil h).elim, List.nodup_nil, fun y u c x _ _ h => h.elim (fun h => (sl_nil h).elim) fun h => (List.not_mem_nil h.2).elim, fun g h => (List.not_mem_nil h).elim, .nil, fun x h => (List.not_mem_nil h).elim, fun x h => List.mem_singleton.mpr h.1, fun x h => List.mem_singleton.mp h⟩
/-- a room that a step of the group tells, not known yet: its first word -/
theorem Jn.new {goal : α} {w : List Nat} {S : List α} {d : List Nat} {K : List α} {Q : List (List α × List Nat)} {c : Nat} (J : Jn nx st goal w S d K Q) (hd : ∀ y x c', x ∈ nx y c' → c' < c → c' ∈ d) {y x : α} (hy : y ∈ S) (hx : x ∈ nx y c) (hk : x ∉ K) : Fst nx st (c :: w) x := by
  refine ⟨by simp, ⟨y, J.lead y hy, hx⟩, fun u hu hr hs => hk ?_⟩
  cases u with
  | nil => exact (hu rfl).elim
  | cons c' u' =>
    obtain ⟨z, hz, hxz⟩ := hr
    obtain ⟨v, h1, h2, h3⟩ := sl_least (P := fun v => Rc nx st v z) hz
    refine J.done z v c' x ⟨h1, h2⟩ hxz ?_
    rcases sl_cons.mp hs with h | ⟨e, h⟩
    · rcases h3 with e3 | h3
      · exact .inl (e3 ▸ h)
      · exact .inl (sl_trans h3 h)
    · rcases h3 with e3 | h3
      · exact .inr ⟨e3.trans e, hd z x c' hxz h⟩
      · exact .inl (e ▸ h3)
/-- all signs done: the rooms whose first word is not behind w have been gone through -/
theorem Jn.upto {goal : α} {w : List Nat} {S : List α} {d : List Nat} {K : List α} {Q : List (List α × List Nat)} (J : Jn nx st goal w S d K Q) (hd : ∀ y x c, x ∈ nx y c → c ∈ d) : ∀ u, (∀ g ∈ Q, sl u g.2) → ∀ y, Lw nx st u y → sl u w ∨ u = w := by
  intro u
  induction sl_acc u with
  | intro u _ ih =>
    intro hq y hy
    cases u with
    | nil =>
      cases w with
      | nil => exact .inr rfl
      | cons c w => exact .inl (by simp [sl])
    | cons c v =>
      obtain ⟨z, hz, hyz⟩ := hy.ahead
      have hv := ih v (sl_snoc c v) (fun g hg => sl_trans (sl_snoc c v) (hq g hg)) z hz
      have hk := J.done z v c y hz hyz (hv.imp id fun e => ⟨e, hd z y c hyz⟩)
      rcases J.where_ y hk (c :: v) (hy.fst (by simp)) with h | h | ⟨g, h1, h2, _⟩
      · exact .inl h
      · exact .inr h
      · exact (sl_irrefl _ (h2 ▸ hq g h1)).elim
/-- the next group -/
theorem Jn.next {goal : α} {w : List Nat} {S : List α} {d : List Nat} {K : List α} {Q : List (List α × List Nat)} {S' : List α} {w' : List Nat} (J : Jn nx st goal w S d K ((S', w') :: Q)) (hd : ∀ y x c, x ∈ nx y c → c ∈ d) : Jn nx st goal w' S' [] K Q := by
  obtain ⟨up1, up2⟩ := List.pairwise_cons.mp J.up
  obtain ⟨h1, h2, h3, c0, v0, e0, h5⟩ := J.wait _ List.mem_cons_self
  have all : ∀ u, sl u w' → ∀ y, Lw nx st u y → sl u w ∨ u = w := fun u hu y hy => J.upto hd u (fun g hg => by
    rcases List.mem_cons.mp hg with e | hg
    · rw [e]; exact hu
    · exact sl_trans hu (up1 g hg)) y hy
  refine ⟨J.known, J.nd, fun y u c x hu hx h => ?_, fun g hg => ?_, up2, fun x hx u hu => ?_, fun x hx => ?_, fun x hx => (h3 x hx).1.2.1⟩
  · rcases h with h | ⟨_, h⟩
    · exact J.done y u c x hu hx ((all u h y hu).imp id fun e => ⟨e, hd y x c hx⟩)
    · cases h
  · obtain ⟨a1, a2, a3, c, v, a4, a5⟩ := J.wait g (List.mem_cons_of_mem _ hg)
    refine ⟨up1 g hg, a2, a3, c, v, a4, .inl ?_⟩
    rcases a5 with a5 | ⟨e, _⟩
    · exact sl_trans a5 h1
    · rw [e]; exact h1
  · rcases J.where_ x hx u hu with h | h | ⟨g, hg, h⟩
    · exact .inl (sl_trans h h1)
    · rw [h]; exact .inl h1
    · rcases List.mem_cons.mp hg with e | hg
      · rw [e] at h
        exact .inr (.inl h.1.symm)
      · exact .inr (.inr ⟨g, hg, h⟩)
  · have e0 : w' = c0 :: v0 := e0
    subst e0
    obtain ⟨z, hz, hxz⟩ := hx.ahead
    have hv := all v0 (sl_snoc c0 v0) z hz
    have hk := J.done z v0 c0 x hz hxz (hv.imp id fun e => ⟨e, hd z x c0 hxz⟩)
    rcases J.where_ x hk _ (hx.fst (by simp)) with h | h | ⟨g, hg, hg2, hg3⟩
    · exact (sl_asymm h h1).elim
    · exact (sl_irrefl _ (h ▸ h1)).elim
    · rcases List.mem_cons.mp hg with e | hg
      · rw [e] at hg3; exact hg3
      · exact (sl_irrefl _ (by have := up1 g hg; rw [hg2] at this; exact this)).elim
/-- none waits: the goal is not led to -/
theorem Jn.none {goal : α} {w : List Nat} {S : List α} {d : List Nat} {K : List α} (J : Jn nx st goal w S d K []) (hd : ∀ y x c, x ∈ nx y c → c ∈ d) : ∀ u, u ≠ [] → ¬ Rc nx st u goal := by
  intro u hu hr
  cases u with
  | nil => exact hu rfl
  | cons c v =>
    obtain ⟨z, hz, hgz⟩ := hr
    obtain ⟨v', h1, h2, _⟩ := sl_least (P := fun v => Rc nx st v z) hz
    have h := J.upto hd v' (fun g hg => by cases hg) z ⟨h1, h2⟩
    exact (J.known goal (J.done z v' c goal ⟨h1, h2⟩ hgz (h.imp id fun e => ⟨e, hd z goal c hgz⟩))).2 rfl
end
end Al
namespace Al
open PySem PySem.Spec L2
open PyProof.Rows hiding St
/-! ### what is new, as found; promises of first_text and of what it is handed -/
section
variable {α : Type} [DecidableEq α]
def nwK (K l : List α) : List α := l.foldl (fun f t => if t ∈ K ++ f then f else f ++ [t]) []
theorem nwK_nil {K : List α} : nwK K [] = [] := rfl
theorem nwK_snoc {K l : List α} {t : α} : nwK K (l ++ [t]) = if t ∈ K ++ nwK K l then nwK K l else nwK K l ++ [t] := by
  unfold nwK
  rw [List.foldl_append]
  rfl
theorem nwK_old {K l : List α} {t : α} (h : t ∈ K ++ nwK K l) : nwK K (l ++ [t]) = nwK K l := by rw [nwK_snoc, if_pos h]
theorem nwK_add {K l : List α} {t : α} (h : t ∉ K ++ nwK K l) : nwK K (l ++ [t]) = nwK K l ++ [t] := by rw [nwK_snoc, if_neg h]
theorem snoc_ind {β : Type} {p : List β → Prop} (h0 : p []) (h1 : ∀ l t, p l → p (l ++ [t])) : ∀ l, p l := fun l => by
  have key : ∀ r : List β, p r.reverse := fun r => by
    induction r with
    | nil => exact h0
    | cons t r ih => rw [List.reverse_cons]; exact h1 _ _ ih
  have := key l.reverse
  rwa [List.reverse_reverse] at this
theorem nwK_mem {K : List α} : ∀ (l : List α) (x : α), x ∈ nwK K l ↔ x ∈ l ∧ x ∉ K := fun l => by
  induction l using snoc_ind with
  | h0 => intro x; rw [nwK_nil]; simp
  | h1 l t ih =>
    intro x
    by_cases h : t ∈ K ++ nwK K l
    · rw [nwK_old h, ih]
      constructor
      · rintro ⟨a, b⟩
        exact ⟨List.mem_append_left _ a, b⟩
      · rintro ⟨a, b⟩
        rcases List.mem_append.mp a with a | a
        · exact ⟨a, b⟩
        · rw [List.mem_singleton] at a
          subst a
          rcases List.mem_append.mp h with h | h
          · exact (b h).elim
          · exact (ih _).mp h
    · rw [nwK_add h, List.mem_append, ih, List.mem_append, List.mem_singleton]
      constructor
      · rintro (⟨a, b⟩ | rfl)
        · exact ⟨.inl a, b⟩
        · exact ⟨.inr rfl, fun z => h (List.mem_append_left _ z)⟩
      · rintro ⟨a | rfl, b⟩
        · exact .inl ⟨a, b⟩
        · exact .inr rfl
end
/-- the text of a word that stands backwards -/
def txw (w : List Nat) : Str := ⟨w.reverse.toArray⟩
theorem txw_inj {u v : List Nat} (h : txw u = txw v) : u = v := by
  have := congrArg (fun z : Str => z.cps.toList) h
  unfold txw at this
  simpa using this
end Al
namespace Al
open PySem PySem.Spec L2
open PyProof.Rows hiding St
/-! ### the state of first_text -/
/-- a group and its word -/
structure GrF (N : Nat) (K : List Nat) (g : List Nat × List Nat) : Prop where
  lt : ∀ x ∈ g.1, x < N
  nd : g.1.Nodup
  len : g.2.length ≤ K.length
  sg : ∀ c ∈ g.2, sgn c = true
structure FtI (nx : Nat → Nat → List Nat) (st goal N : Nat) (cs K : List Nat) (Q : List (List Nat × List Nat)) : Prop where
  lt : ∀ x ∈ K, x < N
  nd : K.Nodup
  gr : ∀ g ∈ Q, GrF N K g
  ql : Q.length ≤ K.length + 1
  st : (Q = [([st], [])] ∧ K = []) ∨ ∃ w S, Jn nx st goal w S cs K Q
/-- .. while the signs of a group are gone through -/
structure FtJ (nx : Nat → Nat → List Nat) (st goal N : Nat) (w : List Nat) (S d K : List Nat) (Q : List (List Nat × List Nat)) : Prop where
  lt : ∀ x ∈ K, x < N
  gr : ∀ g ∈ Q, GrF N K g
  ql : Q.length ≤ K.length + 1
  cur : GrF N K (S, w)
  jn : Jn nx st goal w S d K Q
section
variable {nx : Nat → Nat → List Nat} {st goal N : Nat} {cs K : List Nat} {Q : List (List Nat × List Nat)}
theorem FtI.start (h : st < N) : FtI nx st goal N cs [] [([st], [])] :=
  ⟨fun x h => (List.not_mem_nil h).elim, List.nodup_nil, fun g hg => (List.mem_singleton.mp hg) ▸ ⟨fun x hx => (List.mem_singleton.mp hx) ▸ h, by simp, Nat.le_refl _, fun c hc => (List.not_mem_nil hc).elim⟩, Nat.le_refl _, .inl ⟨rfl, rfl⟩⟩
theorem FtI.none (J : FtI nx st goal N cs K []) (hd : ∀ y x c, x ∈ nx y c → c ∈ cs) : ∀ u, u ≠ [] → ¬ Rc nx st u goal := by
  rcases J.st with ⟨e, _⟩ | ⟨w, S, j⟩
  · cases e
  · exact j.none hd
theorem FtJ.back {w S : List Nat} (J : FtJ nx st goal N w S cs K Q) : FtI nx st goal N cs K Q := ⟨J.lt, J.jn.nd, J.gr, J.ql, .inr ⟨w, S, J.jn⟩⟩
/-- what is new by a sign -/
abbrev nwF (nx : Nat → Nat → List Nat) (S K : List Nat) (c : Nat) : List Nat := nwK K (S.flatMap fun y => nx y c)
theorem nwF_mem {S : List Nat} {c x : Nat} : x ∈ nwF nx S K c ↔ (∃ y ∈ S, x ∈ nx y c) ∧ x ∉ K := by
  unfold nwF
  rw [nwK_mem, List.mem_flatMap]
/-- the goal is new by a sign: its first word -/
theorem FtJ.ends {w S : List Nat} {i c : Nat} (J : FtJ nx st goal N w S (cs.take i) K Q) (up : cs.Pairwise (· < ·)) (hi : cs[i]? = some c) (hnx : ∀ x c y, y ∈ nx x c → c ∈ cs ∧ y < N) (hg : goal ∈ nwF nx S K c) : Fst nx st (c :: w) goal := by
  have hlt : i < cs.length := (List.getElem?_eq_some_iff.mp hi).1
  have dle : ∀ c' ∈ cs, c' < c → c' ∈ cs.take i := fun c' h hc => by
    have sp : cs = cs.take i ++ cs.drop i := (List.take_append_drop i cs).symm
    rw [sp] at h
    rcases List.mem_append.mp h with h | h
    · exact h
    · have e2 : cs.drop i = c :: cs.drop (i + 1) := by
        rw [List.drop_eq_getElem_cons hlt]
        congr 1
        exact (List.getElem?_eq_some_iff.mp hi).2
      have u2 : (cs.drop i).Pairwise (· < ·) := up.sublist (List.drop_sublist _ _)
      rw [e2] at h u2
      rcases List.mem_cons.mp h with rfl | h
      · omega
      · have := (List.pairwise_cons.mp u2).1 c' h
        omega
  obtain ⟨⟨y, hy, hx⟩, hk⟩ := nwF_mem.mp hg
  exact J.jn.new (fun y x c' hx hc => dle c' (hnx y c' x hx).1 hc) hy hx hk
end
/-- the last object, a list, frozen -/
theorem frzO_last {U : Own} {n : Nat} {ds : List PyData} (cl : ClO U) (hn : U.length = n) : frzO n (.list ds) (U ++ [AO.lst (ds.map PV.d)]) = U ++ [.gone] := by
  subst hn
  unfold frzO
  rw [List.set_append_right _ _ (Nat.le_refl _), Nat.sub_self, List.map_append, own_frz_below cl]
  rfl
end Al
namespace Al
open PySem PySem.Spec L2
open PyProof.Rows hiding St
/-! ### d.get(k, x) -/
def rGet2 : V → List V → Hp → VK → Prop := fun x xs H Q => ∃ (a : Addr) (y d : V) (o : Option V), x = .ref a ∧ xs = [y, d] ∧ DGet H a y o ∧ Q (o.getD d) H
theorem mt_get2 {X : Cx} (hu : X.A.units + 1 < cLine) : MtR X "dict.get" rGet2 := by
  intro pins s σ H x xs v us Q I rx rxs h
  obtain ⟨a, y, d, o, rfl, rfl, g, q⟩ := h
  cases rx
  obtain ⟨u1, u2, rfl, r1, r2⟩ := vals2 rxs
  exact d_get2 hu I g r1 r2 fun w' s' I' r' => ⟨_, _, I', r', q⟩
section
variable {X : Ax} {O : Own} {Φ : PV → Own → Prop}
theorem m_getDT {n : Nat} {kvs : List (List Key × PV)} {ks : List Key} {y : PV} (hu : X.A.units + 1 < cLine) (hO : O[n]? = some (.dT kvs)) (k1 : ∀ v, getK kvs ks = some v → Φ v O) (k2 : getK kvs ks = none → Φ y O) : MtA X "dict.get" (.o n) [pT (ks.map keyD), y] O Φ := mta_of (mt_get2 hu) fun as F H v vs w rx rxs => by
  cases rxs with
  | cons r1 t =>
    cases t with
    | cons r2 t =>
      cases t
      obtain ⟨p, ws, rfl, hp, fn, hh, rws, g, _⟩ := dget_T w hO rx r1
      refine ⟨p, _, _, _, rfl, rfl, g, ?_⟩
      cases hg : getK kvs ks with
      | none =>
        rw [getK_none rws hg]
        exact PQ.mk w r2 (k2 hg)
      | some x =>
        obtain ⟨v', h1, h2⟩ := getK_some rws hg
        rw [h1]
        exact PQ.mk w h2 (k1 x hg)
end
/-- the table of steps as by_signs tells it: keys (room, sign), the rooms to which they lead -/
def kSg (c : Nat) : Key := .inr ⟨#[c]⟩
end Al
namespace Al
open PySem PySem.Spec L2
open PyProof.Rows hiding St
section
variable {P : Program} {w : World} {K : PySem.W.Frag} {mg : Str → Option Value} {base : Heap}
/-- a def that may raise, its code object known -/
theorem okXc {x qual : Str} {st : Stmt} {f : Addr} {fd : FuncData} {N ps : List Str} {k : Nat} {R : RX} (F : Fun K x qual st f fd) (S : FnScope N ps (defScope st)) (len : ∀ args O Φ Ξ, R args O Φ Ξ → args.length = ps.length)
    (hbody : ∀ (cdv : Value), fd.code = cdv → ∀ (A : Around) (outer : List Env) (s : Shared) (H : Hp) (E : XK) (as0 : List Addr) (F0 : Hp) (args : List PV) (O : Own) (Φ : PV → Own → Prop) (Ξ : Ex → Own → Prop), RoomG k (A.deeper (envOfC qual (defScope st) s.heap.objs.size f cdv)) → R args O Φ Ξ → TakesA (axX P w K mg base N qual (defScope st) f cdv A outer s H E as0 F0) (fun e _ O' => XGh O.length Ξ e O') →
      PassesOwn (model P w) (A.deeper (envOfC qual (defScope st) s.heap.objs.size f cdv)) (envOfC qual (defScope st) s.heap.objs.size f cdv) (axX P w K mg base N qual (defScope st) f cdv A outer s H E as0 F0).c.xe →
      ASs (axX P w K mg base N qual (defScope st) f cdv A outer s H E as0 F0) (defBody st) (args.map some ++ List.replicate (N.length - args.length) none) O { nx := fun _ O' => Gh O.length Φ (.d .none) O', rt := Gh O.length Φ }) : Fn ⟨P, w, K, mg, base⟩ (k + 1) f fd ps R := by
  obtain ⟨oc, od, kV, doc, pm, an, cdv, ct, osl, rfl, lk, hcd⟩ := F.ex
  refine fnA_of lk hcd S (fun vs H Q E h => ?_) fun A outer s H vs Q E hr h => ?_
  · obtain ⟨O, as, F, args, Φ, Ξ, w, rs, q, _⟩ := h
    rw [← rs.len]
    exact len _ _ _ _ q
  · obtain ⟨O, as, F, args, Φ, Ξ, w0, rs, q, hQ, hE⟩ := h
    have tk : TakesA (axX P w K mg base N qual (defScope st) f cdv A outer s H E as F) (fun e _ O' => XGh O.length Ξ e O') := by
      refine Takes.imp (takes_of (X := (axX P w K mg base N qual (defScope st) f cdv A outer s H E as F).c) (E := E) rfl rfl rfl rfl) fun cls d σ H' z => ?_
      obtain ⟨e, ρ', O', as', F', w', r', x', q'⟩ := z
      exact hE _ _ _ (q'.sound (by rw [w0.len]; exact Nat.le_refl _) w0.fa.le w' w'.fa w'.fF x')
    have z := hbody cdv rfl A outer s H E as F args O Φ Ξ hr q tk (passes_of (X := (axX P w K mg base N qual (defScope st) f cdv A outer s H E as F).c) rfl) as F (L2.start N vs) H w0 (by unfold L2.start; rw [← rs.len]; exact RS.start _ rs)
    refine ⟨_, pss_tSs (X := (axX P w K mg base N qual (defScope st) f cdv A outer s H E as F).c), ?_⟩
    refine tSs_le z ⟨fun σ' H' y => ?_, fun v H' y => ?_, fun _ _ y => ?_, fun _ _ y => ?_⟩
    · obtain ⟨ρ', O', as', F', w', g', s', r', q'⟩ := y
      exact hQ _ _ (q'.sound (by rw [w0.len]; exact Nat.le_refl _) w0.fa.le w' g' s' .non)
    · exact hQ _ _ (PQ.gh (by rw [w0.len]; exact Nat.le_refl _) w0.fa.le y)
    · obtain ⟨_, _, _, _, _, _, _, _, z⟩ := y
      exact z
    · obtain ⟨_, _, _, _, _, _, _, _, z⟩ := y
      exact z
end
/-! ### promises of k41 -/
/-- the rooms to which steps lead -/
def tosM (m : Mach) (x c : Nat) : List Nat := (m.st.filter fun s => decide (s.1 = x) && decide (s.2.1 = c)).map fun s => s.2.2
theorem tosM_mem {m : Mach} {x c y : Nat} : y ∈ tosM m x c ↔ (x, c, y) ∈ m.st := by
  unfold tosM
  rw [List.mem_map]
  constructor
  · rintro ⟨⟨a, b, d⟩, h, rfl⟩
    rw [List.mem_filter, Bool.and_eq_true, decide_eq_true_eq, decide_eq_true_eq] at h
    obtain ⟨h, rfl, rfl⟩ := h
    exact h
  · intro h
    exact ⟨(x, c, y), List.mem_filter.mpr ⟨h, by simp⟩, rfl⟩
end Al
namespace Al
open PySem PySem.Spec L2
open PyProof.Rows hiding St
/-! ### the table of steps while it grows (by_signs) -/
end Al
namespace Al
open PySem PySem.Spec L2
open PyProof.Rows hiding St
/-! ### the nearest words, level by level (k41) -/
theorem sl_len : ∀ {u v : List Nat}, sl u v → u.length ≤ v.length
  | [], _, _ => Nat.zero_le _
  | _ :: _, [], h => (sl_nil h).elim
  | c :: u, d :: v, h => by
    rw [sl_cons] at h
    rcases h with h | ⟨rfl, _⟩
    · exact Nat.succ_le_succ (sl_len h)
    · exact Nat.le_refl _
/-- texts in their order -/
theorem lex_snoc : ∀ {a b : List Nat} {c d : Nat}, a.length = b.length → ((a ++ [c] < b ++ [d]) ↔ (a < b ∨ (a = b ∧ c < d)))
  | [], [], c, d, _ => by
    rw [List.nil_append, List.nil_append, List.cons_lt_cons_iff]
    simp
  | [], _ :: _, _, _, h => by simp at h
  | _ :: _, [], _, _, h => by simp at h
  | x :: a, y :: b, c, d, h => by
    have h2 : a.length = b.length := by simpa using h
    clear h
    rw [List.cons_append, List.cons_append, List.cons_lt_cons_iff, List.cons_lt_cons_iff, lex_snoc h2]
    constructor
    · rintro (h | ⟨e, h | ⟨e2, h⟩⟩)
      · exact .inl (.inl h)
      · exact .inl (.inr ⟨e, h⟩)
      · exact .inr ⟨by rw [e, e2], h⟩
    · rintro ((h | ⟨e, h⟩) | ⟨h, h3⟩)
      · exact .inl h
      · exact .inr ⟨e, .inl h⟩
      · cases h
        exact .inr ⟨rfl, .inr ⟨rfl, h3⟩⟩
theorem sl_rev : ∀ {u v : List Nat}, u.length = v.length → (sl u v ↔ u.reverse < v.reverse)
  | [], [], _ => by simp [sl]
  | [], _ :: _, h => by simp at h
  | _ :: _, [], h => by simp at h
  | c :: u, d :: v, h => by
    have h2 : u.length = v.length := by simpa using h
    clear h
    rw [sl_cons, List.reverse_cons, List.reverse_cons, lex_snoc (by simpa using h2), ← sl_rev h2]
    constructor
    · rintro (h | ⟨e, h⟩)
      · exact .inl h
      · exact .inr ⟨by rw [e], h⟩
    · rintro (h | ⟨h, h3⟩)
      · exact .inl h
      · exact .inr ⟨List.reverse_inj.mp h, h3⟩
abbrev Wr := List Nat × Nat
abbrev wrD (p : Wr) : PyData := .tuple [.str (txw p.1), iD p.2]
theorem dataLe_wr {a b : Wr} (h : PySem.W.dataLe false wrD a b = true) (hl : a.1.length = b.1.length) : ¬ sl b.1 a.1 := by
  intro hs
  have h2 : (!PySem.W.dataLt (wrD b) (wrD a)) = true := h
  have hne : b.1 ≠ a.1 := fun e => sl_irrefl _ (e ▸ hs)
  have e1 : PyData.eqv (.str (txw b.1)) (.str (txw a.1)) = false := by
    simp only [PyData.eqv, beq_eq_false_iff_ne, ne_eq]
    exact fun e => hne (txw_inj e)
  have e2 : PySem.W.dataLt (wrD b) (wrD a) = true := by
    show PySem.W.dataLt (.tuple [.str (txw b.1), iD b.2]) (.tuple [.str (txw a.1), iD a.2]) = true
    rw [PySem.W.dataLt_tuple, PySem.W.dataLt_cons (by simp [PySem.W.alike]), e1, if_neg (by simp), PySem.W.dataLt_str]
    exact decide_eq_true ((sl_rev hl.symm).mp hs)
  rw [e2] at h2
  cases h2
/-! the levels -/
theorem Lw.uniq {α : Type} {nx : α → Nat → List α} {st : α} {u w : List Nat} {y : α} (h1 : Lw nx st u y) (h2 : Lw nx st w y) : u = w := by
  rcases sl_total u w with h | h | h
  · exact (h2.2 u h1.1 h).elim
  · exact h
  · exact (h1.2 w h2.1 h).elim
theorem Lw.has {α : Type} {nx : α → Nat → List α} {st : α} {u : List Nat} {y : α} (h : Rc nx st u y) : ∃ w, Lw nx st w y := by
  obtain ⟨v, h1, h2, _⟩ := sl_least (P := fun v => Rc nx st v y) h
  exact ⟨v, h1, h2⟩
theorem Lw.nil {α : Type} {nx : α → Nat → List α} {st : α} : Lw nx st [] st := ⟨rfl, fun u _ h => sl_nil h⟩
/-- n levels done: F found, R the rows of the last one -/
structure NrI (m : Mach) (a n : Nat) (F R : List Wr) : Prop where
  fnd : ∀ p ∈ F, Lw (tosM m) a p.1 p.2 ∧ p.1.length ≤ n
  nd : (F.map (·.2)).Nodup
  all : ∀ w y, Lw (tosM m) a w y → w.length ≤ n → (w, y) ∈ F
  row : ∀ p ∈ R, Lw (tosM m) a p.1 p.2 ∧ p.1.length = n
  rows : ∀ w y, Lw (tosM m) a w y → w.length = n → (w, y) ∈ R
theorem NrI.start {m : Mach} {a : Nat} : NrI m a 0 [([], a)] [([], a)] := by
  have h0 : ∀ w y, Lw (tosM m) a w y → w.length = 0 → (w, y) = (([] : List Nat), a) := fun w y h hl => by
    obtain rfl := List.length_eq_zero_iff.mp hl
    rw [show y = a from h.1]
  refine ⟨fun p hp => ?_, by simp, fun w y h hl => ?_, fun p hp => ?_, fun w y h hl => ?_⟩
  · rw [List.mem_singleton.mp hp]; exact ⟨Lw.nil, Nat.le_refl _⟩
  · rw [h0 w y h (by omega)]; simp
  · rw [List.mem_singleton.mp hp]; exact ⟨Lw.nil, rfl⟩
  · rw [h0 w y h hl]; simp
/-- what the rows lead to, in the steps' order -/
def ltr (m : Mach) (R : List Wr) : List Wr := R.flatMap fun p => (m.st.filter fun s => decide (s.1 = p.2)).map fun s => (s.2.1 :: p.1, s.2.2)
theorem ltr_mem {m : Mach} {R : List Wr} {q : Wr} : q ∈ ltr m R ↔ ∃ p ∈ R, ∃ c, q.1 = c :: p.1 ∧ (p.2, c, q.2) ∈ m.st := by
  unfold ltr
  rw [List.mem_flatMap]
  constructor
  · rintro ⟨p, hp, h⟩
    obtain ⟨s, hs, rfl⟩ := List.mem_map.mp h
    obtain ⟨h1, h2⟩ := List.mem_filter.mp hs
    have h2 := of_decide_eq_true h2
    exact ⟨p, hp, s.2.1, rfl, by rw [← h2]; exact h1⟩
  · rintro ⟨p, hp, c, h1, h2⟩
    refine ⟨p, hp, List.mem_map.mpr ⟨(p.2, c, q.2), List.mem_filter.mpr ⟨h2, by simp⟩, ?_⟩⟩
    show (c :: p.1, q.2) = q
    rw [← h1]
/-- the first of each new room, j of the sorted ones gone through -/
structure NrJ (L : List Wr) (F : List Wr) (j : Nat) (G : List Wr) : Prop where
  mem : ∀ p ∈ G, p ∈ L ∧ p.2 ∉ F.map (·.2) ∧ ∀ q ∈ L, q.2 = p.2 → ¬ sl q.1 p.1
  has : ∀ p ∈ L.take j, p.2 ∉ F.map (·.2) → p.2 ∈ G.map (·.2)
  nd : (G.map (·.2)).Nodup
theorem NrJ.start {L F : List Wr} : NrJ L F 0 [] := ⟨(fun _ h => nomatch h), (fun p h => by rw [List.take_zero] at h; cases h), by simp⟩
theorem NrJ.old {L F G : List Wr} {j : Nat} {p : Wr} (J : NrJ L F j G) (hp : L[j]? = some p) (h : p.2 ∈ (F ++ G).map (·.2)) : NrJ L F (j + 1) G := by
  refine ⟨J.mem, fun q hq hn => ?_, J.nd⟩
  rw [List.take_add_one, hp] at hq
  rcases List.mem_append.mp hq with hq | hq
  · exact J.has q hq hn
  · have : q = p := by simpa using hq
    subst this
    rw [List.map_append] at h
    rcases List.mem_append.mp h with h | h
    · exact (hn h).elim
    · exact h
theorem NrJ.new {L F G : List Wr} {j n : Nat} {p : Wr} (J : NrJ L F j G) (hL : L.Pairwise (fun a b => PySem.W.dataLe false wrD a b = true)) (hn : ∀ q ∈ L, q.1.length = n) (hp : L[j]? = some p) (h : p.2 ∉ (F ++ G).map (·.2)) : NrJ L F (j + 1) (G ++ [p]) := by
  have hpm := List.mem_of_getElem? hp
  rw [List.map_append] at h
  refine ⟨fun q hq => ?_, fun q hq hnq => ?_, ?_⟩
  · rcases List.mem_append.mp hq with hq | hq
    · exact J.mem q hq
    · have : q = p := by simpa using hq
      subst this
      refine ⟨hpm, fun z => h (List.mem_append_left _ z), fun x hx e hs => ?_⟩
      obtain ⟨i, hi⟩ := List.getElem?_of_mem hx
      have hj := (List.getElem?_eq_some_iff.mp hp)
      have hi2 := (List.getElem?_eq_some_iff.mp hi)
      obtain ⟨j1, j2⟩ := hj
      obtain ⟨i1, i2⟩ := hi2
      by_cases hij : i < j
      · refine h (List.mem_append_right _ ?_)
        rw [← e]
        refine J.has x ?_ fun z => h (List.mem_append_left _ (e ▸ z))
        rw [List.mem_take_iff_getElem]
        exact ⟨i, by omega, i2⟩
      · by_cases hij2 : i = j
        · subst hij2
          rw [i2] at j2
          rw [j2] at hs
          exact sl_irrefl _ hs
        · have := List.pairwise_iff_getElem.mp hL j i j1 i1 (by omega)
          rw [i2, j2] at this
          exact dataLe_wr this (by rw [hn q hpm, hn x hx]) hs
  · rw [List.take_add_one, hp] at hq
    rw [List.map_append]
    rcases List.mem_append.mp hq with hq | hq
    · exact List.mem_append_left _ (J.has q hq hnq)
    · have : q = p := by simpa using hq
      subst this
      simp
  · rw [List.map_append]
    refine List.nodup_append.mpr ⟨J.nd, by simp, fun u hu v hv e => ?_⟩
    have : v = p.2 := by simpa using hv
    subst this
    exact h (List.mem_append_right _ (e ▸ hu))
theorem NrI.next {m : Mach} {a n : Nat} {F R L G : List Wr} (I : NrI m a n F R) (hL : L.Perm (ltr m R)) (J : NrJ L F L.length G) : NrI m a (n + 1) (F ++ G) G := by
  have memL : ∀ q, q ∈ L ↔ ∃ p ∈ R, ∃ c, q.1 = c :: p.1 ∧ (p.2, c, q.2) ∈ m.st := fun q => hL.mem_iff.trans ltr_mem
  have nf : ∀ {y : Nat}, y ∉ F.map (·.2) → ∀ v, Lw (tosM m) a v y → n + 1 ≤ v.length := fun {y} hy v hv => by
    by_cases h : v.length ≤ n
    · exact (hy (List.mem_map.mpr ⟨_, I.all v y hv h, rfl⟩)).elim
    · omega
  have ofL : ∀ w y, Lw (tosM m) a w y → w.length = n + 1 → (w, y) ∈ L := fun w y hw hl => by
    cases w with
    | nil => simp at hl
    | cons c v =>
      obtain ⟨z, hz, hy⟩ := hw.ahead
      exact (memL _).mpr ⟨(v, z), I.rows v z hz (by simpa using hl), c, rfl, tosM_mem.mp hy⟩
  have lenL : ∀ q ∈ L, q.1.length = n + 1 ∧ Rc (tosM m) a q.1 q.2 := fun q hq => by
    obtain ⟨p, hp, c, h1, h2⟩ := (memL q).mp hq
    obtain ⟨h3, h4⟩ := I.row p hp
    rw [h1]
    exact ⟨by rw [List.length_cons, h4], p.2, h3.1, tosM_mem.mpr h2⟩
  have G1 : ∀ p ∈ G, Lw (tosM m) a p.1 p.2 ∧ p.1.length = n + 1 := fun p hp => by
    obtain ⟨h1, h2, h3⟩ := J.mem p hp
    obtain ⟨h4, h5⟩ := lenL p h1
    refine ⟨?_, h4⟩
    obtain ⟨v, hv⟩ := Lw.has h5
    have hv1 := nf h2 v hv
    have e : v = p.1 := by
      rcases sl_total v p.1 with h | h | h
      · have hv2 : v.length = n + 1 := by have := sl_len h; omega
        exact (h3 (v, p.2) (ofL v p.2 hv hv2) rfl h).elim
      · exact h
      · exact (hv.2 p.1 h5 h).elim
    rw [← e]
    exact hv
  have G2 : ∀ w y, Lw (tosM m) a w y → w.length = n + 1 → (w, y) ∈ G := fun w y hw hl => by
    have h1 := ofL w y hw hl
    have h2 : y ∉ F.map (·.2) := fun z => by
      obtain ⟨p, hp, rfl⟩ := List.mem_map.mp z
      obtain ⟨h3, h4⟩ := I.fnd p hp
      have := h3.uniq hw
      rw [this] at h4
      omega
    have h3 := J.has (w, y) (by rw [List.take_length]; exact h1) h2
    obtain ⟨p, hp, e⟩ := List.mem_map.mp h3
    have e2 : p.2 = y := e
    have h4 := (G1 p hp).1
    rw [e2] at h4
    rw [hw.uniq h4, ← e2]
    exact hp
  refine ⟨fun p hp => ?_, ?_, fun w y hw hl => ?_, G1, G2⟩
  · rcases List.mem_append.mp hp with h | h
    · exact ⟨(I.fnd p h).1, Nat.le_succ_of_le (I.fnd p h).2⟩
    · exact ⟨(G1 p h).1, Nat.le_of_eq (G1 p h).2⟩
  · rw [List.map_append]
    refine List.nodup_append.mpr ⟨I.nd, J.nd, fun u hu v hv e => ?_⟩
    obtain ⟨p, hp, rfl⟩ := List.mem_map.mp hv
    exact (J.mem p hp).2.1 (e ▸ hu)
  · by_cases h : w.length ≤ n
    · exact List.mem_append_left _ (I.all w y hw h)
    · exact List.mem_append_right _ (G2 w y hw (by omega))
theorem NrI.done {m : Mach} {a n : Nat} {F : List Wr} (I : NrI m a n F []) {w : List Nat} {y : Nat} (h : Lw (tosM m) a w y) : (w, y) ∈ F := by
  refine I.all w y h ?_
  have key : ∀ w : List Nat, ∀ y, Lw (tosM m) a w y → w.length < n := fun w => by
    induction w with
    | nil =>
      intro y h
      by_cases h0 : n = 0
      · have := I.rows [] y h h0.symm
        cases this
      · exact Nat.pos_of_ne_zero h0
    | cons c v ih =>
      intro y h
      obtain ⟨z, hz, _⟩ := h.ahead
      have h1 := ih z hz
      by_cases h2 : (c :: v).length = n
      · have := I.rows _ y h h2
        cases this
      · rw [List.length_cons] at h2 ⊢
        omega
  exact Nat.le_of_lt (key w y h)
theorem NrI.lt {m : Mach} {a n : Nat} {F R : List Wr} (hm : MOk m) (ha : a < m.n) (I : NrI m a n F R) : ∀ p ∈ F, p.2 < m.n := fun p hp => by
  have h := (I.fnd p hp).1.1
  cases hw : p.1 with
  | nil => rw [hw] at h; rw [show p.2 = a from h]; exact ha
  | cons c v =>
    rw [hw] at h
    obtain ⟨z, _, hy⟩ := h
    exact (hm.st _ (tosM_mem.mp hy)).b
/-- the dict: rooms and their words -/
abbrev nrD (F : List Wr) : List (Key × PV) := F.map fun p => (kR p.2, pS (txw p.1))
theorem nrD_in {F : List Wr} {r : Nat} : (getK (nrD F) (kR r)).isSome = decide (r ∈ F.map (·.2)) := by
  unfold getK
  rw [Option.isSome_map, Bool.eq_iff_iff, List.find?_isSome, decide_eq_true_eq]
  constructor
  · rintro ⟨p, hp, h⟩
    obtain ⟨t, ht, rfl⟩ := List.mem_map.mp hp
    have := kR_inj (of_decide_eq_true h)
    subst this
    exact List.mem_map.mpr ⟨t, ht, rfl⟩
  · intro h
    obtain ⟨t, ht, rfl⟩ := List.mem_map.mp h
    exact ⟨_, List.mem_map.mpr ⟨t, ht, rfl⟩, decide_eq_true rfl⟩
theorem nrD_get {F : List Wr} (nd : (F.map (·.2)).Nodup) {p : Wr} (h : p ∈ F) : getK (nrD F) (kR p.2) = some (pS (txw p.1)) := by
  induction F with
  | nil => cases h
  | cons q F ih =>
    rw [List.map_cons, List.nodup_cons] at nd
    have hc : getK (nrD (q :: F)) (kR p.2) = if kR q.2 = kR p.2 then some (pS (txw q.1)) else getK (nrD F) (kR p.2) := by
      unfold getK nrD
      rw [List.map_cons, List.find?_cons]
      by_cases e : kR q.2 = kR p.2
      · simp [e]
      · simp [e]
    rw [hc]
    rcases List.mem_cons.mp h with rfl | h
    · rw [if_pos rfl]
    · rw [if_neg (fun e => nd.1 (by rw [kR_inj e]; exact List.mem_map.mpr ⟨p, h, rfl⟩)), ih nd.2 h]
/-- what _law_nearest tells -/
def TabN (m : Mach) (a : Nat) (kvs : List (Key × PV)) : Prop := (∀ w y, Lw (tosM m) a w y → getK kvs (kR y) = some (pS (txw w))) ∧ ∀ y, (∀ w, ¬ Rc (tosM m) a w y) → getK kvs (kR y) = none
theorem NrI.tab {m : Mach} {a n : Nat} {F : List Wr} (I : NrI m a n F []) : TabN m a (nrD F) := by
  refine ⟨fun w y h => nrD_get I.nd (I.done h), fun y h => ?_⟩
  have := nrD_in (F := F) (r := y)
  rw [decide_eq_false fun z => by
    obtain ⟨p, hp, rfl⟩ := List.mem_map.mp z
    exact h p.1 (I.fnd p hp).1.1] at this
  cases hg : getK (nrD F) (kR y) with
  | none => rfl
  | some x => rw [hg] at this; cases this
end Al
namespace Al
open PySem PySem.Spec L2
open PyProof.Rows hiding St
end Al
namespace Al
open PySem PySem.Spec L2
open PyProof.Rows hiding St
end Al
namespace Al
open PySem PySem.Spec L2
open PyProof.Rows hiding St
/-! ### dicts whose keys are tuples of whole numbers and truths, each value True -/
def nk : PyData → Int
  | .int i => i
  | .bool b => if b = true then 1 else 0
  | _ => 0
def isNk : PyData → Bool
  | .int _ => true
  | .bool _ => true
  | _ => false
def nkW : PyData → V
  | .int i => .int i
  | .bool b => .bl b
  | _ => .non
def nhash (ks : List Int) : Int := reduceHash (Builtin.Tuple.tupleHashOf (ks.map hashInt))
abbrev ent1 (x : List Int × Addr) : DictEntry := ⟨nhash x.1, .ref x.2, .bool true⟩
/-- the dict at a: its keys and where they stand -/
def DNO (a : Addr) (bs : List (List Int × Addr)) (ep : Nat) : HO := .ext fun h => (a == sysModules) = false ∧ bs.length ≤ sizeLine ∧ ∃ (o : Obj) (es : Array DictEntry), h.get? a = some o ∧ o.ExactDict ∧ o.data = .dict es ep ∧ es.toList = bs.map ent1 ∧ (bs.map (·.1)).Nodup
def NKs (F : Hp) : List (List PyData) → List (List Int × Addr) → Prop := Paired fun k b => k.all isNk = true ∧ b.1 = k.map nk ∧ F b.2 = some (.tup (k.map nkW))
theorem NKs.mono {F F' : Hp} (s : Same F F') : ∀ {ks : List (List PyData)} {bs : List (List Int × Addr)}, NKs F ks bs → NKs F' ks bs
  | _, _, .nil => .nil
  | _, _, .cons h t => .cons ⟨h.1, h.2.1, s _ _ h.2.2⟩ (NKs.mono s t)
theorem NKs.snoc {F : Hp} {k : List PyData} {b : List Int × Addr} (hk : k.all isNk = true ∧ b.1 = k.map nk ∧ F b.2 = some (.tup (k.map nkW))) : ∀ {ks : List (List PyData)} {bs : List (List Int × Addr)}, NKs F ks bs → NKs F (ks ++ [k]) (bs ++ [b])
  | _, _, .nil => .cons hk .nil
  | _, _, .cons h t => .cons h (NKs.snoc hk t)
theorem codeO_ne {a c : Addr} {q : Str} {bs : List (List Int × Addr)} {ep : Nat} : DNO a bs ep ≠ LamX.CodeO c q := by
  intro e
  have e2 : (fun h : Heap => (a == sysModules) = false ∧ bs.length ≤ sizeLine ∧ ∃ (o : Obj) (es : Array DictEntry), h.get? a = some o ∧ o.ExactDict ∧ o.data = .dict es ep ∧ es.toList = bs.map ent1 ∧ (bs.map (·.1)).Nodup) = fun h => ∃ (oc : Obj) (vs : Array Value) (t : Tok), h.get? c = some oc ∧ oc.data = .fields vs ∧ vs[1]? = some (.str q t) := by
    injection e
  let ob : Obj := { cls := .none, data := .fields #[.none, .str q 0] }
  have h0 := congrFun e2 { objs := Array.replicate (c + 1) ob }
  have h1 : (({ objs := Array.replicate (c + 1) ob } : Heap).get? c) = some ob := by
    simp [Heap.get?, Array.getElem?_replicate, ob]
  have h2 := h0.mpr ⟨ob, _, 0, h1, rfl, rfl⟩
  obtain ⟨_, _, o, es, ho, _, hd, _⟩ := h2
  have h3 : o = ob := by
    by_cases hac : a < c + 1
    · have h4 : (({ objs := Array.replicate (c + 1) ob } : Heap).get? a) = some ob := by
        simp [Heap.get?, Array.getElem?_replicate, hac, ob]
      rw [h4] at ho
      exact (Option.some.inj ho).symm
    · have h4 : (({ objs := Array.replicate (c + 1) ob } : Heap).get? a) = none := by
        simp [Heap.get?, Array.getElem?_replicate, hac]
      rw [h4] at ho
      cases ho
  rw [h3] at hd
  cases hd
/-- the owned dict of the keys ks -/
def dnR (ks : List (List PyData)) : XR where
  rel := fun F h => ∃ a bs ep, h = DNO a bs ep ∧ NKs F ks bs
  mono := fun s ⟨a, bs, ep, e, r⟩ => ⟨a, bs, ep, e, r.mono s⟩
  isx := fun ⟨a, bs, ep, e, _⟩ => ⟨_, e⟩
  nc := fun c q ⟨a, bs, ep, e, _⟩ => by rw [e]; exact codeO_ne
abbrev dN (ks : List (List PyData)) : AO := .xo (dnR ks)
section
variable {X : Ax} {ρ : Env1} {O : Own} {Φ : PV → Own → Prop} {D : AEnds} {pos pos' : Pos}
theorem NKs.hp {F H : Hp} (s : Same F H) {ks : List (List PyData)} {bs : List (List Int × Addr)} (h : NKs F ks bs) : NKs H ks bs := h.mono s
end
end Al
namespace Al
open PySem PySem.Spec L2
open PyProof.Rows hiding St
/-! ### things told as tuples of numbers and truths -/
structure Enc {α : Type} [DecidableEq α] (em : α → List PyData) : Prop where
  num : ∀ x, (em x).all isNk = true
  inj : ∀ x y, (em x).map nk = (em y).map nk → x = y
  eq : ∀ x y, PyData.eqv (.tuple (em x)) (.tuple (em y)) = decide (x = y)
section
variable {α : Type} [DecidableEq α] {em : α → List PyData}
theorem shp_nk {k : Nat} : ∀ {ds : List PyData}, ds.all isNk = true → Shp (k + 1) (.tuple ds) := fun {ds} h => shp_tup fun d hd => by
  have := List.all_eq_true.mp h d hd
  cases d with
  | int i => exact shp_int _
  | bool b => exact shp_bool _
  | _ => cases this
theorem Enc.shp (E : Enc em) {k : Nat} (x : α) : Shp (k + 1) (.tuple (em x)) := shp_nk (E.num x)
/-- the owned dict of things -/
abbrev dE (em : α → List PyData) (F : List α) : AO := dN (F.map em)
theorem Enc.mem (E : Enc em) {F : List α} {x : α} : (em x).map Al.nk ∈ (F.map em).map (fun k => k.map Al.nk) ↔ x ∈ F := by
  rw [List.map_map, List.mem_map]
  constructor
  · rintro ⟨y, hy, h⟩
    rw [← E.inj y x h]
    exact hy
  · intro h
    exact ⟨x, h, rfl⟩
end
/-! ### the state of first_text -/
/-- a group and its word -/
structure GrE {α : Type} (U K : List α) (g : List α × List Nat) : Prop where
  lt : ∀ x ∈ g.1, x ∈ U
  nd : g.1.Nodup
  len : g.2.length ≤ K.length
  sg : ∀ c ∈ g.2, sgn c = true
structure EtI {α : Type} (nx : α → Nat → List α) (st goal : α) (U : List α) (cs : List Nat) (K : List α) (Q : List (List α × List Nat)) : Prop where
  lt : ∀ x ∈ K, x ∈ U
  nd : K.Nodup
  gr : ∀ g ∈ Q, GrE U K g
  ql : Q.length ≤ K.length + 1
  st : (Q = [([st], [])] ∧ K = []) ∨ ∃ w S, Jn nx st goal w S cs K Q
/-- .. while the signs of a group are gone through -/
structure EtJ {α : Type} (nx : α → Nat → List α) (st goal : α) (U : List α) (w : List Nat) (S : List α) (d : List Nat) (K : List α) (Q : List (List α × List Nat)) : Prop where
  lt : ∀ x ∈ K, x ∈ U
  gr : ∀ g ∈ Q, GrE U K g
  ql : Q.length ≤ K.length + 1
  cur : GrE U K (S, w)
  jn : Jn nx st goal w S d K Q
section
variable {α : Type} [DecidableEq α] {nx : α → Nat → List α} {st goal : α} {U : List α} {cs : List Nat} {K : List α} {Q : List (List α × List Nat)}
theorem EtI.start (h : st ∈ U) : EtI nx st goal U cs [] [([st], [])] :=
  ⟨fun x h => (List.not_mem_nil h).elim, List.nodup_nil, fun g hg => (List.mem_singleton.mp hg) ▸ ⟨fun x hx => (List.mem_singleton.mp hx) ▸ h, by simp, Nat.le_refl _, fun c hc => (List.not_mem_nil hc).elim⟩, Nat.le_refl _, .inl ⟨rfl, rfl⟩⟩
theorem EtI.none (J : EtI nx st goal U cs K []) (hd : ∀ y x c, x ∈ nx y c → c ∈ cs) : ∀ u, u ≠ [] → ¬ Rc nx st u goal := by
  rcases J.st with ⟨e, _⟩ | ⟨w, S, j⟩
  · cases e
  · exact j.none hd
theorem EtJ.back {w : List Nat} {S : List α} (J : EtJ nx st goal U w S cs K Q) : EtI nx st goal U cs K Q := ⟨J.lt, J.jn.nd, J.gr, J.ql, .inr ⟨w, S, J.jn⟩⟩
/-- what is new by a sign -/
abbrev nwE {α : Type} [DecidableEq α] (nx : α → Nat → List α) (S K : List α) (c : Nat) : List α := nwK K (S.flatMap fun y => nx y c)
theorem nwE_mem {S : List α} {c : Nat} {x : α} : x ∈ nwE nx S K c ↔ (∃ y ∈ S, x ∈ nx y c) ∧ x ∉ K := by
  unfold nwE
  rw [nwK_mem, List.mem_flatMap]
/-- the goal is new by a sign: its first word -/
theorem EtJ.ends {w : List Nat} {S : List α} {i c : Nat} (J : EtJ nx st goal U w S (cs.take i) K Q) (up : cs.Pairwise (· < ·)) (hi : cs[i]? = some c) (hnx : ∀ x c y, y ∈ nx x c → c ∈ cs ∧ y ∈ U) (hg : goal ∈ nwE nx S K c) : Fst nx st (c :: w) goal := by
  have hlt : i < cs.length := (List.getElem?_eq_some_iff.mp hi).1
  have dle : ∀ c' ∈ cs, c' < c → c' ∈ cs.take i := fun c' h hc => by
    have sp : cs = cs.take i ++ cs.drop i := (List.take_append_drop i cs).symm
    rw [sp] at h
    rcases List.mem_append.mp h with h | h
    · exact h
    · have e2 : cs.drop i = c :: cs.drop (i + 1) := by
        rw [List.drop_eq_getElem_cons hlt]
        congr 1
        exact (List.getElem?_eq_some_iff.mp hi).2
      have u2 : (cs.drop i).Pairwise (· < ·) := up.sublist (List.drop_sublist _ _)
      rw [e2] at h u2
      rcases List.mem_cons.mp h with rfl | h
      · omega
      · have := (List.pairwise_cons.mp u2).1 c' h
        omega
  obtain ⟨⟨y, hy, hx⟩, hk⟩ := nwE_mem.mp hg
  exact J.jn.new (fun y x c' hx hc => dle c' (hnx y c' x hx).1 hc) hy hx hk
end
end Al
namespace Al
open PySem PySem.Spec L2
open PyProof.Rows hiding St
/-! ### two ways at once, three ways at once -/
abbrev T2 := Nat × Nat × Bool
abbrev T3 := Nat × Nat × Nat
def nx3 (nx : Nat → Nat → List Nat) (x : T3) (c : Nat) : List T3 := (nx x.1 c).flatMap fun t => (nx x.2.1 c).flatMap fun u => (nx x.2.2 c).map fun v => (t, u, v)
abbrev em2 (x : T2) : List PyData := [iD x.1, iD x.2.1, .bool x.2.2]
end Al
namespace Al
open PySem PySem.Spec L2
open PyProof.Rows hiding St
/-! the rooms that go double, each with its word -/
open Classical in
noncomputable def led (nx : Nat → Nat → List Nat) (r r' : Nat) : Option (List Nat) := if h : ∃ w, Fst (nx3 nx) (r, r, r') w (r, r', r') then some h.choose else none
end Al
namespace Al
/-! ### words in parts, laid again, turned about, called otherwise (k44) -/
/-! how many ways -/
end Al
namespace Al
open PySem PySem.Spec L2
open PyProof.Rows hiding St
/-! ### turned about -/
/-! ### called otherwise -/
/-! ### sorted rows by what stands ahead -/
end Al
namespace Al
open PySem PySem.Spec L2
open PyProof.Rows hiding St
/-! ### how long the first words are -/
end Al
namespace Al
open PySem PySem.Spec L2
open PyProof.Rows hiding St
end Al
namespace Al
open PySem PySem.Spec L2
open PyProof.Rows hiding St
/-! ### for k in d, of a dict whose keys are tuples of numbers and truths -/
/-! ### an owned object told by less -/
end Al
namespace Al
open PySem PySem.Spec L2
open PyProof.Rows hiding St
/-! ### pairs of ways with all words (k42) -/
end Al
namespace Al
open PySem PySem.Spec L2
open PyProof.Rows hiding St
/-! ### the law's own rows: tuples of a word and a dict, in owned lists -/
abbrev G2 := List T2 × List Nat
def RowAt (s : Nat) (O : Own) (p : PV) (g : G2) : Prop := ∃ t d, p = .o t ∧ O[t]? = some (.tup [pS (txw g.2), .o d]) ∧ O[d]? = some (dE em2 g.1) ∧ s < d
abbrev RowsAt (s : Nat) (O : Own) : List PV → List G2 → Prop := Paired (RowAt s O)
theorem RowsAt.len {s : Nat} {O : Own} : ∀ {ps : List PV} {Q : List G2}, RowsAt s O ps Q → ps.length = Q.length
  | _, _, .nil => rfl
  | _, _, .cons _ t => congrArg (· + 1) (RowsAt.len t)
theorem RowsAt.get {s : Nat} {O : Own} : ∀ {ps : List PV} {Q : List G2} {i : Nat} {p : PV}, RowsAt s O ps Q → ps[i]? = some p → ∃ g, Q[i]? = some g ∧ RowAt s O p g
  | _, _, _, _, .nil, h => by simp at h
  | _, _, 0, _, .cons h _, e => by cases e; exact ⟨_, rfl, h⟩
  | _, _, i + 1, _, .cons _ t, e => RowsAt.get (i := i) t e
theorem RowsAt.imp {s s' : Nat} {O O' : Own} (h : ∀ p g, RowAt s O p g → RowAt s' O' p g) : ∀ {ps : List PV} {Q : List G2}, RowsAt s O ps Q → RowsAt s' O' ps Q
  | _, _, .nil => .nil
  | _, _, .cons q t => .cons (h _ _ q) (RowsAt.imp h t)
/-- all but what stands at s and b stays -/
def Kp (s b : Nat) (O O' : Own) : Prop := ∀ n x, n ≠ s → n ≠ b → O[n]? = some x → O'[n]? = some x
theorem Kp.refl {s b : Nat} {O : Own} : Kp s b O O := fun _ _ _ _ h => h
theorem Kp.app {s b : Nat} {O O' T : Own} (k : Kp s b O O') : Kp s b O (O' ++ T) := fun n x h1 h2 h => app_some (k n x h1 h2 h)
theorem Kp.sets {s b : Nat} {O O' : Own} {y : AO} (k : Kp s b O O') : Kp s b O (O'.set s y) := fun n x h1 h2 h => by rw [List.getElem?_set_ne (Ne.symm h1)]; exact k n x h1 h2 h
theorem Kp.setb {s b : Nat} {O O' : Own} {y : AO} (k : Kp s b O O') : Kp s b O (O'.set b y) := fun n x h1 h2 h => by rw [List.getElem?_set_ne (Ne.symm h2)]; exact k n x h1 h2 h
theorem RowAt.kp {s b : Nat} {O O' : Own} {K : List T2} {l : List PV} (k : Kp s b O O') (hs : O[s]? = some (dE em2 K)) (hb : O[b]? = some (.lst l)) {p : PV} {g : G2} (h : RowAt s O p g) : RowAt s O' p g := by
  obtain ⟨t, d, rfl, h1, h2, h3⟩ := h
  refine ⟨t, d, rfl, k t _ (fun e => ?_) (fun e => ?_) h1, k d _ (by omega) (fun e => ?_) h2, h3⟩
  · rw [e, hs] at h1; cases h1
  · rw [e, hb] at h1; cases h1
  · rw [e, hb] at h2; cases h2
theorem RowAt.app {s : Nat} {O T : Own} {p : PV} {g : G2} (h : RowAt s O p g) : RowAt s (O ++ T) p g := by
  obtain ⟨t, d, rfl, h1, h2, h3⟩ := h
  exact ⟨t, d, rfl, app_some h1, app_some h2, h3⟩
theorem cl_at {O : Own} {n : Nat} {x : AO} (cl : ClO O) (h : O[n]? = some x) : x.below O.length = true := List.all_eq_true.mp cl _ (List.mem_of_getElem? h)
structure DbW (O : Own) (s r : Nat) (ps : List PV) (Q : List G2) (K : List T2) (O' : Own) : Prop where
  s0 : s = O.length
  seen : O'[s]? = some (dE em2 K)
  rows : O'[r]? = some (.lst ps)
  ra : RowsAt s O' ps Q
  tk : O'.take O.length = O
  cl : ClO O'
structure DbL (O : Own) (s r b : Nat) (ps lp : List PV) (Q L : List G2) (K : List T2) (O' : Own) : Prop where
  w : DbW O s r ps Q K O'
  lat : O'[b]? = some (.lst lp)
  la : RowsAt s O' lp L
  rb : r ≠ b
  sb : s < b
theorem DbW.start {O : Own} {r : Nat} (cl : ClO O) : DbW O O.length (O.length + 3) [.o (O.length + 2)] [([(r, r, false)], [])] [] (O ++ [dE em2 [], dE em2 [(r, r, false)], .tup [pS (txw []), .o (O.length + 1)], .lst [.o (O.length + 2)]]) := by
  refine ⟨rfl, get_at0, get_at 3, .cons ⟨O.length + 2, O.length + 1, rfl, get_at 2, get_at 1, by omega⟩ .nil, take_app, cl_ext cl fun x hx => ?_⟩
  simp only [List.mem_cons, List.not_mem_nil, or_false] at hx
  rcases hx with rfl | rfl | rfl | rfl
  · rfl
  · rfl
  · show (true && (decide (O.length + 1 < _) && true)) = true
    simp
  · show (decide (O.length + 2 < _) && true) = true
    simp
theorem DbW.later {O O' : Own} {s r : Nat} {ps : List PV} {Q : List G2} {K : List T2} (h : DbW O s r ps Q K O') : DbL O s r O'.length ps [] Q [] K (O' ++ [.lst []]) := by
  have hr : r < O'.length := (List.getElem?_eq_some_iff.mp h.rows).1
  have hl : O.length ≤ O'.length := by
    have := congrArg List.length h.tk
    rw [List.length_take] at this
    omega
  refine ⟨⟨h.s0, app_some h.seen, app_some h.rows, h.ra.imp fun _ _ => RowAt.app, ?_, cl_app h.cl rfl⟩, by simp, .nil, by omega, (List.getElem?_eq_some_iff.mp h.seen).1⟩
  rw [List.take_append_of_le_length hl, h.tk]
theorem DbL.next {O O' : Own} {s r b : Nat} {ps lp : List PV} {Q L : List G2} {K : List T2} (h : DbL O s r b ps lp Q L K O') : DbW O s b lp L K O' := ⟨h.w.s0, h.w.seen, h.lat, h.la, h.w.tk, h.w.cl⟩
/-- found stands at X.length, seen is K'; nothing is put behind the rows -/
theorem DbL.stay {O X : Own} {s r b : Nat} {ps lp : List PV} {Q L : List G2} {K K' : List T2} {T : Own} (h : DbL O s r b ps lp Q L K X) (cl : ∀ y ∈ T, y.below (X.length + T.length) = true) : DbL O s r b ps lp Q L K' (X.set s (dE em2 K') ++ T) := by
  have hs : s < X.length := (List.getElem?_eq_some_iff.mp h.w.seen).1
  have hsb : s ≠ b := fun e => by have := h.w.seen; rw [e, h.lat] at this; cases this
  have hsr : s ≠ r := fun e => by have := h.w.seen; rw [e, h.w.rows] at this; cases this
  have k : Kp s b X (X.set s (dE em2 K') ++ T) := (Kp.refl.sets).app
  have hl : O.length ≤ X.length := by
    have := congrArg List.length h.w.tk
    rw [List.length_take] at this
    omega
  refine ⟨⟨h.w.s0, ?_, k r _ (Ne.symm hsr) h.rb h.w.rows, h.w.ra.imp fun _ _ => RowAt.kp k h.w.seen h.lat, ?_, ?_⟩, ?_, h.la.imp fun _ _ => RowAt.kp k h.w.seen h.lat, h.rb, h.sb⟩
  · exact app_some (List.getElem?_set_self hs)
  · rw [List.take_append_of_le_length (by rw [List.length_set]; exact hl), List.take_set_of_le (by rw [h.w.s0]; exact Nat.le_refl _), h.w.tk]
  · refine cl_ext (cl_set h.w.cl rfl) fun y hy => ?_
    rw [List.length_set]
    exact cl y hy
  · refine app_some ?_
    rw [List.getElem?_set_ne hsb]
    exact h.lat
theorem DbL.more {O X : Own} {s r b : Nat} {ps lp : List PV} {Q L : List G2} {K : List T2} {T : Own} (h : DbL O s r b ps lp Q L K X) (cl : ∀ y ∈ T, y.below (X.length + T.length) = true) : DbL O s r b ps lp Q L K (X ++ T) := by
  have hs : s < X.length := (List.getElem?_eq_some_iff.mp h.w.seen).1
  have e : X.set s (dE em2 K) = X := by
    refine List.ext_getElem? fun i => ?_
    by_cases hi : s = i
    · rw [← hi, List.getElem?_set_self hs, h.w.seen]
    · rw [List.getElem?_set_ne hi]
  have := h.stay (K' := K) cl
  rwa [e] at this
/-- a row is put behind -/
theorem DbL.push {O X : Own} {s r b f : Nat} {ps lp : List PV} {Q L : List G2} {K : List T2} {F : List T2} {w : List Nat} (h : DbL O s r b ps lp Q L K X) (hf : X[f]? = some (dE em2 F)) (hsf : s < f) :
    DbL O s r b ps (lp ++ [.o X.length]) Q (L ++ [(F, w)]) K ((X ++ [AO.tup [pS (txw w), PV.o f]]).set b (AO.lst (lp ++ [PV.o X.length]))) := by
  have hs : s < X.length := (List.getElem?_eq_some_iff.mp h.w.seen).1
  have hfl : f < X.length := (List.getElem?_eq_some_iff.mp hf).1
  have hbl : b < X.length := (List.getElem?_eq_some_iff.mp h.lat).1
  have hsb : s ≠ b := fun e => by have := h.w.seen; rw [e, h.lat] at this; cases this
  have hsr : s ≠ r := fun e => by have := h.w.seen; rw [e, h.w.rows] at this; cases this
  have hfb : f ≠ b := fun e => by rw [e, h.lat] at hf; cases hf
  have k : Kp s b X ((X ++ [AO.tup [pS (txw w), PV.o f]]).set b (AO.lst (lp ++ [PV.o X.length]))) := (Kp.refl.app).setb
  have hs0 := h.w.s0
  have hsb2 := h.sb
  have lX : (X ++ [AO.tup [pS (txw w), PV.o f]]).length = X.length + 1 := by simp
  have row : RowAt s ((X ++ [AO.tup [pS (txw w), PV.o f]]).set b (AO.lst (lp ++ [PV.o X.length]))) (.o X.length) (F, w) := by
    refine ⟨X.length, f, rfl, ?_, ?_, hsf⟩
    · rw [List.getElem?_set_ne (by omega), List.getElem?_append_right (Nat.le_refl _), Nat.sub_self]; rfl
    · rw [List.getElem?_set_ne (Ne.symm hfb)]; exact app_some hf
  refine ⟨⟨h.w.s0, ?_, k r _ (Ne.symm hsr) h.rb h.w.rows, h.w.ra.imp fun _ _ => RowAt.kp k h.w.seen h.lat, ?_, ?_⟩, ?_, (h.la.imp fun _ _ => RowAt.kp k h.w.seen h.lat).snoc row, h.rb, h.sb⟩
  · rw [List.getElem?_set_ne (Ne.symm hsb)]; exact app_some h.w.seen
  · rw [List.take_set_of_le (by omega), List.take_append_of_le_length (by omega), h.w.tk]
  · refine cl_set (cl_app h.w.cl ?_) ?_
    · show (true && (decide (f < X.length + 1) && true)) = true
      simp; omega
    · have h1 : (lp.all (PV.blw X.length)) = true := cl_at h.w.cl h.lat
      show ((lp ++ [PV.o X.length]).all (PV.blw _)) = true
      rw [List.all_append, Bool.and_eq_true, lX]
      refine ⟨List.all_eq_true.mpr fun y hy => pv_below_mono (by omega) (List.all_eq_true.mp h1 y hy), ?_⟩
      show (decide (X.length < X.length + 1) && true) = true
      simp
  · rw [List.getElem?_set_self (by rw [lX]; omega)]
end Al
namespace Al
/-! ### rings of five and seven rooms through one -/
end Al
namespace Al
open PySem PySem.Spec L2
open PyProof.Rows hiding St
/-! ### the told doubles in a new list -/
end Al
namespace Al
open PySem PySem.Spec L2
open PyProof.Rows hiding St
/-! ### l.count(x) of data -/
end Al
namespace Al
open PySem PySem.Spec L2
open PyProof.Rows hiding St
/-! ### promises of k12: what refuses a machine, a word, a room -/
end Al
namespace Al
open PySem PySem.Spec L2
open PyProof.Rows hiding St
end Al
namespace Al
open PySem PySem.Spec L2
open PyProof.Rows hiding St
/-! ### k12: odd words, what is due -/
end Al
namespace Al
open PySem PySem.Spec L2
open PyProof.Rows hiding St
/-! ### k12: what the law expects is what is told -/
/-! odd machines and their parts -/
end Al
namespace Al
open PySem PySem.Spec L2
open PyProof.Rows hiding St
/-! ### a def called within an except suite -/
end Al
namespace Al
open PySem PySem.Spec L2
open PyProof.Rows hiding St
/-! ### a higher base: what the cells of a function hold that was handed in, known in comprehensions too -/
section
variable {P : Program} {w : World} {K : PySem.W.Frag} {mg : Str → Option Value} {base B : Heap}
structure Low (K : PySem.W.Frag) (mg : Str → Option Value) (base B : Heap) : Prop where
  mod : Mod K mg base
  sub : ∀ b o, base.get? b = some o → B.get? b = some o
  siz : base.objs.size ≤ B.objs.size
theorem Low.refl (m : Mod K mg base) : Low K mg base base := ⟨m, fun _ _ h => h, Nat.le_refl _⟩
theorem frames_low {h : Heap} (L : ∀ b o, base.get? b = some o → B.get? b = some o) : ∀ {l : List Env}, h.FunFrames B l → h.FunFrames base l
  | [], _ => trivial
  | env :: l, ⟨hk, ⟨a, o, hf, hn, ho, hd⟩, hr⟩ => by
    refine ⟨hk, ⟨a, o, hf, ?_, ho, hd⟩, frames_low L hr⟩
    cases e : base.get? a with
    | none => rfl
    | some u => rw [L a u e] at hn; cases hn
theorem env0_low {A : Around} {outer : List Env} {s : Shared} {H : Hp} (L : Low K mg base B) (e : Env0 P w K mg B A outer s H) : Env0 P w K mg base A outer s H :=
  { frames := e.frames, mod := L.mod, bs := fun b o h => e.bs b o (L.sub b o h), bsz := Nat.le_trans L.siz e.bsz, funs := frames_low L.sub e.funs, frf := e.frf, hok := e.hok, bare := e.bare }
theorem FnA.low {CX : CXT} {k : Nat} {f : Addr} {fd : FuncData} {ps : List Str} {sp : Sp} (L : Low K mg base B) (h : FnA P w K mg base CX k f fd ps sp) : FnA P w K mg B CX k f fd ps sp :=
  ⟨h.len, fun A outer s H args us vs Q E hr e0 hb r q => h.run A outer s H args us vs Q E hr (env0_low L e0) hb r q⟩
theorem DefA.low {k : Nat} {x : Str} {ps : List Str} {dps : List PV} {R : RX} (L : Low K mg base B) (h : DefA ⟨P, w, K, mg, base⟩ k x ps dps R) : DefA ⟨P, w, K, mg, B⟩ k x ps dps R := by
  obtain ⟨f, fd, ds, dvs, h1, h2⟩ := h
  exact ⟨f, fd, ds, dvs, FnA.low L h1, h2⟩
theorem COk.low {CX : CXT} {k : Nat} {f : Addr} {G : CF} {n : Nat} {fr : List Str} {sp : List V → Sp} (L : Low K mg base B) (h : COk P w K mg base CX k f G n fr sp) : COk P w K mg B CX k f G n fr sp :=
  ⟨h.len, fun A outer s H us vs ws Q E hr e0 => h.run A outer s H us vs ws Q E hr (env0_low L e0)⟩
end
/-- the cells as a heap has them -/
structure CellsIn (cl : List (Str × Addr)) (fr : List Str) (ws : List V) (h : Heap) : Prop where
  len : ws.length = fr.length
  all : ∀ y c, cl.lookup y = some c → ∃ v, h.IsCell c v
  inj : ∀ x y c, cl.lookup x = some c → cl.lookup y = some c → x = y
  has : ∀ (i : Nat) (y : Str), fr[i]? = some y → ∃ c, cl.lookup y = some c ∧ ∀ v, ws[i]? = some v → ∃ u, L2.RelV v u ∧ h.IsCell c (some u)
/-- a function that was handed in, its cells in the base -/
structure CalB (X : Ax) (b0 : Heap) (k n : Nat) (Rn : RX) (C : CF) (caps : List PV) : Prop where
  low : Low X.c.K X.c.mg b0 X.c.base
  ex : ∃ (fr : List Str) (ws : List V), RPs ⟨X.c.K, X.c.mg, X.a0, X.F0⟩ X.F0 X.a0 caps ws ∧ CellsIn C.cl fr ws X.c.base ∧ ∀ f, COk X.c.prog X.c.w X.c.K X.c.mg b0 (CX X.c.prog X.c.w) k f C n fr (spC X.c.K X.c.mg Rn)
section
variable {X : Ax} {e : Expr} {es : List Expr} {ρ : Env1} {O : Own} {Φ : PV → Own → Prop} {as : List Addr} {F H : Hp} {σ : L2.St} {pos p : Pos} {b0 : Heap}
theorem CalB.blk {k n : Nat} {Rn : RX} {C : CF} {caps : List PV} (h : CalB X b0 k n Rn C caps) (s : Shared) (H : Hp) (sc : Scope) (en : Env) (fp : List Addr) : CalB (X.blk s H sc en fp) b0 k n Rn C caps := ⟨h.low, h.ex⟩
theorem cells_in {cl : List (Str × Addr)} {fr : List Str} {ws : List V} {pins : List (Addr × Obj)} {s : Shared} (c : CellsIn cl fr ws X.c.base) (I : Inv X.c pins σ H s) : NdefX.CellsAt cl fr (ws.map some) s.heap H := by
  have kp : ∀ {b v}, X.c.base.IsCell b v → s.heap.IsCell b v ∧ H b = none := fun {b v} ⟨o, ho, hd⟩ => ⟨⟨o, (I.bs b o ho).1, hd⟩, (I.bs b o ho).2⟩
  refine ⟨by rw [List.length_map]; exact c.len, fun y a h => ?_, c.inj, fun i y h => ?_⟩
  · obtain ⟨v, z⟩ := c.all y a h
    exact ⟨(kp z).2, v, (kp z).1⟩
  · obtain ⟨a, h1, h2⟩ := c.has i y h
    refine ⟨a, h1, fun v hv => ?_⟩
    rw [List.getElem?_map] at hv
    cases hw : ws[i]? with
    | none => rw [hw] at hv; cases hv
    | some x =>
      rw [hw] at hv
      have hv : some (some x) = some (some v) := hv
      cases hv
      obtain ⟨u, r, z⟩ := h2 _ hw
      exact ⟨u, r, (kp z).1⟩
theorem cells_out {cl : List (Str × Addr)} {fr : List Str} {ws : List V} {pins : List (Addr × Obj)} {s : Shared} (c : CellsIn cl fr ws X.c.base) (I : Inv X.c pins σ H s) : ∀ y a, cl.lookup y = some a → a ∉ frs X.c.stack := fun y a h hb => by
  obtain ⟨v, o, ho, _⟩ := c.all y a h
  have q := (I.stack.mem hb).1
  rw [ho] at q
  cases q
theorem pe_callCB {k kn n : Nat} {f : Addr} {fd : FuncData} {ps : List Str} {Rn : RX} {R : RC} {W : WX} {x : Str} {t : TA} (L : Low X.c.K X.c.mg b0 X.c.base) (G : FnC ⟨X.c.prog, X.c.w, X.c.K, X.c.mg, b0⟩ kn n Rn k f fd ps R) (hr : RoomG k X.c.A) (hg : Gl X.c x) (hm : X.c.mg x = some (.ref f)) (hk : PySem.W.keepIn X.c.K (.ref f) = true) (hb : Binds X.c.K fd ps []) (tk : Takes X.c W)
    (ha : PA X.c (e :: es) t) (hdb : (x == ("__debug__" : Str)) = false := by decide) (he : starEach (e :: es) X.c.env = (false, eval e X.c.env) :: starEach es X.c.env := by rfl) (hpl : (backTo pos (starEach es X.c.env)).any (·.1) = false := by rfl) :
    PE X.c (.Call (.Name x p) (e :: es) [] pos) (fun σ H Q => t σ H fun vs H1 => ∃ E : XK, vs.length = ps.length ∧ (∀ pins s, Inv X.c pins σ H1 s → spD ⟨X.c.prog, X.c.w, X.c.K, X.c.mg, b0⟩ kn n Rn R X.c.stack s.heap vs H1 Q E) ∧ ∀ cls d H', E cls d H' → W cls d σ H') := by
  refine ⟨fun pins s σ H Q I h => ?_⟩
  refine wpAny_Call_Name_kw (ld_glob I hg hm ?_ hdb)
  refine PySem.W.callWith_K (h₀ := X.c.base) I.ok.mod.kin hk (thn (ha.run pos pins s σ H _ I h) fun us s1 ⟨vs, H1, I1, r, E, hl, q, hW⟩ => ⟨I1.kIn, ?_⟩) he hpl
  have hl2 : (us ++ []).length = ps.length := by rw [List.append_nil, ← r.length]; exact hl
  have hb2 := hb s1 us I1.kIn hl2
  rw [List.append_nil] at hb2
  refine wpAny_call (codeAny_mono (G.run X.c.A X.c.stack s1 H1 ⟨us, []⟩ us vs Q E hr (env0_low L I1.env0) hb2 r (q _ _ I1)) fun r s' hq => ?_)
  cases r with
  | error e => exact tk e s' (XE.of_call I1 hW hq)
  | ok fl =>
    cases fl with
    | ret u => exact I1.after hq
    | next => exact False.elim hq
    | brk => exact False.elim hq
    | cont => exact False.elim hq
/-- f(.., g): g was handed in to the running def -/
theorem ae_callCB {k kn n : Nat} {ps : List Str} {Rn : RX} {R : RC} {x : Str} {C : CF} {caps : List PV} (cb : CalB X b0 kn n Rn C caps) (G : DefC ⟨X.c.prog, X.c.w, X.c.K, X.c.mg, b0⟩ kn n Rn k x ps R) (hr : RoomG k X.A)
    (h : AA X (e :: es) ρ O fun args O1 => R C caps args O1 Φ fun _ _ => False) (hg : Gl X.c x := by rfl) (hdb : (x == ("__debug__" : Str)) = false := by decide)
    (he : starEach (e :: es) X.env = (false, eval e X.env) :: starEach es X.env := by rfl) (hpl : (backTo pos (starEach es X.env)).any (·.1) = false := by rfl) : AE X (.Call (.Name x p) (e :: es) [] pos) ρ O Φ := fun as F σ H w r => by
  obtain ⟨f, fd, h1, h2, h3, h4⟩ := G
  obtain ⟨fr, ws, rc, cc, ok⟩ := cb.ex
  refine tE_of (pe_callCB (W := fun cls d σ H => ∃ e ρ O as F, Wd X.k O as F H ∧ RS X.k F as ρ σ ∧ XRel X.k F e cls d ∧ False) cb.low h1 hr hg h2 h3 h4 takes_none pa_tA hdb he hpl) ?_
  refine h.run w r fun args O1 as1 F1 vs H1 w1 g1 s1 rx r1 q => ?_
  refine ⟨XQ ⟨X.c.K, X.c.mg, as1, F1⟩ as1 F1 (fun _ _ => False), by rw [← rx.len]; exact h1.len _ _ _ _ _ _ q, fun pins s I => ⟨O1, as1, F1, C, caps, args, Φ, _, w1.floor (Gr.refl _) (Same.refl _), rps_floor (K := X.k) rx, ⟨⟨fr, ws, rps_floor (K := X.k) ((rps_floor rc).mono w1.fF w1.fa), cells_in cc I, ok⟩, cells_out cc I⟩, q, fun v H' z => ?_, fun _ _ _ z => z⟩, fun cls d H' z => ?_⟩
  · exact PQ.back g1 s1 (PQ.lift (K := X.k) w1.fa w1.fF z)
  · obtain ⟨_, _, _, _, _, _, _, _, z⟩ := z
    exact z.elim
end
section
variable {P : Program} {w : World} {K : PySem.W.Frag} {mg : Str → Option Value} {base : Heap}
open Classical in
/-- the base and the cells cl -/
noncomputable def baseUp (base : Heap) (cl : List (Str × Addr)) (h : Heap) : Heap := hidT h fun b => if (base.get? b).isSome = true ∨ ∃ y, cl.lookup y = some b then none else some (.lst [])
open Classical in
theorem baseUp_get {cl : List (Str × Addr)} {h : Heap} {b : Addr} {o : Obj} (e : h.get? b = some o) (n : (base.get? b).isSome = true ∨ ∃ y, cl.lookup y = some b) : (baseUp base cl h).get? b = some o := hidT_get e (if_pos n)
open Classical in
theorem of_baseUp {cl : List (Str × Addr)} {h : Heap} {b : Addr} {o : Obj} (e : (baseUp base cl h).get? b = some o) : h.get? b = some o ∧ ((base.get? b).isSome = true ∨ ∃ y, cl.lookup y = some b) := by
  obtain ⟨h1, h2⟩ := of_hidT e
  refine ⟨h1, Classical.byContradiction fun n => ?_⟩
  have h2 : (if (base.get? b).isSome = true ∨ ∃ y, cl.lookup y = some b then none else some (HO.lst [])) = none := h2
  rw [if_neg n] at h2
  cases h2
theorem up_env {A : Around} {outer : List Env} {s : Shared} {H : Hp} {cl : List (Str × Addr)} {fr : List Str} {ws : List V} (e0 : Env0 P w K mg base A outer s H) (c : NdefX.CellsAt cl fr (ws.map some) s.heap H) (out : ∀ y a, cl.lookup y = some a → a ∉ frs outer) :
    Low K mg base (baseUp base cl s.heap) ∧ Env0 P w K mg (baseUp base cl s.heap) A outer s H ∧ CellsIn cl fr ws (baseUp base cl s.heap) := by
  have sub : ∀ b o, base.get? b = some o → (baseUp base cl s.heap).get? b = some o := fun b o e => baseUp_get (e0.bs b o e).1 (.inl (by rw [e]; rfl))
  have sz : (baseUp base cl s.heap).objs.size = s.heap.objs.size := hidT_size _ _
  have low : Low K mg base (baseUp base cl s.heap) := ⟨e0.mod, sub, by rw [sz]; exact e0.bsz⟩
  have fr0 : ∀ {l : List Env}, (∀ b ∈ frs l, b ∈ frs outer) → s.heap.FunFrames base l → s.heap.FunFrames (baseUp base cl s.heap) l := by
    intro l
    induction l with
    | nil => intro _ _; trivial
    | cons env l ih =>
      rintro hs ⟨hk, ⟨a, o, hf, hn, ho, hd⟩, hr⟩
      have mem : ∀ b ∈ frs l, b ∈ frs (env :: l) := fun b hb => by unfold frs at hb ⊢; rw [List.filterMap_cons, hf]; exact List.mem_cons_of_mem _ hb
      have ma : a ∈ frs (env :: l) := by unfold frs; rw [List.filterMap_cons, hf]; exact List.mem_cons_self ..
      refine ⟨hk, ⟨a, o, hf, ?_, ho, hd⟩, ih (fun b hb => hs b (mem b hb)) hr⟩
      cases e : (baseUp base cl s.heap).get? a with
      | none => rfl
      | some u =>
        rcases (of_baseUp e).2 with z | ⟨y, z⟩
        · rw [hn] at z; cases z
        · exact absurd (hs a ma) (out y a z)
  refine ⟨low, { frames := e0.frames, mod := ⟨fun b o e => sub b o (e0.mod.kin b o e), e0.mod.glob.keeps sub, ?_, e0.mod.nolimit.keeps sub⟩, bs := fun b o e => ?_, bsz := Nat.le_of_eq sz, funs := fr0 (fun _ h => h) e0.funs, frf := e0.frf, hok := e0.hok, bare := e0.bare }, ?_⟩
  · obtain ⟨mb, h1, h2⟩ := e0.mod.blt
    exact ⟨mb, h1.keeps sub, h2⟩
  · obtain ⟨h1, h2⟩ := of_baseUp e
    refine ⟨h1, ?_⟩
    rcases h2 with z | ⟨y, z⟩
    · cases e2 : base.get? b with
      | none => rw [e2] at z; cases z
      | some u => exact (e0.bs b u e2).2
    · exact (c.all y b z).1
  · have kc : ∀ {y a v}, cl.lookup y = some a → s.heap.IsCell a v → (baseUp base cl s.heap).IsCell a v := fun {y a v} h ⟨o, ho, hd⟩ => ⟨o, baseUp_get ho (.inr ⟨y, h⟩), hd⟩
    refine ⟨by have := c.len; rwa [List.length_map] at this, fun y a h => ?_, c.inj, fun i y h => ?_⟩
    · obtain ⟨_, v, z⟩ := c.all y a h
      exact ⟨v, kc h z⟩
    · obtain ⟨a, h1, h2⟩ := c.has i y h
      refine ⟨a, h1, fun v hv => ?_⟩
      obtain ⟨u, r, z⟩ := h2 v (by rw [List.getElem?_map, hv]; rfl)
      exact ⟨u, r, kc h1 z⟩
/-- a def that receives a function and hands it on, or calls it within a comprehension -/
theorem okFB {x qual : Str} {st : Stmt} {f : Addr} {fd : FuncData} {N ps : List Str} {k kn n : Nat} {Rn : RX} {R : RC} (F : Fun K x qual st f fd) (S : FnScope N ps (defScope st)) (len : ∀ C caps args O Φ Ξ, R C caps args O Φ Ξ → args.length = ps.length)
    (hbody : ∀ (B : Heap), Low K mg base B → ∀ (cdv : Value) (A : Around) (outer : List Env) (s : Shared) (H : Hp) (E : XK) (as0 : List Addr) (F0 : Hp) (C : CF) (caps args : List PV) (O : Own) (Φ : PV → Own → Prop) (Ξ : Ex → Own → Prop), RoomG k (A.deeper (envOfC qual (defScope st) s.heap.objs.size f cdv)) → R C caps args O Φ Ξ →
      CalB (axN P w K mg B N qual (defScope st) f cdv A outer s H E as0 F0) base kn n Rn C caps →
      ASs (axN P w K mg B N qual (defScope st) f cdv A outer s H E as0 F0) (defBody st) (args.map some ++ List.replicate (N.length - args.length) none) O { nx := fun _ O' => Gh O.length Φ (.d .none) O', rt := Gh O.length Φ }) : FnC ⟨P, w, K, mg, base⟩ kn n Rn (k + 1) f fd ps R := by
  obtain ⟨oc, od, kV, doc, pm, an, cdv, ct, osl, rfl, lk, hcd⟩ := F.ex
  refine ⟨len, fun A outer s H args us vs Q E hr e0 hb r h => ?_⟩
  obtain ⟨O, as, F, C, caps, pvs, Φ, Ξ, w0, rs, cal, q, hQ, hE⟩ := h
  obtain ⟨⟨fr, ws, rc, cc, ok⟩, out⟩ := cal
  obtain ⟨low, e1, ci⟩ := up_env e0 cc out
  refine fnC_run (base := baseUp base C.cl s.heap) lk hcd S hr e1 hb r (by rw [← rs.len]; exact len _ _ _ _ _ _ q) fun hr1 => ?_
  have z := hbody (baseUp base C.cl s.heap) low cdv A outer s H E as F C caps pvs O Φ Ξ hr1 q ⟨low, fr, ws, rc, ci, ok⟩ as F (L2.start N vs) H w0 (by unfold L2.start; rw [← rs.len]; exact RS.start _ rs)
  refine ⟨_, (pss_tSs (X := (axN P w K mg (baseUp base C.cl s.heap) N qual (defScope st) f cdv A outer s H E as F).c)).nox, ?_⟩
  refine tSs_le z ⟨fun σ' H' y => ?_, fun v H' y => ?_, fun _ _ y => ?_, fun _ _ y => ?_⟩
  · obtain ⟨ρ', O', as', F', w', g', s', r', q'⟩ := y
    exact hQ _ _ (q'.sound (by rw [w0.len]; exact Nat.le_refl _) w0.fa.le w' g' s' .non)
  · exact hQ _ _ (PQ.gh (by rw [w0.len]; exact Nat.le_refl _) w0.fa.le y)
  · obtain ⟨_, _, _, _, _, _, _, _, z⟩ := y
    exact z
  · obtain ⟨_, _, _, _, _, _, _, _, z⟩ := y
    exact z
end
end Al
namespace Al
open PySem PySem.Spec L2
open PyProof.Rows hiding St
/-! ### ways weighed -/
abbrev WFn := Nat → Nat → Nat → Int
def wvd (f : WFn) (n : Nat) (st : List Stp) (v : List Int) (c : Nat) : List Int := (List.range n).map fun r => ((st.filter fun s => decide (s.2.1 = c) && decide (s.2.2 = r)).map fun s => v.getD s.1 0 * f s.1 s.2.1 s.2.2).sum
def wvs (f : WFn) (m : Mach) (v : List Int) (cs : List Nat) : List Int := cs.foldl (fun v c => wvd f m.n m.st v c) v
theorem wvd_len (f : WFn) (n : Nat) (st : List Stp) (v : List Int) (c : Nat) : (wvd f n st v c).length = n := by unfold wvd; simp
theorem wvs_len (f : WFn) (m : Mach) : ∀ (cs : List Nat) {v : List Int}, v.length = m.n → (wvs f m v cs).length = m.n
  | [], v, h => h
  | c :: cs, v, h => wvs_len f m cs (v := wvd f m.n m.st v c) (wvd_len _ _ _ _ _)
theorem wvs_snoc (f : WFn) (m : Mach) (v : List Int) (cs : List Nat) (c : Nat) : wvs f m v (cs ++ [c]) = wvd f m.n m.st (wvs f m v cs) c := by
  unfold wvs
  rw [List.foldl_append]; rfl
theorem wvd_nil (f : WFn) (n : Nat) (v : List Int) (c : Nat) : wvd f n [] v c = List.replicate n 0 := by
  unfold wvd
  simp [List.map_const']
theorem wvd_get (f : WFn) (n : Nat) (st : List Stp) (v : List Int) (c : Nat) {r : Nat} (h : r < n) : (wvd f n st v c)[r]? = some ((st.filter fun s => decide (s.2.1 = c) && decide (s.2.2 = r)).map fun s => v.getD s.1 0 * f s.1 s.2.1 s.2.2).sum := by
  unfold wvd
  rw [List.getElem?_map, List.getElem?_range h]; rfl
theorem wvd_no {f : WFn} {n : Nat} {st : List Stp} {v : List Int} {c : Nat} {s : Stp} (h : ¬ s.2.1 = c) : wvd f n (st ++ [s]) v c = wvd f n st v c := by
  unfold wvd
  refine List.map_congr_left fun r _ => ?_
  rw [List.filter_append]
  simp [h]
theorem wvd_yes {f : WFn} {n : Nat} {st : List Stp} {v : List Int} {c : Nat} {s : Stp} {x : Int} (h : s.2.1 = c) (hx : (wvd f n st v c)[s.2.2]? = some x) : wvd f n (st ++ [s]) v c = (wvd f n st v c).set s.2.2 (x + v.getD s.1 0 * f s.1 s.2.1 s.2.2) := by
  have hb : s.2.2 < n := by have := (List.getElem?_eq_some_iff.mp hx).1; rw [wvd_len] at this; exact this
  rw [wvd_get f n st v c hb] at hx
  have hx := (Option.some.inj hx).symm
  refine List.ext_getElem? fun r => ?_
  by_cases hr : r < n
  · rw [wvd_get f n _ v c hr, List.getElem?_set]
    by_cases e : s.2.2 = r
    · rw [if_pos e, if_pos (by rw [wvd_len]; omega), List.filter_append, List.map_append, List.sum_append]
      subst e
      rw [hx]
      simp [h]
    · rw [if_neg e, wvd_get f n st v c hr, List.filter_append]
      simp [e]
  · rw [List.getElem?_eq_none (by rw [wvd_len]; omega), List.getElem?_eq_none (by rw [List.length_set, wvd_len]; omega)]
/-- what all ways are worth together -/
def weighN (f : WFn) (m : Mach) (cs : List Nat) : Int := (m.ls.map fun r => (wvs f m (alone m.n m.fs) cs).getD r 0).sum
/-- the product of the first k steps -/
def pwr (f : WFn) (p cs : List Nat) : Nat → Int
  | 0 => 1
  | k + 1 => pwr f p cs k * f (p.getD k 0) (cs.getD k 0) (p.getD (k + 1) 0)
theorem getDapp13 {l l' : List Nat} {i : Nat} (h : i < l.length) : (l ++ l').getD i 0 = l.getD i 0 := by
  rw [List.getD_eq_getElem?_getD, List.getElem?_append_left h, ← List.getD_eq_getElem?_getD]
theorem getDend13 {l : List Nat} {x : Nat} : (l ++ [x]).getD l.length 0 = x := by
  rw [List.getD_eq_getElem?_getD, List.getElem?_append_right (Nat.le_refl _), Nat.sub_self]; rfl
theorem pwr_app {f : WFn} {p cs p' cs' : List Nat} : ∀ {k : Nat}, k < p.length → k ≤ cs.length → pwr f (p ++ p') (cs ++ cs') k = pwr f p cs k
  | 0, _, _ => rfl
  | k + 1, h1, h2 => by
    unfold pwr
    rw [pwr_app (k := k) (by omega) (by omega), getDapp13 (by omega), getDapp13 (by omega), getDapp13 h1]
theorem lastR_at {p : List Nat} {k : Nat} (h : p.length = k + 1) : p.getD k 0 = lastR p := by
  unfold lastR
  rw [List.getD_eq_getElem?_getD, List.getLastD_eq_getLast?, List.getLast?_eq_getElem?, h]
  rfl
theorem pwr_step {f : WFn} {p cs : List Nat} {c r : Nat} (h : p.length = cs.length + 1) : pwr f (p ++ [r]) (cs ++ [c]) (cs ++ [c]).length = pwr f p cs cs.length * f (lastR p) c r := by
  rw [List.length_append, List.length_singleton]
  show pwr f (p ++ [r]) (cs ++ [c]) cs.length * _ = _
  rw [pwr_app (by omega) (Nat.le_refl _), getDapp13 (by omega), getDend13, ← h, getDend13, lastR_at h]
/-- what the beginnings that end in a room are worth together -/
def swr (f : WFn) (cs : List Nat) (ps : List (List Nat)) (r : Nat) : Int := ((ps.filter fun p => decide (lastR p = r)).map fun p => pwr f p cs cs.length).sum
theorem swr_cons (f : WFn) (cs : List Nat) (p : List Nat) (ps : List (List Nat)) (r : Nat) : swr f cs (p :: ps) r = (if lastR p = r then pwr f p cs cs.length else 0) + swr f cs ps r := by
  unfold swr
  rw [List.filter_cons]
  by_cases h : lastR p = r
  · rw [if_pos (decide_eq_true h), if_pos h, List.map_cons, List.sum_cons]
  · rw [if_neg (by simpa using h), if_neg h, Int.zero_add]
theorem swr_app (f : WFn) (cs : List Nat) (ps qs : List (List Nat)) (r : Nat) : swr f cs (ps ++ qs) r = swr f cs ps r + swr f cs qs r := by
  unfold swr
  rw [List.filter_append, List.map_append, List.sum_append]
theorem swr_one {f : WFn} {p cs : List Nat} {c r : Nat} (h : p.length = cs.length + 1) : ∀ st : List Stp, swr f (cs ++ [c]) ((st.filter fun s => decide (s.1 = lastR p) && decide (s.2.1 = c)).map fun s => p ++ [s.2.2]) r =
    ((st.filter fun s => decide (s.2.1 = c) && decide (s.2.2 = r)).map fun s => (if lastR p = s.1 then pwr f p cs cs.length else 0) * f s.1 s.2.1 s.2.2).sum
  | [] => rfl
  | s :: st => by
    have ih := swr_one (f := f) (c := c) (r := r) h st
    rw [List.filter_cons, List.filter_cons]
    by_cases h1 : s.2.1 = c
    · by_cases h2 : s.1 = lastR p
      · by_cases h3 : s.2.2 = r
        · rw [if_pos (by simp [h1, h2]), if_pos (by simp [h1, h3]), List.map_cons, List.map_cons, List.sum_cons, swr_cons, ih, if_pos (by rw [lastR_snoc]; exact h3), if_pos h2.symm, pwr_step h, h1, h2]
        · rw [if_pos (by simp [h1, h2]), if_neg (by simp [h3]), List.map_cons, swr_cons, ih, if_neg (by rw [lastR_snoc]; exact h3), Int.zero_add]
      · by_cases h3 : s.2.2 = r
        · rw [if_neg (by simp [h2]), if_pos (by simp [h1, h3]), List.map_cons, List.sum_cons, ih, if_neg (fun z => h2 z.symm), Int.zero_mul, Int.zero_add]
        · rw [if_neg (by simp [h2]), if_neg (by simp [h3]), ih]
    · rw [if_neg (by simp [h1]), if_neg (by simp [h1]), ih]
theorem sum_add_mul {α : Type} (a b g : α → Int) : ∀ l : List α, (l.map fun s => a s * g s).sum + (l.map fun s => b s * g s).sum = (l.map fun s => (a s + b s) * g s).sum
  | [] => rfl
  | s :: l => by
    rw [List.map_cons, List.map_cons, List.map_cons, List.sum_cons, List.sum_cons, List.sum_cons, ← sum_add_mul a b g l, Int.add_mul]
    omega
theorem swr_step {f : WFn} {cs : List Nat} {c r : Nat} (st : List Stp) : ∀ ps : List (List Nat), (∀ p ∈ ps, p.length = cs.length + 1) → swr f (cs ++ [c]) (pstep st ps c) r =
    ((st.filter fun s => decide (s.2.1 = c) && decide (s.2.2 = r)).map fun s => swr f cs ps s.1 * f s.1 s.2.1 s.2.2).sum
  | [], _ => by
    show (0 : Int) = _
    induction (st.filter fun s => decide (s.2.1 = c) && decide (s.2.2 = r)) with
    | nil => rfl
    | cons s l ih =>
      rw [List.map_cons, List.sum_cons, ← ih]
      show (0 : Int) = 0 * _ + 0
      rw [Int.zero_mul]; rfl
  | p :: ps, h => by
    unfold pstep
    rw [List.flatMap_cons, swr_app, swr_one (h p (List.mem_cons_self ..))]
    have ih := swr_step (f := f) (c := c) (r := r) st ps fun q hq => h q (List.mem_cons_of_mem _ hq)
    unfold pstep at ih
    rw [ih, sum_add_mul]
    congr 1
    refine List.map_congr_left fun s _ => ?_
    rw [swr_cons]
/-- the vector is what the beginnings are worth -/
theorem wvec {m : Mach} (hm : MOk m) {f : WFn} (cs : List Nat) : wvs f m (alone m.n m.fs) cs = (List.range m.n).map fun r => swr f cs (prow m m.fs cs) r := by
  have gen : ∀ (k : Nat), k ≤ cs.length → wvs f m (alone m.n m.fs) (cs.take k) = (List.range m.n).map fun r => swr f (cs.take k) (prow m m.fs (cs.take k)) r := by
    intro k
    induction k with
    | zero =>
      intro _
      rw [List.take_zero]
      show alone m.n m.fs = _
      unfold alone
      refine List.map_congr_left fun r _ => ?_
      show _ = swr f [] (m.fs.map fun r => [r]) r
      have key : ∀ fs : List Nat, fs.Nodup → swr f [] (fs.map fun r => [r]) r = if r ∈ fs then 1 else 0 := by
        intro fs
        induction fs with
        | nil => intro _; rfl
        | cons a fs ih =>
          intro nd
          rw [List.nodup_cons] at nd
          rw [List.map_cons, swr_cons, ih nd.2]
          show (if a = r then (1 : Int) else 0) + _ = _
          by_cases h : a = r
          · subst h
            rw [if_pos rfl, if_neg nd.1, if_pos (List.mem_cons_self ..)]
            rfl
          · rw [if_neg h, Int.zero_add]
            by_cases h2 : r ∈ fs
            · rw [if_pos h2, if_pos (List.mem_cons_of_mem _ h2)]
            · rw [if_neg h2, if_neg (by simp only [List.mem_cons, not_or]; exact ⟨fun z => h z.symm, h2⟩)]
      rw [key _ hm.fs.nd]
      by_cases h : r ∈ m.fs
      · rw [if_pos h, if_pos (decide_eq_true h)]
      · rw [if_neg h, if_neg (by simpa using h)]
    | succ k ih =>
      intro hk
      have hc : cs[k]? = some (cs[k]'(by omega)) := List.getElem?_eq_getElem (by omega)
      have e : cs.take (k + 1) = cs.take k ++ [cs[k]'(by omega)] := by rw [List.take_succ, hc]; rfl
      rw [e, wvs_snoc, prow_snoc, ih (by omega)]
      unfold wvd
      refine List.map_congr_left fun r _ => ?_
      rw [swr_step m.st _ (prow_pl m m.fs _)]
      congr 1
      refine List.map_congr_left fun s hs => ?_
      rw [range_getD (hm.st s (List.mem_filter.mp hs).1).a]
  have := gen cs.length (Nat.le_refl _)
  rwa [List.take_length] at this
theorem swr_in {f : WFn} {cs : List Nat} {ps : List (List Nat)} : ∀ {ls : List Nat}, ls.Nodup → (ls.map fun r => swr f cs ps r).sum = ((ps.filter fun p => decide (lastR p ∈ ls)).map fun p => pwr f p cs cs.length).sum
  | [], _ => by
    rw [List.filter_eq_nil_iff.mpr (fun a _ => by simp)]; rfl
  | r :: ls, nd => by
    rw [List.nodup_cons] at nd
    rw [List.map_cons, List.sum_cons, swr_in nd.2]
    induction ps with
    | nil => rfl
    | cons p ps ih =>
      rw [swr_cons, List.filter_cons, List.filter_cons]
      by_cases h1 : lastR p = r
      · have h2 : lastR p ∉ ls := by rw [h1]; exact nd.1
        rw [if_pos h1, if_neg (by simpa using h2), if_pos (by simp [h1]), List.map_cons, List.sum_cons, ← ih]
        omega
      · by_cases h2 : lastR p ∈ ls
        · rw [if_neg h1, if_pos (decide_eq_true h2), if_pos (by simp [h2]), List.map_cons, List.map_cons, List.sum_cons, List.sum_cons, ← ih]
          omega
        · rw [if_neg h1, if_neg (by simpa using h2), if_neg (by simp [h1, h2]), ← ih]
          omega
theorem weigh_list {m : Mach} (hm : MOk m) (f : WFn) (cs : List Nat) : weighN f m cs = (((prow m m.fs cs).filter fun p => decide (lastR p ∈ m.ls)).map fun p => pwr f p cs cs.length).sum := by
  unfold weighN
  rw [wvec hm, ← swr_in hm.ls.nd]
  congr 1
  exact List.map_congr_left fun r hr => range_getD (hm.ls.lt r hr)
/-- by what always tells 1 -/
theorem weigh_one (m : Mach) (cs : List Nat) : weighN (fun _ _ _ => 1) m cs = waysN m cs m.fs m.ls := by
  have e : ∀ (cs : List Nat) (v : List Int), wvs (fun _ _ _ => 1) m v cs = mvs m v cs := by
    intro cs
    induction cs with
    | nil => intro v; rfl
    | cons c cs ih =>
      intro v
      show wvs _ m (wvd _ m.n m.st v c) cs = mvs m (mvd m.n m.st v c) cs
      have : wvd (fun _ _ _ => 1) m.n m.st v c = mvd m.n m.st v c := by
        unfold wvd mvd
        simp only [Int.mul_one]
      rw [this, ih]
  unfold weighN waysN
  rw [e]
/-! ### bounds -/
def FOk (f : WFn) : Prop := ∀ a c b, a < 12 → b < 12 → (f a c b).natAbs ≤ 2 ^ 200
theorem log_le {x k : Nat} (h : x ≤ 2 ^ k) : x.log2 ≤ k := by
  by_cases h0 : x = 0
  · subst h0
    exact Nat.zero_le _
  · have : x.log2 < k + 1 := (Nat.log2_lt h0).mpr (Nat.lt_of_le_of_lt h (Nat.pow_lt_pow_right (by decide) (Nat.lt_succ_self k)))
    omega
theorem sum_absle {α : Type} {g : α → Int} {C : Nat} : ∀ {l : List α}, (∀ x ∈ l, (g x).natAbs ≤ C) → ((l.map g).sum).natAbs ≤ l.length * C
  | [], _ => Nat.zero_le _
  | x :: l, h => by
    rw [List.map_cons, List.sum_cons, List.length_cons, Nat.succ_mul]
    have h1 := h x (List.mem_cons_self ..)
    have h2 := sum_absle (l := l) fun y hy => h y (List.mem_cons_of_mem _ hy)
    omega
theorem wvd_le {f : WFn} (hf : FOk f) {m : Mach} (hm : MOk m) {v : List Int} {c B : Nat} (hv : ∀ r, (v.getD r 0).natAbs ≤ B) (r : Nat) : ((wvd f m.n m.st v c).getD r 0).natAbs ≤ B * 2 ^ 208 := by
  have hn := hm.n1
  by_cases hr : r < m.n
  · rw [List.getD_eq_getElem?_getD, wvd_get f m.n m.st v c hr]
    show (List.sum (α := Int) _).natAbs ≤ _
    refine Nat.le_trans (sum_absle (C := B * 2 ^ 200) fun s hs => ?_) ?_
    · have ho := hm.st s (List.mem_filter.mp hs).1
      have ha := ho.a
      have hb := ho.b
      rw [Int.natAbs_mul]
      exact Nat.mul_le_mul (hv _) (hf _ _ _ (by omega) (by omega))
    · have h1 : (m.st.filter fun s => decide (s.2.1 = c) && decide (s.2.2 = r)).length ≤ 2 ^ 8 := Nat.le_trans (List.length_filter_le _ _) (Nat.le_trans hm.len (by decide))
      calc _ ≤ 2 ^ 8 * (B * 2 ^ 200) := Nat.mul_le_mul_right _ h1
        _ = B * (2 ^ 8 * 2 ^ 200) := by rw [Nat.mul_left_comm]
        _ = B * 2 ^ 208 := by rw [← Nat.pow_add]
  · rw [List.getD_eq_getElem?_getD, List.getElem?_eq_none (by rw [wvd_len]; omega)]
    exact Nat.zero_le _
theorem wvs_le {f : WFn} (hf : FOk f) {m : Mach} (hm : MOk m) (cs : List Nat) : ∀ i, i ≤ cs.length → ∀ r, ((wvs f m (alone m.n m.fs) (cs.take i)).getD r 0).natAbs ≤ 2 ^ (208 * i)
  | 0, _, r => by
    rw [List.take_zero]
    show ((alone m.n m.fs).getD r 0).natAbs ≤ 1
    by_cases hr : r < m.n
    · unfold alone
      rw [range_getD hr]
      split <;> decide
    · rw [List.getD_eq_getElem?_getD, List.getElem?_eq_none (by rw [alone_len]; omega)]
      exact Nat.zero_le _
  | i + 1, h, r => by
    have hc : cs[i]? = some (cs[i]'(by omega)) := List.getElem?_eq_getElem (by omega)
    have e : cs.take (i + 1) = cs.take i ++ [cs[i]'(by omega)] := by rw [List.take_succ, hc]; rfl
    rw [e, wvs_snoc, show 208 * (i + 1) = 208 * i + 208 by omega, Nat.pow_add]
    exact wvd_le hf hm (wvs_le hf hm cs i (by omega)) r
theorem pwr_le {f : WFn} (hf : FOk f) {p cs : List Nat} (hp : ∀ r ∈ p, r < 12) : ∀ k, k < p.length → (pwr f p cs k).natAbs ≤ 2 ^ (200 * k)
  | 0, _ => by show (1 : Int).natAbs ≤ 2 ^ 0; decide
  | k + 1, h => by
    unfold pwr
    have g : ∀ i, i < p.length → p.getD i 0 < 12 := fun i hi => by
      rw [List.getD_eq_getElem?_getD, List.getElem?_eq_getElem hi]
      exact hp _ (List.getElem_mem hi)
    rw [Int.natAbs_mul, show 200 * (k + 1) = 200 * k + 200 by omega, Nat.pow_add]
    exact Nat.mul_le_mul (pwr_le hf hp k (by omega)) (hf _ _ _ (g _ (by omega)) (g _ h))
theorem mulW {a b : Int} {i j : Nat} (ha : a.natAbs ≤ 2 ^ i) (hb : b.natAbs ≤ 2 ^ j) (h : i + j < 1000000) : CMulW a b := by
  unfold CMulW
  have := log_le ha
  have := log_le hb
  omega
/-! ### promises of k13 -/
/-- the function tells f of a step, whatever more is owned -/
def Tells (Rn : RX) (caps : List PV) (O : Own) (m : Mach) (f : WFn) : Prop := ∀ (a c b : Nat) (T : Own) (Φ : PV → Own → Prop) (Ξ : Ex → Own → Prop), a < m.n → b < m.n → ClO (O ++ T) → Φ (pI (f a c b)) (O ++ T) → Rn (caps ++ [.d (iD a), .d (sgD c), .d (iD b)]) (O ++ T) Φ Ξ
theorem Tells.app {Rn : RX} {caps : List PV} {O : Own} {m : Mach} {f : WFn} (h : Tells Rn caps O m f) (T : Own) : Tells Rn caps (O ++ T) m f := fun a c b T' Φ Ξ ha hb cl q => by
  rw [List.append_assoc] at cl q ⊢
  exact h a c b (T ++ T') Φ Ξ ha hb cl q
theorem Tells.at0 {Rn : RX} {caps : List PV} {O : Own} {m : Mach} {f : WFn} (h : Tells Rn caps O m f) {a c b : Nat} {Φ : PV → Own → Prop} {Ξ : Ex → Own → Prop} (ha : a < m.n) (hb : b < m.n) (cl : ClO O) (q : Φ (pI (f a c b)) O) : Rn (caps ++ [.d (iD a), .d (sgD c), .d (iD b)]) O Φ Ξ := by
  have := h a c b [] Φ Ξ ha hb (by rw [List.append_nil]; exact cl) (by rw [List.append_nil]; exact q)
  rwa [List.append_nil] at this
def rWeighed (Rn : RX) : RC := fun C caps args O Φ Ξ => ∃ m t f, args = [.d (mD m), pS t, .fn C] ∧ MOk m ∧ WordOk t ∧ ClO O ∧ FOk f ∧ Tells Rn caps O m f ∧ Φ (pI (weighN f m (cds t))) O
def rProduct13 (Rn : RX) : RC := fun C caps args O Φ Ξ => ∃ m p t f, args = [.d (rmsD p), pS t, .fn C] ∧ MOk m ∧ WordOk t ∧ p.length = t.length + 1 ∧ (∀ r ∈ p, r < m.n) ∧ ClO O ∧ FOk f ∧ Tells Rn caps O m f ∧ Φ (pI (pwr f p (cds t) (cds t).length)) O
def rRight13 (Rn : RX) : RC := fun C caps args O Φ Ξ => ∃ m t f, args = [.d (mD m), pS t, .fn C] ∧ MOk m ∧ WordOk t ∧ Few m (cds t) ∧ ClO O ∧ FOk f ∧ Tells Rn caps O m f ∧ Φ (pB true) O
def rLong13 (P : Addr) (q : Str) : RA := fun args O Φ => args = [] ∧ ClO O ∧ (∃ j : Nat, O[j]? = some (AO.tbl P q)) ∧ Φ (pB true) O
/-- the machine of the long word -/
def mL13 : Mach := ⟨2, [0, 1], [1], [(0, 97, 0), (0, 97, 1), (1, 97, 0), (1, 97, 1)]⟩
theorem long13 : ∀ k : Nat, wvs (fun _ _ b => 1 + (b : Int)) mL13 (alone 2 [0, 1]) (List.replicate (k + 1) 97) = [2 * 3 ^ k, 4 * 3 ^ k]
  | 0 => by decide
  | k + 1 => by
    rw [List.replicate_succ', wvs_snoc, long13 k]
    rw [Int.pow_succ]
    have e0 : ((2 : Int) * 3 ^ k * (1 + (0 : Nat)) + (4 * 3 ^ k * (1 + (0 : Nat)) + 0)) = 2 * (3 ^ k * 3) := by generalize (3 : Int) ^ k = x; omega
    have e1 : ((2 : Int) * 3 ^ k * (1 + (1 : Nat)) + (4 * 3 ^ k * (1 + (1 : Nat)) + 0)) = 4 * (3 ^ k * 3) := by generalize (3 : Int) ^ k = x; omega
    exact (congrArg (fun a => [a, _]) e0).trans (congrArg (fun b => [_, b]) e1)
end Al
namespace Al
open PySem PySem.Spec L2
open PyProof.Rows hiding St
/-! ### what the functions of k13 tell -/
theorem occ_bound (s sub : Str) (hi lim : Nat) : ∀ (l : List Nat) (st : Array Nat × Nat), (∀ i ∈ st.1.toList, i ≤ hi) → ∀ i ∈ (forIn l st (PySem.StrLaws.occBody s sub hi lim)).run.fst.toList, i ≤ hi
  | [], st, h => h
  | a :: l, st, h => by
    rw [List.forIn_cons]
    unfold PySem.StrLaws.occBody
    split
    · rename_i hc
      refine occ_bound s sub hi lim l _ fun i hi' => ?_
      rw [Array.toList_push] at hi'
      rcases List.mem_append.mp hi' with h1 | h1
      · exact h i h1
      · obtain rfl := List.mem_singleton.mp h1
        have := hc.1.2
        omega
    · exact occ_bound s sub hi lim l _ h
theorem find_le (x y : Str) : (Txt.find x y).natAbs ≤ x.length + 1 := by
  unfold Txt.find
  have h := occ_bound x y x.length 1 (List.range' 0 (x.length + 1 - 0)) (#[], 0) (fun i hi => by simp at hi)
  rw [← PySem.StrLaws.occ_eq] at h
  cases e : Builtin.Str.occurrences x y 0 x.length 1 with
  | nil => show (1 : Nat) ≤ _; omega
  | cons i r =>
    have := h i (by rw [e]; exact List.mem_cons_self ..)
    show ((i : Nat) : Int).natAbs ≤ _
    omega
def DrawnOk (kvs : List (List Key × PV)) : Prop := ∀ e ∈ kvs, ∃ i : Int, e.2 = pI i ∧ i.natAbs ≤ 10
def drw (kvs : List (List Key × PV)) (a c b : Nat) : Int := match getK kvs [kR a, kSg c, kR b] with
  | some (.d (.int i)) => i
  | _ => 5
theorem getK_mem {kvs : List (List Key × PV)} {k : List Key} {v : PV} (h : getK kvs k = some v) : ∃ e ∈ kvs, e.2 = v := by
  unfold getK at h
  cases e : kvs.find? fun kv => decide (kv.1 = k) with
  | none => rw [e] at h; cases h
  | some p =>
    rw [e] at h
    cases h
    exact ⟨p, List.mem_of_find?_eq_some e, rfl⟩
theorem drw_some {kvs : List (List Key × PV)} (hd : DrawnOk kvs) {a c b : Nat} {v : PV} (h : getK kvs [kR a, kSg c, kR b] = some v) : v = pI (drw kvs a c b) := by
  obtain ⟨e, he, rfl⟩ := getK_mem h
  obtain ⟨i, hi, _⟩ := hd e he
  unfold drw
  rw [h, hi]
theorem drw_none {kvs : List (List Key × PV)} {a c b : Nat} (h : getK kvs [kR a, kSg c, kR b] = none) : drw kvs a c b = 5 := by
  unfold drw
  rw [h]
theorem drw_le {kvs : List (List Key × PV)} (hd : DrawnOk kvs) (a c b : Nat) : (drw kvs a c b).natAbs ≤ 10 := by
  cases h : getK kvs [kR a, kSg c, kR b] with
  | none => rw [drw_none h]; decide
  | some v =>
    have h2 := drw_some hd h
    obtain ⟨e, he, e2⟩ := getK_mem h
    obtain ⟨i, hi, hb⟩ := hd e he
    rw [hi, h2] at e2
    cases e2
    exact hb
theorem drawn_nil : DrawnOk [] := fun _ h => nomatch h
theorem drawn_set {kvs : List (List Key × PV)} (h : DrawnOk kvs) {k : List Key} {i : Int} (hi : i.natAbs ≤ 10) : DrawnOk (setK kvs k (pI i)) := by
  unfold setK
  intro e he
  split at he
  · obtain ⟨x, hx, rfl⟩ := List.mem_map.mp he
    by_cases h2 : x.1 = k
    · rw [if_pos h2]; exact ⟨i, rfl, hi⟩
    · rw [if_neg h2]; exact h x hx
  · rcases List.mem_append.mp he with h1 | h1
    · exact h e h1
    · obtain rfl := List.mem_singleton.mp h1
      exact ⟨i, rfl, hi⟩
theorem setK_len {kvs : List (List Key × PV)} {k : List Key} {v : PV} : (setK kvs k v).length ≤ kvs.length + 1 := by
  unfold setK
  split
  · rw [List.length_map]; omega
  · rw [List.length_append]; exact Nat.le_refl _
theorem drawn_below {kvs : List (List Key × PV)} (h : DrawnOk kvs) (n : Nat) : (AO.dT kvs).below n = true := by
  show kvs.all (fun p => p.2.blw n) = true
  rw [List.all_eq_true]
  intro e he
  obtain ⟨i, hi, _⟩ := h e he
  rw [hi]
  rfl
/-- the dict is asked -/
def rLm1 : RX := fun xs O Φ Ξ => ∃ j kvs a c b, xs = [.o j, .d (iD a), .d (sgD c), .d (iD b)] ∧ O[j]? = some (.dT kvs) ∧ DrawnOk kvs ∧ ClO O ∧ Φ (pI (drw kvs a c b)) O
def rLm2 : RX := fun xs O Φ Ξ => ∃ a c b : Nat, xs = [.d (iD a), .d (sgD c), .d (iD b)] ∧ Φ (pI ((a : Int) - b)) O
def rLm3 : RX := fun xs O Φ Ξ => ∃ z, ∃ a c b : Nat, xs = [pS z, .d (iD a), .d (sgD c), .d (iD b)] ∧ ClO O ∧ Φ (pI (Txt.find z ⟨#[c]⟩ + 1)) O
def rLm4 : RX := fun xs O Φ Ξ => ∃ k : Int, ∃ a c b : Nat, xs = [pI k, .d (iD a), .d (sgD c), .d (iD b)] ∧ b < 100 ∧ Φ (pI (b * k)) O
def rLm5 : RX := fun xs O Φ Ξ => ∃ k : Int, ∃ a c b : Nat, xs = [pI k, .d (iD a), .d (sgD c), .d (iD b)] ∧ Φ (pI k) O
def rLm6 : RX := fun xs O Φ Ξ => ∃ a c b : Nat, xs = [.d (iD a), .d (sgD c), .d (iD b)] ∧ Φ (pI 1) O
def rLm7 : RX := fun xs O Φ Ξ => ∃ a c b : Nat, xs = [.d (iD a), .d (sgD c), .d (iD b)] ∧ Φ (pI (1 + b)) O
theorem le200 {x : Int} {k : Nat} (h : x.natAbs ≤ 2 ^ k) (hk : k ≤ 200) : x.natAbs ≤ 2 ^ 200 := Nat.le_trans h (Nat.pow_le_pow_right (by decide) hk)
theorem small200 {x : Int} (h : x.natAbs ≤ 1000) : x.natAbs ≤ 2 ^ 200 := Nat.le_trans h (by decide)
/-- a function made in the running frame that tells a number of a step -/
def Fits (X : Ax) (ρ : Env1) (O : Own) (m : Mach) (x : PV) : Prop := ∃ C Rn caps f, x = .fn C ∧ CapX X ρ 1 3 Rn C caps ∧ FOk f ∧ Tells Rn caps O m f
section
variable {X : Ax} {ρ : Env1} {O : Own} {Φ : PV → Own → Prop}
/-- a lambda, its object not looked into -/
theorem ae_lamX (mk : Addr → LF) {j : Nat} {c P : Addr} {params : Arguments} {body : Expr} {scope : Scope} {pos : Pos} (TB : LamX.TabB X.c.base X.c.mg c P) (hcode : X.c.env.code = .ref c) (hj : O[j]? = some (.tbl P (X.c.env.qual ++ "<lambda>")))
    (hfree : ∀ y ∈ scope.names, y.2 = .free → X.c.env.scope.names.lookup y.1 = some .cell ∨ X.c.env.scope.names.lookup y.1 = some .free)
    (hF : ∀ c' : Addr, (⟨X.c.env.qual ++ "<lambda>", params, body, scope, cloFrom X.c.env.cells scope.names [], c'⟩ : LF) = mk c')
    (k : ∀ (C : CF) (c' : Addr), C = .lm (mk c') → Φ (.fn C) O)
    (hdef : defaultsOf params X.c.env = ([], []) := by rfl) : AE X (.Lambda params body scope pos) ρ O Φ :=
  ae_lam TB hcode hj hfree (fun c' => by rw [hF c']; exact k _ c' rfl) hdef
end
end Al
namespace K13
open PySem PySem.Spec L2 Al
open PyProof.Rows hiding St
def topS (i : Nat) : Stmt := PySem.Challenge.pw_triesgrow_k13_ways_weighed.main.body.getD i (.Pass ⟨0, 0, 0, 0⟩)
abbrev s_is_sign : Stmt := topS 7
abbrev N_is_sign : List Str := ["thing"]
abbrev P_is_sign : List Str := ["thing"]
theorem sc_is_sign : FnScope N_is_sign P_is_sign (defScope s_is_sign) := ⟨rfl, rfl, rfl, by decide +kernel, rfl, by decide +kernel, by decide +kernel⟩
abbrev D_is_sign (G : Gx) : Prop := DefA G 1 "is_sign" P_is_sign [] (up rSign)
abbrev s_is_whole : Stmt := topS 11
abbrev N_is_whole : List Str := ["thing"]
abbrev P_is_whole : List Str := ["thing"]
theorem sc_is_whole : FnScope N_is_whole P_is_whole (defScope s_is_whole) := ⟨rfl, rfl, rfl, by decide +kernel, rfl, by decide +kernel, by decide +kernel⟩
abbrev D_is_whole (G : Gx) : Prop := DefA G 1 "is_whole" P_is_whole [] (up rWhole)
abbrev s_is_within : Stmt := topS 12
abbrev N_is_within : List Str := ["thing", "least", "most"]
abbrev P_is_within : List Str := ["thing", "least", "most"]
theorem sc_is_within : FnScope N_is_within P_is_within (defScope s_is_within) := ⟨rfl, rfl, rfl, by decide +kernel, rfl, by decide +kernel, by decide +kernel⟩
abbrev D_is_within (G : Gx) : Prop := DefA G 2 "is_within" P_is_within [] (up rWithin)
abbrev s_look_at_rooms : Stmt := topS 13
abbrev N_look_at_rooms : List Str := ["many", "part", "thing", "last", "number", "room"]
abbrev P_look_at_rooms : List Str := ["many", "part", "thing"]
theorem sc_look_at_rooms : FnScope N_look_at_rooms P_look_at_rooms (defScope s_look_at_rooms) := ⟨rfl, rfl, rfl, by decide +kernel, rfl, by decide +kernel, by decide +kernel⟩
abbrev D_look_at_rooms (G : Gx) : Prop := DefA G 3 "look_at_rooms" P_look_at_rooms [] (up rLookRooms)
abbrev s_is_step : Stmt := topS 14
abbrev N_is_step : List Str := ["many", "thing"]
abbrev P_is_step : List Str := ["many", "thing"]
theorem sc_is_step : FnScope N_is_step P_is_step (defScope s_is_step) := ⟨rfl, rfl, rfl, by decide +kernel, rfl, by decide +kernel, by decide +kernel⟩
abbrev D_is_step (G : Gx) : Prop := DefA G 3 "is_step" P_is_step [] (up rIsStep)
abbrev s_look_at_steps : Stmt := topS 15
abbrev N_look_at_steps : List Str := ["many", "thing", "seen", "number", "step"]
abbrev P_look_at_steps : List Str := ["many", "thing"]
theorem sc_look_at_steps : FnScope N_look_at_steps P_look_at_steps (defScope s_look_at_steps) := ⟨rfl, rfl, rfl, by decide +kernel, rfl, by decide +kernel, by decide +kernel⟩
abbrev D_look_at_steps (G : Gx) : Prop := DefA G 4 "look_at_steps" P_look_at_steps [] (up rLookSteps)
abbrev s_look_at : Stmt := topS 16
abbrev N_look_at : List Str := ["thing", "many", "firsts", "lasts", "steps"]
abbrev P_look_at : List Str := ["thing"]
theorem sc_look_at : FnScope N_look_at P_look_at (defScope s_look_at) := ⟨rfl, rfl, rfl, by decide +kernel, rfl, by decide +kernel, by decide +kernel⟩
abbrev D_look_at (G : Gx) : Prop := DefA G 5 "look_at" P_look_at [] (up rLook)
abbrev s_look_at_room : Stmt := topS 17
abbrev N_look_at_room : List Str := ["machine", "room"]
abbrev P_look_at_room : List Str := ["machine", "room"]
theorem sc_look_at_room : FnScope N_look_at_room P_look_at_room (defScope s_look_at_room) := ⟨rfl, rfl, rfl, by decide +kernel, rfl, by decide +kernel, by decide +kernel⟩
abbrev D_look_at_room (G : Gx) : Prop := DefA G 3 "look_at_room" P_look_at_room [] (up rLookRoom)
abbrev s_look_at_word : Stmt := topS 19
abbrev N_look_at_word : List Str := ["text", "at", "sign"]
abbrev P_look_at_word : List Str := ["text"]
theorem sc_look_at_word : FnScope N_look_at_word P_look_at_word (defScope s_look_at_word) := ⟨rfl, rfl, rfl, by decide +kernel, rfl, by decide +kernel, by decide +kernel⟩
abbrev D_look_at_word (G : Gx) : Prop := DefA G 2 "look_at_word" P_look_at_word [] (up rLookWord)
abbrev s_alone_at : Stmt := topS 20
abbrev N_alone_at : List Str := ["machine", "rooms", "room"]
abbrev P_alone_at : List Str := ["machine", "rooms"]
theorem sc_alone_at : FnScope N_alone_at P_alone_at (defScope s_alone_at) := ⟨rfl, rfl, rfl, by decide +kernel, rfl, by decide +kernel, by decide +kernel⟩
abbrev D_alone_at (G : Gx) : Prop := DefA G 1 "alone_at" P_alone_at [] (up rAlone)
abbrev s_moved : Stmt := topS 21
abbrev N_moved : List Str := ["machine", "vector", "sign", "later", "room", "letter", "to"]
abbrev P_moved : List Str := ["machine", "vector", "sign"]
theorem sc_moved : FnScope N_moved P_moved (defScope s_moved) := ⟨rfl, rfl, rfl, by decide +kernel, rfl, by decide +kernel, by decide +kernel⟩
abbrev D_moved (G : Gx) : Prop := DefA G 1 "moved" P_moved [] (up rMoved)
abbrev s_moved_by : Stmt := topS 22
abbrev N_moved_by : List Str := ["machine", "vector", "text", "sign"]
abbrev P_moved_by : List Str := ["machine", "vector", "text"]
theorem sc_moved_by : FnScope N_moved_by P_moved_by (defScope s_moved_by) := ⟨rfl, rfl, rfl, by decide +kernel, rfl, by decide +kernel, by decide +kernel⟩
abbrev D_moved_by (G : Gx) : Prop := DefA G 2 "moved_by" P_moved_by [] (up rMovedBy)
abbrev s_sum_at : Stmt := topS 23
abbrev N_sum_at : List Str := ["vector", "rooms", "room"]
abbrev P_sum_at : List Str := ["vector", "rooms"]
theorem sc_sum_at : FnScope N_sum_at P_sum_at (defScope s_sum_at) := ⟨rfl, rfl, rfl, by decide +kernel, rfl, by decide +kernel, by decide +kernel⟩
abbrev D_sum_at (G : Gx) : Prop := DefA G 1 "sum_at" P_sum_at [] (up rSumAt)
abbrev s_ways : Stmt := topS 24
abbrev N_ways : List Str := ["machine", "text", "first", "last", "firsts", "lasts"]
abbrev P_ways : List Str := ["machine", "text", "first", "last"]
theorem sc_ways : FnScope N_ways P_ways (defScope s_ways) := ⟨rfl, rfl, rfl, by decide +kernel, rfl, by decide +kernel, by decide +kernel⟩
abbrev s_weighed : Stmt := topS 25
abbrev N_weighed : List Str := ["machine", "text", "worth", "vector", "sign", "later", "room", "letter", "to"]
abbrev P_weighed : List Str := ["machine", "text", "worth"]
theorem sc_weighed : FnScope N_weighed P_weighed (defScope s_weighed) := ⟨rfl, rfl, rfl, by decide +kernel, rfl, by decide +kernel, by decide +kernel⟩
abbrev D_weighed (G : Gx) : Prop := DefA G 6 "weighed" P_weighed [] (up rHand)
abbrev s__law_hand : Stmt := topS 27
abbrev N__law_hand : List Str := ["_law_script", "_law_k", "_law_cell", "_law_seed"]
abbrev P__law_hand : List Str := ["_law_script", "_law_k"]
theorem sc__law_hand : FnScope N__law_hand P__law_hand (defScope s__law_hand) := ⟨rfl, rfl, rfl, by decide +kernel, rfl, by decide +kernel, by decide +kernel⟩
abbrev D__law_hand (G : Gx) : Prop := DefA G 1 "_law_hand" P__law_hand [] (up rHand)
abbrev s__law_draw : Stmt := topS 28
abbrev N__law_draw : List Str := ["_law_hand_here", "_law_size", "_law_found"]
abbrev P__law_draw : List Str := ["_law_hand_here", "_law_size"]
theorem sc__law_draw : FnScope N__law_draw P__law_draw (defScope s__law_draw) := ⟨rfl, rfl, rfl, by decide +kernel, rfl, by decide +kernel, by decide +kernel⟩
abbrev D__law_draw (G : Gx) : Prop := DefA G 1 "_law_draw" P__law_draw [] (up rDraw)
abbrev s__law_rooms : Stmt := topS 29
abbrev N__law_rooms : List Str := ["_law_hand_here", "_law_size", "_law_some", "_law_room"]
abbrev P__law_rooms : List Str := ["_law_hand_here", "_law_size"]
theorem sc__law_rooms : FnScope N__law_rooms P__law_rooms (defScope s__law_rooms) := ⟨rfl, rfl, rfl, by decide +kernel, rfl, by decide +kernel, by decide +kernel⟩
abbrev D__law_rooms (G : Gx) : Prop := DefA G 2 "_law_rooms" P__law_rooms [] (up rRooms)
abbrev s__law_letters : Stmt := topS 30
abbrev N__law_letters : List Str := ["_law_hand_here"]
abbrev P__law_letters : List Str := ["_law_hand_here"]
theorem sc__law_letters : FnScope N__law_letters P__law_letters (defScope s__law_letters) := ⟨rfl, rfl, rfl, by decide +kernel, rfl, by decide +kernel, by decide +kernel⟩
abbrev D__law_letters (G : Gx) : Prop := DefA G 2 "_law_letters" P__law_letters [] (up rLetters)
abbrev s__law_machine : Stmt := topS 31
abbrev N__law_machine : List Str := ["_law_hand_here", "_law_upto", "_law_extra", "_law_letters_here", "_law_rooms_here", "_law_firsts", "_law_lasts", "_law_steps", "_law_k", "_law_step"]
abbrev P__law_machine : List Str := ["_law_hand_here", "_law_upto", "_law_extra", "_law_letters_here"]
theorem sc__law_machine : FnScope N__law_machine P__law_machine (defScope s__law_machine) := ⟨rfl, rfl, rfl, by decide +kernel, rfl, by decide +kernel, by decide +kernel⟩
abbrev D__law_machine (G : Gx) : Prop := DefA G 3 "_law_machine" P__law_machine [] (up rMachine)
abbrev s__law_word : Stmt := topS 32
abbrev N__law_word : List Str := ["_law_hand_here", "_law_letters_here", "_law_upto", "_law_k"]
abbrev P__law_word : List Str := ["_law_hand_here", "_law_letters_here", "_law_upto"]
theorem sc__law_word : FnScope N__law_word P__law_word (defScope s__law_word) := ⟨rfl, rfl, rfl, by decide +kernel, rfl, by decide +kernel, by decide +kernel⟩
abbrev D__law_word (G : Gx) : Prop := DefA G 2 "_law_word" P__law_word [] (up rWord)
abbrev s__law_beginnings : Stmt := topS 33
abbrev N__law_beginnings : List Str := ["_law_machine_here", "_law_text", "_law_found", "_law_room", "_law_sign", "_law_longer", "_law_one", "_law_letter", "_law_to"]
abbrev P__law_beginnings : List Str := ["_law_machine_here", "_law_text"]
theorem sc__law_beginnings : FnScope N__law_beginnings P__law_beginnings (defScope s__law_beginnings) := ⟨rfl, rfl, rfl, by decide +kernel, rfl, by decide +kernel, by decide +kernel⟩
abbrev D__law_beginnings (G : Gx) : Prop := DefA G 1 "_law_beginnings" P__law_beginnings [] (up rLBegs)
abbrev s__law_ways : Stmt := topS 34
abbrev N__law_ways : List Str := ["_law_machine_here", "_law_text", "_law_one"]
abbrev P__law_ways : List Str := ["_law_machine_here", "_law_text"]
theorem sc__law_ways : FnScope N__law_ways P__law_ways (defScope s__law_ways) := ⟨rfl, rfl, rfl, by decide +kernel, rfl, by decide +kernel, by decide +kernel⟩
abbrev D__law_ways (G : Gx) : Prop := DefA G 2 "_law_ways" P__law_ways [] (up rLWays)
abbrev s__law_product : Stmt := topS 35
abbrev N__law_product : List Str := ["_law_way", "_law_text", "_law_worth", "_law_found", "_law_at"]
abbrev P__law_product : List Str := ["_law_way", "_law_text", "_law_worth"]
theorem sc__law_product : FnScope N__law_product P__law_product (defScope s__law_product) := ⟨rfl, rfl, rfl, by decide +kernel, rfl, by decide +kernel, by decide +kernel⟩
abbrev D__law_product (G : Gx) : Prop := DefA G 2 "_law_product" P__law_product [] (up rHand)
abbrev s__law_right : Stmt := topS 36
abbrev N__law_right : List Str := ["_law_machine_here", "_law_text", "_law_worth", "_law_due", "_law_way", "_law_k", "_law_found"]
abbrev P__law_right : List Str := ["_law_machine_here", "_law_text", "_law_worth"]
theorem sc__law_right : FnScope N__law_right P__law_right (defScope s__law_right) := ⟨rfl, rfl, rfl, by decide +kernel, rfl, by decide +kernel, by decide +kernel⟩
abbrev D__law_right (G : Gx) : Prop := DefA G 7 "_law_right" P__law_right [] (up rHand)
abbrev s__law_long : Stmt := topS 37
abbrev N__law_long : List Str := ["_law_machine_here", "_law_due", "_law_turn"]
abbrev P__law_long : List Str := []
theorem sc__law_long : FnScope N__law_long P__law_long (defScope s__law_long) := ⟨rfl, rfl, rfl, by decide +kernel, rfl, by decide +kernel, by decide +kernel⟩
abbrev D__law_long (G : Gx) : Prop := DefA G 7 "_law_long" P__law_long [] (up rHand)
abbrev s_law : Stmt := topS 38
abbrev N_law : List Str := ["_law_script", "_law_k", "_law_hand_here", "_law_letters_here", "_law_machine_here", "_law_text", "_law_drawn", "_law_step", "_law_many", "_law_was", "_law_some", "_law_worth"]
abbrev P_law : List Str := ["_law_script"]
theorem sc_law : FnScope N_law P_law (defScope s_law) := ⟨rfl, rfl, rfl, by decide +kernel, rfl, by decide +kernel, by decide +kernel⟩
abbrev D_ways (G : Gx) : Prop := DefA G 6 "ways" P_ways [pN, pN] (up rWays)
/-- what the module's names hold -/
structure Txt (mg : Str → Option Value) : Prop where
  bool_ : mg "bool" = none
  enumerate_ : mg "enumerate" = none
  int_ : mg "int" = none
  isi_ : mg "isinstance" = none
  len_ : mg "len" = none
  list_ : mg "list" = none
  max_ : mg "max" = none
  min_ : mg "min" = none
  range_ : mg "range" = none
  repr_ : mg "repr" = none
  str_ : mg "str" = none
  sum_ : mg "sum" = none
  tuple_ : mg "tuple" = none
  LETTERS : ∃ t, mg "LETTERS" = some (.str "abcdefghijklmnopqrstuvwxyz" t)
  MOST_ROOMS : ∃ t, mg "MOST_ROOMS" = some (.int 12 t)
  MOST_STEPS : ∃ t, mg "MOST_STEPS" = some (.int 200 t)
  MOST_WORD : ∃ t, mg "MOST_WORD" = some (.int 400 t)
end K13
set_option pp.maxSteps 1200
namespace K13
open PySem PySem.Spec L2 Al
open PyProof.Rows hiding St
local macro_rules | `(tactic| walk_at "v") => `(tactic| first | refine ae_var 0 rfl ?_ | refine ae_var 1 rfl ?_ | refine ae_var 2 rfl ?_ | refine ae_var 3 rfl ?_ | refine ae_var 4 rfl ?_ | refine ae_var 5 rfl ?_ | refine ae_var 6 rfl ?_ | refine ae_var 7 rfl ?_ | refine ae_var 8 rfl ?_ | refine ae_var 9 rfl ?_ | refine ae_var 10 rfl ?_ | refine ae_var 11 rfl ?_ | refine ae_var 12 rfl ?_ | refine ae_var 13 rfl ?_ | refine ae_var 14 rfl ?_ | refine ae_var 15 rfl ?_ | refine ae_var 16 rfl ?_ | refine ae_var 17 rfl ?_ | refine ae_var 18 rfl ?_ | refine ae_var 19 rfl ?_ | refine ae_ty (Txt.int_ ‹_›) boot_int ?_ | refine ae_ty (Txt.str_ ‹_›) boot_str ?_ | refine ae_ty (Txt.bool_ ‹_›) boot_bool ?_ | refine ae_ty (Txt.list_ ‹_›) boot_list ?_ | refine ae_ty (Txt.tuple_ ‹_›) boot_tuple ?_ | refine ae_globS (Txt.LETTERS ‹_›).choose_spec ?_ | refine ae_globI (Txt.MOST_ROOMS ‹_›).choose_spec ?_ | refine ae_globI (Txt.MOST_STEPS ‹_›).choose_spec ?_ | refine ae_globI (Txt.MOST_WORD ‹_›).choose_spec ?_)
local macro_rules | `(tactic| walk_at "ge") => `(tactic| first
  | ((with_reducible show ite (true = true) _ _); refine iteT ?_)
  | ((with_reducible show ite (false = true) _ _); refine iteF ?_)
  | ((with_reducible show ite ((!true) = true) _ _); refine iteF ?_)
  | ((with_reducible show ite ((!false) = true) _ _); refine iteT ?_)
  | ((with_reducible show IsB _ _ _); refine isB_mk ?_)
  | ((with_reducible show AE _ (Expr.Name _ _) _ _ _); walk_at "v")
  | ((with_reducible show AE _ (Expr.Constant (Const.int _) _ _) _ _ _); refine ae_int ?_)
  | ((with_reducible show AE _ (Expr.Constant (Const.str _) _ _) _ _ _); refine ae_str ?_)
  | ((with_reducible show AE _ (Expr.Constant (Const.bool _) _ _) _ _ _); refine ae_bl ?_)
  | ((with_reducible show AE _ (Expr.Constant Const.none _ _) _ _ _); refine ae_non ?_)
  | ((with_reducible show AO1 _ (some _) _ _ _); refine ao_some ?_)
  | ((with_reducible show AO1 _ none _ _ _); refine ao_none ?_)
  | ((with_reducible show AE _ (Expr.BinOp _ _ _ _) _ _ _); refine ae_bin ?_)
  | ((with_reducible show AE _ (Expr.Compare _ [_] [_] _) _ _ _); refine ae_cmp ?_)
  | ((with_reducible show AE _ (Expr.Compare _ [_, _] [_, _] _) _ _ _); refine ae_chain ?_)
  | ((with_reducible show AE _ (Expr.Subscript _ (Expr.Slice none none (some _) _) _) _ _ _); refine ae_revS ?_)
  | ((with_reducible show AE _ (Expr.Subscript _ (Expr.Slice _ _ _ _) _) _ _ _); fail)
  | ((with_reducible show AE _ (Expr.Subscript _ _ _) _ _ _); refine ae_ix ?_)
  | ((with_reducible show AE _ (Expr.BoolOp _ [_] _) _ _ _); refine ae_one ?_)
  | ((with_reducible show AE _ (Expr.BoolOp BoolOp.And _ _) _ _ _); refine ae_and ?_)
  | ((with_reducible show AE _ (Expr.BoolOp BoolOp.Or _ _) _ _ _); refine ae_or ?_)
  | ((with_reducible show AE _ (Expr.UnaryOp UnaryOp.Not _ _) _ _ _); refine ae_not ?_)
  | ((with_reducible show AE _ (Expr.UnaryOp _ _ _) _ _ _); refine ae_un ?_)
  | ((with_reducible show AE _ (Expr.IfExp _ _ _ _) _ _ _); refine ae_if ?_)
  | ((with_reducible show AT _ (Expr.Compare _ [_] [_] _) _ _ _); refine at_cmp ?_)
  | ((with_reducible show AT _ (Expr.Compare _ [_, _] [_, _] _) _ _ _); refine at_chain ?_)
  | ((with_reducible show AT _ (Expr.UnaryOp UnaryOp.Not _ _) _ _ _); refine at_not ?_)
  | ((with_reducible show AT _ (Expr.BoolOp _ _ _) _ _ _); refine at_w ?_)
  | ((with_reducible show AT _ (Expr.Call _ _ _ _) _ _ _); refine at_val ?_)
  | ((with_reducible show AT _ (Expr.Name _ _) _ _ _); refine at_val ?_)
  | ((with_reducible show AW _ (Expr.BoolOp BoolOp.And [_] _) _ _ _); refine aw_and1 ?_)
  | ((with_reducible show AW _ (Expr.BoolOp BoolOp.Or [_] _) _ _ _); refine aw_or1 ?_)
  | ((with_reducible show AW _ (Expr.BoolOp BoolOp.And _ _) _ _ _); refine aw_and ?_)
  | ((with_reducible show AW _ (Expr.BoolOp BoolOp.Or _ _) _ _ _); refine aw_or ?_)
  | ((with_reducible show AA _ [] _ _ _); refine aa_nil ?_)
  | ((with_reducible show AA _ (_ :: _) _ _ _); refine aa_cons ?_)
  | ((with_reducible show BinA _ (binaryOp Operator.Add) (PV.d (PyData.int _)) (PV.d (PyData.int _)) _ _); refine b_add ?_)
  | ((with_reducible show BinA _ (binaryOp Operator.Sub) (PV.d (PyData.int _)) (PV.d (PyData.int _)) _ _); refine b_sub ?_)
  | ((with_reducible show BinA _ (compareOp CmpOp.Lt) (PV.d (PyData.int _)) (PV.d (PyData.int _)) _ _); refine b_lt ?_)
  | ((with_reducible show BinA _ (compareOp CmpOp.LtE) (PV.d (PyData.int _)) (PV.d (PyData.int _)) _ _); refine b_le ?_)
  | ((with_reducible show BinA _ (compareOp CmpOp.Gt) (PV.d (PyData.int _)) (PV.d (PyData.int _)) _ _); refine b_gt ?_)
  | ((with_reducible show BinA _ (compareOp CmpOp.GtE) (PV.d (PyData.int _)) (PV.d (PyData.int _)) _ _); refine b_ge ?_)
  | ((with_reducible show BinA _ (compareOp CmpOp.Eq) (PV.d (PyData.int _)) (PV.d (PyData.int _)) _ _); refine b_eqI ?_)
  | ((with_reducible show BinA _ (compareOp CmpOp.NotEq) (PV.d (PyData.int _)) (PV.d (PyData.int _)) _ _); refine b_neI ?_)
  | ((with_reducible show BinA _ (compareOp CmpOp.Eq) (PV.d (PyData.str _)) (PV.d (PyData.str _)) _ _); refine b_eqS ?_)
  | ((with_reducible show BinA _ (compareOp CmpOp.NotEq) (PV.d (PyData.str _)) (PV.d (PyData.str _)) _ _); refine b_neS ?_)
  | ((with_reducible show BinA _ (compareOp CmpOp.LtE) (PV.d (PyData.str _)) (PV.d (PyData.str _)) _ _); refine b_leS ?_)
  | ((with_reducible show BinA _ (compareOp CmpOp.Lt) (PV.d (PyData.str _)) (PV.d (PyData.str _)) _ _); refine b_ltS ?_)
  | ((with_reducible show BinA _ (compareOp CmpOp.Eq) (PV.d (PyData.bool _)) (PV.d (PyData.bool _)) _ _); refine b_eqB ?_)
  | ((with_reducible show AE _ (Expr.Call (Expr.Name "int" _) _ [] _) _ _ _); refine ae_callTy rfl (Txt.int_ ‹_›) boot_int ?_)
  | ((with_reducible show AE _ (Expr.Call (Expr.Name "isinstance" _) _ [] _) _ _ _); refine ae_callB rfl (Txt.isi_ ‹_›) boot_isinstance ?_)
  | ((with_reducible show AE _ (Expr.Call (Expr.Name "len" _) _ [] _) _ _ _); refine ae_callB rfl (Txt.len_ ‹_›) PySem.boot_len ?_)
  | ((with_reducible show AE _ (Expr.Call (Expr.Name "list" _) _ [] _) _ _ _); refine ae_callTy rfl (Txt.list_ ‹_›) boot_list ?_)
  | ((with_reducible show AE _ (Expr.Call (Expr.Name "max" _) _ [] _) _ _ _); refine ae_callB rfl (Txt.max_ ‹_›) boot_max ?_)
  | ((with_reducible show AE _ (Expr.Call (Expr.Name "min" _) _ [] _) _ _ _); refine ae_callB rfl (Txt.min_ ‹_›) boot_min ?_)
  | ((with_reducible show AE _ (Expr.Call (Expr.Name "repr" _) _ [] _) _ _ _); refine ae_callB rfl (Txt.repr_ ‹_›) PyProof.Rows.boot_repr ?_)
  | ((with_reducible show AE _ (Expr.Call (Expr.Name "sum" _) _ [] _) _ _ _); refine ae_callB rfl (Txt.sum_ ‹_›) boot_sum ?_)
  | ((with_reducible show AE _ (Expr.Call (Expr.Name "is_whole" _) _ [] _) _ _ _); refine ae_callA ‹D_is_whole _› (RoomG.mono ‹_› (by first | decide | omega)) ?_)
  | ((with_reducible show AE _ (Expr.Call (Expr.Name "is_within" _) _ [] _) _ _ _); refine ae_callA ‹D_is_within _› (RoomG.mono ‹_› (by first | decide | omega)) ?_)
  | ((with_reducible show AE _ (Expr.Call (Expr.Name "is_sign" _) _ [] _) _ _ _); refine ae_callA ‹D_is_sign _› (RoomG.mono ‹_› (by first | decide | omega)) ?_)
  | ((with_reducible show AE _ (Expr.Call (Expr.Name "is_step" _) _ [] _) _ _ _); refine ae_callA ‹D_is_step _› (RoomG.mono ‹_› (by first | decide | omega)) ?_)
  | ((with_reducible show AE _ (Expr.Call (Expr.Name "look_at_rooms" _) _ [] _) _ _ _); refine ae_callA ‹D_look_at_rooms _› (RoomG.mono ‹_› (by first | decide | omega)) ?_)
  | ((with_reducible show AE _ (Expr.Call (Expr.Name "look_at_steps" _) _ [] _) _ _ _); refine ae_callA ‹D_look_at_steps _› (RoomG.mono ‹_› (by first | decide | omega)) ?_)
  | ((with_reducible show CallA _ (Value.builtin "isinstance") [PV.d _, PV.v (V.ty "int")] _ _); refine c_isInt ?_)
  | ((with_reducible show CallA _ (Value.builtin "isinstance") [PV.d _, PV.v (V.ty "str")] _ _); refine c_isStr ?_)
  | ((with_reducible show CallA _ (Value.builtin "isinstance") [PV.d _, PV.v (V.ty "bool")] _ _); refine c_isBool ?_)
  | ((with_reducible show CallA _ (Value.builtin "isinstance") [PV.d _, PV.v (V.ty "list")] _ _); refine c_isList ?_)
  | ((with_reducible show CallA _ (Value.builtin "isinstance") [PV.d _, PV.v (V.ty "tuple")] _ _); refine c_isTup ?_)
  | ((with_reducible show CallA _ (Value.builtin "len") [PV.d (PyData.list _)] _ _); refine c_lenL ?_)
  | ((with_reducible show CallA _ (Value.builtin "len") [PV.d (PyData.tuple _)] _ _); refine c_lenT ?_)
  | ((with_reducible show CallA _ (Value.builtin "sum") [PV.d (PyData.list (List.map PyData.int _))] _ _); refine c_sum rfl ?_)
  | ((with_reducible show CallA _ (Value.type "int") [PV.d (PyData.bool _)] _ _); refine c_intB ?_)
  | ((with_reducible show AE _ (Expr.Call (Expr.Attribute _ "append" _) _ _ _) _ _ _); refine ae_bm PySem.F.plainAttrs_list PySem.F.slot_list_append PySem.F.type_list_append ?_)
  | ((with_reducible show BinA _ (inplaceOp Operator.Add) (PV.d (PyData.int _)) (PV.d (PyData.int _)) _ _); refine ib_add ?_)
  | ((with_reducible show UnA _ (unaryOp UnaryOp.USub) (PV.d (PyData.int _)) _ _); refine u_neg ?_)
  | ((with_reducible show IxA _ (PV.d (mD _)) (PV.d (PyData.int 0)) _ _); refine ixm0 ?_)
  | ((with_reducible show IxA _ (PV.d (mD _)) (PV.d (PyData.int 1)) _ _); refine ixm1 ?_)
  | ((with_reducible show IxA _ (PV.d (mD _)) (PV.d (PyData.int 2)) _ _); refine ixm2 ?_)
  | ((with_reducible show IxA _ (PV.d (mD _)) (PV.d (PyData.int 3)) _ _); refine ixm3 ?_)
  | ((with_reducible show IxA _ (PV.d (stD _)) (PV.d (PyData.int 0)) _ _); refine ixs0 ?_)
  | ((with_reducible show IxA _ (PV.d (stD _)) (PV.d (PyData.int 1)) _ _); refine ixs1 ?_)
  | ((with_reducible show IxA _ (PV.d (stD _)) (PV.d (PyData.int 2)) _ _); refine ixs2 ?_))
local macro_rules | `(tactic| walk_at "go1") => `(tactic| first
  | walk_at "ge"
  | ((with_reducible show ASs _ (_ :: _) _ _ _); refine as_cons ?_)
  | ((with_reducible show ASs _ [] _ _ _); refine as_nil ?_)
  | ((with_reducible show AS _ (Stmt.Return (some _) _) _ _ _); refine as_ret ?_)
  | ((with_reducible show AS _ (Stmt.If _ _ _ _) _ _ _); refine as_if ?_)
  | ((with_reducible show AS _ (Stmt.Expr _ _) _ _ _); refine as_expr ?_))
section
variable {P : Program} {w : World} {K : PySem.W.Frag} {mg : Str → Option Value} {base : Heap}
theorem ok_is_sign {f : Addr} {fd : FuncData} (F : Fun K "is_sign" "is_sign" s_is_sign f fd) (T : Txt mg) : Fn ⟨P, w, K, mg, base⟩ 1 f fd P_is_sign (up rSign) := by
  refine okA F sc_is_sign (fun args O Φ Ξ h => ?_) (fun cdv A outer s H E as0 F0 args O Φ Ξ hr h => ?_)
  · obtain ⟨c, rfl, _⟩ := h
    rfl
  · obtain ⟨c, rfl, q⟩ := h
    obtain ⟨t, ht⟩ := T.LETTERS
    refine as_cons ?_
    repeat walk_at "go1"
    refine c_len1 ?_
    repeat walk_at "go1"
    refine ifd (fun _ => ?_) (fun h => absurd rfl h)
    repeat walk_at "go1"
    refine b_inSign ?_
    rw [in_letters]
    exact .keep q
theorem ok_is_whole {f : Addr} {fd : FuncData} (F : Fun K "is_whole" "is_whole" s_is_whole f fd) (T : Txt mg) : Fn ⟨P, w, K, mg, base⟩ 1 f fd P_is_whole (up rWhole) := by
  refine okA F sc_is_whole (fun args O Φ Ξ h => ?_) (fun cdv A outer s H E as0 F0 args O Φ Ξ hr h => ?_)
  · obtain ⟨i, rfl, _⟩ := h
    rfl
  · obtain ⟨i, rfl, q⟩ := h
    refine as_cons ?_
    repeat walk_at "go1"
    exact .keep q
theorem ok_is_within {f : Addr} {fd : FuncData} (F : Fun K "is_within" "is_within" s_is_within f fd) (T : Txt mg) (E1 : D_is_whole ⟨P, w, K, mg, base⟩) : Fn ⟨P, w, K, mg, base⟩ 2 f fd P_is_within (up rWithin) := by
  refine okA F sc_is_within (fun args O Φ Ξ h => ?_) (fun cdv A outer s H E as0 F0 args O Φ Ξ hr h => ?_)
  · obtain ⟨i, a, b, rfl, _⟩ := h
    rfl
  · obtain ⟨i, a, b, rfl, q⟩ := h
    refine as_cons ?_
    repeat walk_at "go1"
    refine ⟨_, rfl, ?_⟩
    try dsimp only [isWh]
    repeat walk_at "go1"
    refine ifd (fun h1 => ?_) (fun h1 => ?_)
    · repeat walk_at "go1"
      rw [decide_eq_true h1] at q
      exact .keep q
    · rw [decide_eq_false h1] at q
      exact .keep q
theorem ok_look_at_rooms {f : Addr} {fd : FuncData} (F : Fun K "look_at_rooms" "look_at_rooms" s_look_at_rooms f fd) (T : Txt mg) (E1 : D_is_within ⟨P, w, K, mg, base⟩) : Fn ⟨P, w, K, mg, base⟩ 3 f fd P_look_at_rooms (up rLookRooms) := by
  refine okA F sc_look_at_rooms (fun args O Φ Ξ h => ?_) (fun cdv A outer s H E as0 F0 args O Φ Ξ hr h => ?_)
  · obtain ⟨n, p, rs, rfl, _⟩ := h
    rfl
  · obtain ⟨n, p, rs, rfl, hrs, q⟩ := h
    refine as_cons ?_
    repeat walk_at "go1"
    refine as_set 3 sc_look_at_rooms.nd ?_
    repeat walk_at "go1"
    refine as_for PassesOwn.never rfl (ai_enum rfl T.enumerate_ ?_)
    walk_at "go1"
    refine ⟨rs.map iD, rfl, fun i ρ' O' => O' = O ∧ ∃ (x : Int) (y z : Option PV), ρ' = [some (.d (iD n)), some p, some (.d (rmsD rs)), some (pI x), y, z] ∧ ∀ r, rs[i]? = some r → x + 1 ≤ r, ⟨rfl, -1, _, _, rfl, fun r _ => by omega⟩, fun _ _ _ _ => trivial, ?_, ?_⟩
    · rintro i x ρ' O' hx ⟨rfl, l, y, z, rfl, hl⟩
      obtain ⟨d, hd, rfl⟩ := enD_at hx
      rw [List.getElem?_map, Option.map_eq_some_iff] at hd
      obtain ⟨r, hr2, rfl⟩ := hd
      refine ag_tup rfl (ags_cons (ag_name 4 sc_look_at_rooms.nd (ags_cons (ag_name 5 sc_look_at_rooms.nd (ags_nil ?_)))))
      refine as_cons ?_
      repeat walk_at "go1"
      refine ⟨_, _, _, rfl, ?_⟩
      have h1 := hl r hr2
      have h2 := hrs.lt r (List.mem_of_getElem? hr2)
      rw [andT h1 (show (r : Int) ≤ n - 1 by omega)]
      repeat walk_at "go1"
      refine as_set 3 sc_look_at_rooms.nd ?_
      repeat walk_at "go1"
      refine .keep ⟨rfl, r, _, _, rfl, fun r' hr' => ?_⟩
      have h3 := List.pairwise_iff_getElem.mp hrs.up i (i + 1) (List.getElem?_eq_some_iff.mp hr2).1 (List.getElem?_eq_some_iff.mp hr').1 (Nat.lt_succ_self _)
      rw [(List.getElem?_eq_some_iff.mp hr2).2, (List.getElem?_eq_some_iff.mp hr').2] at h3
      omega
    · rintro ρ' O' ⟨rfl, x, y, z, rfl, _⟩
      exact as_nil (.keep q)
theorem ok_is_step {f : Addr} {fd : FuncData} (F : Fun K "is_step" "is_step" s_is_step f fd) (T : Txt mg) (E1 : D_is_sign ⟨P, w, K, mg, base⟩) (E2 : D_is_within ⟨P, w, K, mg, base⟩) : Fn ⟨P, w, K, mg, base⟩ 3 f fd P_is_step (up rIsStep) := by
  refine okA F sc_is_step (fun args O Φ Ξ h => ?_) (fun cdv A outer s H E as0 F0 args O Φ Ξ hr h => ?_)
  · obtain ⟨n, t, rfl, _⟩ := h
    rfl
  · obtain ⟨n, t, rfl, ht, q⟩ := h
    refine as_cons ?_
    repeat walk_at "go1"
    refine ifnd (fun h => absurd rfl h) (fun _ => ?_)
    repeat walk_at "go1"
    refine ⟨_, rfl, ?_⟩
    rw [ht.c]
    repeat walk_at "go1"
    refine ⟨_, _, _, rfl, ?_⟩
    have h1 := ht.a
    have h2 := ht.b
    rw [andT (show (0 : Int) ≤ t.1 by omega) (show (t.1 : Int) ≤ n - 1 by omega)]
    repeat walk_at "go1"
    refine ⟨_, _, _, rfl, ?_⟩
    rw [andT (show (0 : Int) ≤ t.2.2 by omega) (show (t.2.2 : Int) ≤ n - 1 by omega)]
    exact .keep q
theorem ok_look_at_steps {f : Addr} {fd : FuncData} (F : Fun K "look_at_steps" "look_at_steps" s_look_at_steps f fd) (T : Txt mg) (E1 : D_is_step ⟨P, w, K, mg, base⟩) : Fn ⟨P, w, K, mg, base⟩ 4 f fd P_look_at_steps (up rLookSteps) := by
  refine okA F sc_look_at_steps (fun args O Φ Ξ h => ?_) (fun cdv A outer s H E as0 F0 args O Φ Ξ hr h => ?_)
  · obtain ⟨n, st, rfl, _⟩ := h
    rfl
  · obtain ⟨n, st, rfl, hst, nd, hl, cl, q⟩ := h
    refine as_cons ?_
    repeat walk_at "go1"
    refine ifd (fun h => ?_) (fun _ => ?_)
    · rw [List.length_map] at h
      omega
    repeat walk_at "go1"
    refine as_set 2 sc_look_at_steps.nd (ae_dict0T ?_)
    repeat walk_at "go1"
    refine as_for PassesOwn.never rfl (ai_enum rfl T.enumerate_ ?_)
    walk_at "go1"
    refine ⟨st.map stD, rfl, fun i ρ' O' => O' = O ++ [.dT ((st.take i).map fun t => (kS t, pB true))] ∧ ∃ (y z : Option PV), ρ' = [some (.d (iD n)), some (.d (stsD st)), some (.o O.length), y, z], ⟨rfl, _, _, rfl⟩, fun _ _ _ _ => trivial, ?_, ?_⟩
    · rintro i x ρ' O' hx ⟨rfl, y, z, rfl⟩
      obtain ⟨d, hd, rfl⟩ := enD_at hx
      rw [List.getElem?_map, Option.map_eq_some_iff] at hd
      obtain ⟨t, ht, rfl⟩ := hd
      refine ag_tup rfl (ags_cons (ag_name 3 sc_look_at_steps.nd (ags_cons (ag_name 4 sc_look_at_steps.nd (ags_nil ?_)))))
      have hO : (O ++ [AO.dT ((st.take i).map fun t => (kS t, pB true))])[O.length]? = some (AO.dT ((st.take i).map fun t => (kS t, pB true))) := by simp
      obtain ⟨hg, hs⟩ := kS_new (x := pB true) (nodup_take nd ht)
      refine as_cons ?_
      repeat walk_at "go1"
      refine ⟨_, _, rfl, hst t (List.mem_of_getElem? ht), ?_⟩
      repeat walk_at "go1"
      refine b_inDT (ks := kS t) (hu_of hr.r) hO ?_
      rw [hg]
      refine isB_mk (iteF ?_)
      repeat walk_at "go1"
      refine as_dputT (hu_of hr.r) ?_
      repeat walk_at "go1"
      refine ⟨_, _, kS t, rfl, rfl, hO, by rw [List.length_map, List.length_take]; omega, as_nil (.keep ⟨?_, _, _, rfl⟩)⟩
      rw [hs, take_succ_of ht]
      simp
    · rintro ρ' O' ⟨rfl, y, z, rfl⟩
      exact as_nil (gh_drop cl rfl q)
theorem ok_look_at {f : Addr} {fd : FuncData} (F : Fun K "look_at" "look_at" s_look_at f fd) (T : Txt mg) (E1 : D_is_within ⟨P, w, K, mg, base⟩) (E2 : D_look_at_rooms ⟨P, w, K, mg, base⟩) (E3 : D_look_at_steps ⟨P, w, K, mg, base⟩) : Fn ⟨P, w, K, mg, base⟩ 5 f fd P_look_at (up rLook) := by
  refine okA F sc_look_at (fun args O Φ Ξ h => ?_) (fun cdv A outer s H E as0 F0 args O Φ Ξ hr h => ?_)
  · obtain ⟨m, rfl, _⟩ := h
    rfl
  · obtain ⟨m, rfl, hm, cl, q⟩ := h
    refine as_cons ?_
    repeat walk_at "go1"
    refine ifnd (fun h => absurd rfl h) (fun _ => ?_)
    repeat walk_at "go1"
    refine as_asg ?_
    repeat walk_at "go1"
    refine ag_tup rfl (ags_cons (ag_name 1 sc_look_at.nd (ags_cons (ag_name 2 sc_look_at.nd (ags_cons (ag_name 3 sc_look_at.nd (ags_cons (ag_name 4 sc_look_at.nd (ags_nil ?_)))))))))
    have h0 := hm.n0
    have h1 := hm.n1
    repeat walk_at "go1"
    refine ⟨_, _, _, rfl, ?_⟩
    rw [andT (show (1 : Int) ≤ m.n by omega) (show (m.n : Int) ≤ 12 by omega)]
    repeat walk_at "go1"
    refine ⟨_, _, _, rfl, hm.fs, ?_⟩
    repeat walk_at "go1"
    refine ⟨_, _, _, rfl, hm.ls, ?_⟩
    repeat walk_at "go1"
    refine ⟨_, _, rfl, hm.st, hm.nd, hm.len, cl, ?_⟩
    exact as_nil (.keep q)
theorem ok_look_at_room {f : Addr} {fd : FuncData} (F : Fun K "look_at_room" "look_at_room" s_look_at_room f fd) (T : Txt mg) (E1 : D_is_within ⟨P, w, K, mg, base⟩) : Fn ⟨P, w, K, mg, base⟩ 3 f fd P_look_at_room (up rLookRoom) := by
  refine okA F sc_look_at_room (fun args O Φ Ξ h => ?_) (fun cdv A outer s H E as0 F0 args O Φ Ξ hr h => ?_)
  · obtain ⟨m, r, rfl, _⟩ := h
    rfl
  · obtain ⟨m, r, rfl, hm, q⟩ := h
    refine as_cons ?_
    repeat walk_at "go1"
    refine ⟨_, _, _, rfl, ?_⟩
    rw [andT (show (0 : Int) ≤ r by omega) (show (r : Int) ≤ m.n - 1 by omega)]
    repeat walk_at "go1"
    exact .keep q
theorem ok_look_at_word {f : Addr} {fd : FuncData} (F : Fun K "look_at_word" "look_at_word" s_look_at_word f fd) (T : Txt mg) (E1 : D_is_sign ⟨P, w, K, mg, base⟩) : Fn ⟨P, w, K, mg, base⟩ 2 f fd P_look_at_word (up rLookWord) := by
  refine okA F sc_look_at_word (fun args O Φ Ξ h => ?_) (fun cdv A outer s H E as0 F0 args O Φ Ξ hr h => ?_)
  · obtain ⟨m, rfl, _⟩ := h
    rfl
  · obtain ⟨z, rfl, hz, q⟩ := h
    refine as_cons ?_
    repeat walk_at "go1"
    refine as_for PassesOwn.never rfl (ai_enumS rfl T.enumerate_ ?_)
    walk_at "go1"
    refine ⟨z, rfl, fun i ρ' O' => O' = O ∧ ∃ (x y : Option PV), ρ' = [some (pS z), x, y], ⟨rfl, _, _, rfl⟩, fun _ _ _ _ => trivial, ?_, ?_⟩
    · rintro i x ρ' O' hx ⟨rfl, y1, y2, rfl⟩
      obtain ⟨d, hd, rfl⟩ := enD_at hx
      rw [List.getElem?_map, Option.map_eq_some_iff] at hd
      obtain ⟨c, hc, rfl⟩ := hd
      have hi : i < 400 := by
        have h1 := (List.getElem?_eq_some_iff.mp hc).1
        have h2 := hz.len
        rw [cds_len] at h1
        omega
      refine ag_tup rfl (ags_cons (ag_name 1 sc_look_at_word.nd (ags_cons (ag_name 2 sc_look_at_word.nd (ags_nil ?_)))))
      refine as_cons ?_
      repeat walk_at "go1"
      refine ifd (fun h => by omega) (fun _ => ?_)
      repeat walk_at "go1"
      refine ⟨c, rfl, ?_⟩
      rw [hz.all c (List.mem_of_getElem? hc)]
      repeat walk_at "go1"
      exact .keep ⟨rfl, _, _, rfl⟩
    · rintro ρ' O' ⟨rfl, y1, y2, rfl⟩
      exact as_nil (.keep q)
end
end K13
set_option pp.maxSteps 1200
namespace K13
open PySem PySem.Spec L2 Al
open PyProof.Rows hiding St
local macro_rules | `(tactic| walk_at "v") => `(tactic| first | refine ae_var 0 rfl ?_ | refine ae_var 1 rfl ?_ | refine ae_var 2 rfl ?_ | refine ae_var 3 rfl ?_ | refine ae_var 4 rfl ?_ | refine ae_var 5 rfl ?_ | refine ae_var 6 rfl ?_ | refine ae_var 7 rfl ?_ | refine ae_var 8 rfl ?_ | refine ae_var 9 rfl ?_ | refine ae_var 10 rfl ?_ | refine ae_var 11 rfl ?_ | refine ae_var 12 rfl ?_ | refine ae_var 13 rfl ?_ | refine ae_var 14 rfl ?_ | refine ae_var 15 rfl ?_ | refine ae_var 16 rfl ?_ | refine ae_var 17 rfl ?_ | refine ae_var 18 rfl ?_ | refine ae_var 19 rfl ?_ | refine ae_ty (Txt.int_ ‹_›) boot_int ?_ | refine ae_ty (Txt.str_ ‹_›) boot_str ?_ | refine ae_ty (Txt.bool_ ‹_›) boot_bool ?_ | refine ae_ty (Txt.list_ ‹_›) boot_list ?_ | refine ae_ty (Txt.tuple_ ‹_›) boot_tuple ?_ | refine ae_globS (Txt.LETTERS ‹_›).choose_spec ?_ | refine ae_globI (Txt.MOST_ROOMS ‹_›).choose_spec ?_ | refine ae_globI (Txt.MOST_STEPS ‹_›).choose_spec ?_ | refine ae_globI (Txt.MOST_WORD ‹_›).choose_spec ?_)
local macro_rules | `(tactic| walk_at "ge") => `(tactic| first
  | ((with_reducible show ite (true = true) _ _); refine iteT ?_)
  | ((with_reducible show ite (false = true) _ _); refine iteF ?_)
  | ((with_reducible show ite ((!true) = true) _ _); refine iteF ?_)
  | ((with_reducible show ite ((!false) = true) _ _); refine iteT ?_)
  | ((with_reducible show IsB _ _ _); refine isB_mk ?_)
  | ((with_reducible show AE _ (Expr.Name _ _) _ _ _); walk_at "v")
  | ((with_reducible show AE _ (Expr.Constant (Const.int _) _ _) _ _ _); refine ae_int ?_)
  | ((with_reducible show AE _ (Expr.Constant (Const.str _) _ _) _ _ _); refine ae_str ?_)
  | ((with_reducible show AE _ (Expr.Constant (Const.bool _) _ _) _ _ _); refine ae_bl ?_)
  | ((with_reducible show AE _ (Expr.Constant Const.none _ _) _ _ _); refine ae_non ?_)
  | ((with_reducible show AO1 _ (some _) _ _ _); refine ao_some ?_)
  | ((with_reducible show AO1 _ none _ _ _); refine ao_none ?_)
  | ((with_reducible show AE _ (Expr.BinOp _ _ _ _) _ _ _); refine ae_bin ?_)
  | ((with_reducible show AE _ (Expr.Compare _ [_] [_] _) _ _ _); refine ae_cmp ?_)
  | ((with_reducible show AE _ (Expr.Compare _ [_, _] [_, _] _) _ _ _); refine ae_chain ?_)
  | ((with_reducible show AE _ (Expr.Subscript _ (Expr.Slice none none (some _) _) _) _ _ _); refine ae_revS ?_)
  | ((with_reducible show AE _ (Expr.Subscript _ (Expr.Slice _ _ _ _) _) _ _ _); fail)
  | ((with_reducible show AE _ (Expr.Subscript _ _ _) _ _ _); refine ae_ix ?_)
  | ((with_reducible show AE _ (Expr.BoolOp _ [_] _) _ _ _); refine ae_one ?_)
  | ((with_reducible show AE _ (Expr.BoolOp BoolOp.And _ _) _ _ _); refine ae_and ?_)
  | ((with_reducible show AE _ (Expr.BoolOp BoolOp.Or _ _) _ _ _); refine ae_or ?_)
  | ((with_reducible show AE _ (Expr.UnaryOp UnaryOp.Not _ _) _ _ _); refine ae_not ?_)
  | ((with_reducible show AE _ (Expr.UnaryOp _ _ _) _ _ _); refine ae_un ?_)
  | ((with_reducible show AE _ (Expr.IfExp _ _ _ _) _ _ _); refine ae_if ?_)
  | ((with_reducible show AT _ (Expr.Compare _ [_] [_] _) _ _ _); refine at_cmp ?_)
  | ((with_reducible show AT _ (Expr.Compare _ [_, _] [_, _] _) _ _ _); refine at_chain ?_)
  | ((with_reducible show AT _ (Expr.UnaryOp UnaryOp.Not _ _) _ _ _); refine at_not ?_)
  | ((with_reducible show AT _ (Expr.BoolOp _ _ _) _ _ _); refine at_w ?_)
  | ((with_reducible show AT _ (Expr.Call _ _ _ _) _ _ _); refine at_val ?_)
  | ((with_reducible show AT _ (Expr.Name _ _) _ _ _); refine at_val ?_)
  | ((with_reducible show AW _ (Expr.BoolOp BoolOp.And [_] _) _ _ _); refine aw_and1 ?_)
  | ((with_reducible show AW _ (Expr.BoolOp BoolOp.Or [_] _) _ _ _); refine aw_or1 ?_)
  | ((with_reducible show AW _ (Expr.BoolOp BoolOp.And _ _) _ _ _); refine aw_and ?_)
  | ((with_reducible show AW _ (Expr.BoolOp BoolOp.Or _ _) _ _ _); refine aw_or ?_)
  | ((with_reducible show AA _ [] _ _ _); refine aa_nil ?_)
  | ((with_reducible show AA _ (_ :: _) _ _ _); refine aa_cons ?_)
  | ((with_reducible show BinA _ (binaryOp Operator.Add) (PV.d (PyData.int _)) (PV.d (PyData.int _)) _ _); refine b_add ?_)
  | ((with_reducible show BinA _ (binaryOp Operator.Sub) (PV.d (PyData.int _)) (PV.d (PyData.int _)) _ _); refine b_sub ?_)
  | ((with_reducible show BinA _ (compareOp CmpOp.Lt) (PV.d (PyData.int _)) (PV.d (PyData.int _)) _ _); refine b_lt ?_)
  | ((with_reducible show BinA _ (compareOp CmpOp.LtE) (PV.d (PyData.int _)) (PV.d (PyData.int _)) _ _); refine b_le ?_)
  | ((with_reducible show BinA _ (compareOp CmpOp.Gt) (PV.d (PyData.int _)) (PV.d (PyData.int _)) _ _); refine b_gt ?_)
  | ((with_reducible show BinA _ (compareOp CmpOp.GtE) (PV.d (PyData.int _)) (PV.d (PyData.int _)) _ _); refine b_ge ?_)
  | ((with_reducible show BinA _ (compareOp CmpOp.Eq) (PV.d (PyData.int _)) (PV.d (PyData.int _)) _ _); refine b_eqI ?_)
  | ((with_reducible show BinA _ (compareOp CmpOp.NotEq) (PV.d (PyData.int _)) (PV.d (PyData.int _)) _ _); refine b_neI ?_)
  | ((with_reducible show BinA _ (compareOp CmpOp.Eq) (PV.d (PyData.str _)) (PV.d (PyData.str _)) _ _); refine b_eqS ?_)
  | ((with_reducible show BinA _ (compareOp CmpOp.NotEq) (PV.d (PyData.str _)) (PV.d (PyData.str _)) _ _); refine b_neS ?_)
  | ((with_reducible show BinA _ (compareOp CmpOp.LtE) (PV.d (PyData.str _)) (PV.d (PyData.str _)) _ _); refine b_leS ?_)
  | ((with_reducible show BinA _ (compareOp CmpOp.Lt) (PV.d (PyData.str _)) (PV.d (PyData.str _)) _ _); refine b_ltS ?_)
  | ((with_reducible show BinA _ (compareOp CmpOp.Eq) (PV.d (PyData.bool _)) (PV.d (PyData.bool _)) _ _); refine b_eqB ?_)
  | ((with_reducible show AE _ (Expr.Call (Expr.Name "int" _) _ [] _) _ _ _); refine ae_callTy rfl (Txt.int_ ‹_›) boot_int ?_)
  | ((with_reducible show AE _ (Expr.Call (Expr.Name "isinstance" _) _ [] _) _ _ _); refine ae_callB rfl (Txt.isi_ ‹_›) boot_isinstance ?_)
  | ((with_reducible show AE _ (Expr.Call (Expr.Name "len" _) _ [] _) _ _ _); refine ae_callB rfl (Txt.len_ ‹_›) PySem.boot_len ?_)
  | ((with_reducible show AE _ (Expr.Call (Expr.Name "list" _) _ [] _) _ _ _); refine ae_callTy rfl (Txt.list_ ‹_›) boot_list ?_)
  | ((with_reducible show AE _ (Expr.Call (Expr.Name "max" _) _ [] _) _ _ _); refine ae_callB rfl (Txt.max_ ‹_›) boot_max ?_)
  | ((with_reducible show AE _ (Expr.Call (Expr.Name "min" _) _ [] _) _ _ _); refine ae_callB rfl (Txt.min_ ‹_›) boot_min ?_)
  | ((with_reducible show AE _ (Expr.Call (Expr.Name "repr" _) _ [] _) _ _ _); refine ae_callB rfl (Txt.repr_ ‹_›) PyProof.Rows.boot_repr ?_)
  | ((with_reducible show AE _ (Expr.Call (Expr.Name "sum" _) _ [] _) _ _ _); refine ae_callB rfl (Txt.sum_ ‹_›) boot_sum ?_)
  | ((with_reducible show AE _ (Expr.Call (Expr.Name "moved" _) _ [] _) _ _ _); refine ae_callF ‹D_moved _› (RoomG.mono ‹_› (by first | decide | omega)) ?_)
  | ((with_reducible show AE _ (Expr.Call (Expr.Name "look_at" _) _ [] _) _ _ _); refine ae_callA ‹D_look_at _› (RoomG.mono ‹_› (by first | decide | omega)) ?_)
  | ((with_reducible show AE _ (Expr.Call (Expr.Name "look_at_word" _) _ [] _) _ _ _); refine ae_callA ‹D_look_at_word _› (RoomG.mono ‹_› (by first | decide | omega)) ?_)
  | ((with_reducible show AE _ (Expr.Call (Expr.Name "look_at_room" _) _ [] _) _ _ _); refine ae_callA ‹D_look_at_room _› (RoomG.mono ‹_› (by first | decide | omega)) ?_)
  | ((with_reducible show AE _ (Expr.Call (Expr.Name "sum_at" _) _ [] _) _ _ _); refine ae_callA ‹D_sum_at _› (RoomG.mono ‹_› (by first | decide | omega)) ?_)
  | ((with_reducible show AE _ (Expr.Call (Expr.Name "moved_by" _) _ [] _) _ _ _); refine ae_callF ‹D_moved_by _› (RoomG.mono ‹_› (by first | decide | omega)) ?_)
  | ((with_reducible show AE _ (Expr.Call (Expr.Name "alone_at" _) _ [] _) _ _ _); refine ae_callF ‹D_alone_at _› (RoomG.mono ‹_› (by first | decide | omega)) ?_)
  | ((with_reducible show CallA _ (Value.builtin "isinstance") [PV.d _, PV.v (V.ty "int")] _ _); refine c_isInt ?_)
  | ((with_reducible show CallA _ (Value.builtin "isinstance") [PV.d _, PV.v (V.ty "str")] _ _); refine c_isStr ?_)
  | ((with_reducible show CallA _ (Value.builtin "isinstance") [PV.d _, PV.v (V.ty "bool")] _ _); refine c_isBool ?_)
  | ((with_reducible show CallA _ (Value.builtin "isinstance") [PV.d _, PV.v (V.ty "list")] _ _); refine c_isList ?_)
  | ((with_reducible show CallA _ (Value.builtin "isinstance") [PV.d _, PV.v (V.ty "tuple")] _ _); refine c_isTup ?_)
  | ((with_reducible show CallA _ (Value.builtin "len") [PV.d (PyData.list _)] _ _); refine c_lenL ?_)
  | ((with_reducible show CallA _ (Value.builtin "len") [PV.d (PyData.tuple _)] _ _); refine c_lenT ?_)
  | ((with_reducible show CallA _ (Value.builtin "sum") [PV.d (PyData.list (List.map PyData.int _))] _ _); refine c_sum rfl ?_)
  | ((with_reducible show CallA _ (Value.type "int") [PV.d (PyData.bool _)] _ _); refine c_intB ?_)
  | ((with_reducible show AE _ (Expr.Call (Expr.Attribute _ "append" _) _ _ _) _ _ _); refine ae_bm PySem.F.plainAttrs_list PySem.F.slot_list_append PySem.F.type_list_append ?_)
  | ((with_reducible show BinA _ (inplaceOp Operator.Add) (PV.d (PyData.int _)) (PV.d (PyData.int _)) _ _); refine ib_add ?_)
  | ((with_reducible show UnA _ (unaryOp UnaryOp.USub) (PV.d (PyData.int _)) _ _); refine u_neg ?_)
  | ((with_reducible show IxA _ (PV.d (mD _)) (PV.d (PyData.int 0)) _ _); refine ixm0 ?_)
  | ((with_reducible show IxA _ (PV.d (mD _)) (PV.d (PyData.int 1)) _ _); refine ixm1 ?_)
  | ((with_reducible show IxA _ (PV.d (mD _)) (PV.d (PyData.int 2)) _ _); refine ixm2 ?_)
  | ((with_reducible show IxA _ (PV.d (mD _)) (PV.d (PyData.int 3)) _ _); refine ixm3 ?_)
  | ((with_reducible show IxA _ (PV.d (stD _)) (PV.d (PyData.int 0)) _ _); refine ixs0 ?_)
  | ((with_reducible show IxA _ (PV.d (stD _)) (PV.d (PyData.int 1)) _ _); refine ixs1 ?_)
  | ((with_reducible show IxA _ (PV.d (stD _)) (PV.d (PyData.int 2)) _ _); refine ixs2 ?_))
local macro_rules | `(tactic| walk_at "go1") => `(tactic| first
  | walk_at "ge"
  | ((with_reducible show ASs _ (_ :: _) _ _ _); refine as_cons ?_)
  | ((with_reducible show ASs _ [] _ _ _); refine as_nil ?_)
  | ((with_reducible show AS _ (Stmt.Return (some _) _) _ _ _); refine as_ret ?_)
  | ((with_reducible show AS _ (Stmt.If _ _ _ _) _ _ _); refine as_if ?_)
  | ((with_reducible show AS _ (Stmt.Expr _ _) _ _ _); refine as_expr ?_))
section
variable {P : Program} {w : World} {K : PySem.W.Frag} {mg : Str → Option Value} {base : Heap}
theorem ok_alone_at {f : Addr} {fd : FuncData} (F : Fun K "alone_at" "alone_at" s_alone_at f fd) (T : Txt mg) : Fn ⟨P, w, K, mg, base⟩ 1 f fd P_alone_at (up rAlone) := by
  refine okA F sc_alone_at (fun args O Φ Ξ h => ?_) (fun cdv A outer s H E as0 F0 args O Φ Ξ hr h => ?_)
  · first | (obtain ⟨rfl, _⟩ := h; rfl) | (obtain ⟨_, rfl, _⟩ := h; rfl) | (obtain ⟨_, _, rfl, _⟩ := h; rfl) | (obtain ⟨_, _, _, rfl, _⟩ := h; rfl) | (obtain ⟨_, _, _, _, rfl, _⟩ := h; rfl) | (obtain ⟨_, _, _, _, _, rfl, _⟩ := h; rfl) | (obtain ⟨_, _, _, _, _, _, rfl, _⟩ := h; rfl) | (obtain ⟨_, _, _, _, _, _, _, rfl, _⟩ := h; rfl) | (obtain ⟨_, _, _, _, _, _, _, _, rfl, _⟩ := h; rfl) | (obtain ⟨_, _, _, _, _, _, _, _, _, rfl, _⟩ := h; rfl) | (obtain ⟨_, _, _, _, _, _, _, _, _, _, rfl, _⟩ := h; rfl) | (obtain ⟨_, _, _, _, _, _, _, _, _, _, _, rfl, _⟩ := h; rfl)
  · skip
    obtain ⟨m, rs, rfl, hn, q⟩ := h
    refine as_cons (as_ret ?_)
    refine ae_lc (own := [("room", 2)]) (g := gName 2) rfl sc_alone_at.nd (blkOk_by (N := N_alone_at) (sc := defScope s_alone_at) (by decide +kernel)) (fun _ _ _ _ _ => (pg_name (i := 2) sc_alone_at.nd rfl (.inl rfl))) (wipes_name (by decide)) mono_name ?_
    refine lc_mapG (α := Nat) mono_name (ai_range1 rfl T.range_ ?_)
    repeat walk_at "go1"
    refine ⟨_, rfl, by omega, by omega, List.range m.n, fun i => .d (iD i), fun r => .int (if decide (r ∈ rs) = true then 1 else 0), by rw [Int.toNat_natCast, rng_map], by rw [List.length_range]; omega, fun _ => trivial, ?_, ?_⟩
    · intro r hm acc
      refine agr_name (fun _ _ _ _ _ => ?_)
      repeat walk_at "go1"
      refine b_inL (hu65 hr) ((shp_int _).sh (Nat.zero_le _)) ((shp_rms (k := 0) rs).sh (by decide)) ?_
      rw [any_rms]
      repeat walk_at "go1"
      exact ⟨rfl, rfl⟩
    · have e : (List.range m.n).map (fun r => PyData.int (if decide (r ∈ rs) = true then 1 else 0)) = (alone m.n rs).map PyData.int := by
        unfold alone
        rw [List.map_map]; rfl
      rw [e]
      exact .keep (.keep q)
theorem ok_moved {f : Addr} {fd : FuncData} (F : Fun K "moved" "moved" s_moved f fd) (T : Txt mg) : Fn ⟨P, w, K, mg, base⟩ 1 f fd P_moved (up rMoved) := by
  refine okA F sc_moved (fun args O Φ Ξ h => ?_) (fun cdv A outer s H E as0 F0 args O Φ Ξ hr h => ?_)
  · first | (obtain ⟨rfl, _⟩ := h; rfl) | (obtain ⟨_, rfl, _⟩ := h; rfl) | (obtain ⟨_, _, rfl, _⟩ := h; rfl) | (obtain ⟨_, _, _, rfl, _⟩ := h; rfl) | (obtain ⟨_, _, _, _, rfl, _⟩ := h; rfl) | (obtain ⟨_, _, _, _, _, rfl, _⟩ := h; rfl) | (obtain ⟨_, _, _, _, _, _, rfl, _⟩ := h; rfl) | (obtain ⟨_, _, _, _, _, _, _, rfl, _⟩ := h; rfl) | (obtain ⟨_, _, _, _, _, _, _, _, rfl, _⟩ := h; rfl) | (obtain ⟨_, _, _, _, _, _, _, _, _, rfl, _⟩ := h; rfl) | (obtain ⟨_, _, _, _, _, _, _, _, _, _, rfl, _⟩ := h; rfl) | (obtain ⟨_, _, _, _, _, _, _, _, _, _, _, rfl, _⟩ := h; rfl)
  · skip
    obtain ⟨m, p, v, c, rfl, hm, hp, hv, q⟩ := h
    have hn := hm.n1
    refine as_cons (as_set 3 sc_moved.nd (ae_bin (ae_lstD ?_)))
    repeat walk_at "go1"
    refine ⟨[.int 0], rfl, by decide, ?_⟩
    repeat walk_at "go1"
    refine b_repO (by omega) (by omega) (sz (by simp; omega)) ?_
    repeat walk_at "go1"
    refine as_for PassesOwn.never rfl (ai_list ?_)
    repeat walk_at "go1"
    refine ⟨_, rfl, fun i ρ' O' => O' = O ++ [.lst ((mvd m.n (m.st.take i) v c).map pI)] ∧ ∃ (y1 y2 y3 : Option PV), ρ' = [some (.d (mD m)), some p, some (pS ⟨#[c]⟩), some (.o O.length), y1, y2, y3], ⟨?_, _, _, _, rfl⟩, fun _ _ _ _ => trivial, ?_, ?_⟩
    · rw [List.take_zero, mvd_nil, List.map_replicate, Int.toNat_natCast]
      show _ ++ [AO.lst (List.replicate m.n [pI 0]).flatten] = _
      rw [rep_one]
    · rintro i x ρ' O' hx ⟨rfl, y1, y2, y3, rfl⟩
      rw [List.getElem?_map, Option.map_eq_some_iff] at hx
      obtain ⟨d, hd, rfl⟩ := hx
      rw [List.getElem?_map, Option.map_eq_some_iff] at hd
      obtain ⟨t, ht, rfl⟩ := hd
      have ho := hm.st t (List.mem_of_getElem? ht)
      have ha := ho.a
      have hb := ho.b
      refine ag_tup rfl (ags_cons (ag_name 4 sc_moved.nd (ags_cons (ag_name 5 sc_moved.nd (ags_cons (ag_name 6 sc_moved.nd (ags_nil ?_)))))))
      have hO : (O ++ [AO.lst ((mvd m.n (m.st.take i) v c).map pI)])[O.length]? = some (AO.lst ((mvd m.n (m.st.take i) v c).map pI)) := by simp
      refine as_cons ?_
      repeat walk_at "go1"
      refine ifd (fun e => ?_) (fun e => ?_)
      · have e2 : t.2.1 = c := by
          have := congrArg Str.cps e
          simpa using this
        have hx := getD_of (v := mvd m.n (m.st.take i) v c) (i := t.2.2) (by rw [mvd_len]; exact hb)
        repeat walk_at "go1"
        refine as_augL ?_
        repeat walk_at "go1"
        refine ⟨O.length, t.2.2, _, pI ((mvd m.n (m.st.take i) v c).getD t.2.2 0), rfl, rfl, by omega, by omega, hO, ?_, ?_⟩
        · rw [Int.toNat_natCast, List.getElem?_map, hx]; rfl
        · repeat walk_at "go1"
          refine ix_V hp.app (by omega) ?_
          repeat walk_at "go1"
          refine ⟨hO, as_nil (as_nil (.keep ⟨?_, _, _, _, rfl⟩))⟩
          rw [take_succ_of ht, mvd_yes e2 hx, Int.toNat_natCast]
          simp [List.map_set]
      · have e2 : ¬ t.2.1 = c := fun e3 => e (by rw [e3])
        refine as_nil (as_nil (.keep ⟨?_, _, _, _, rfl⟩))
        rw [take_succ_of ht, mvd_no e2]
    · rintro ρ' O' ⟨rfl, y1, y2, y3, rfl⟩
      rw [List.length_map, List.length_map, List.take_length]
      refine as_cons ?_
      repeat walk_at "go1"
      have e : (mvd m.n m.st v c).map pI = ((mvd m.n m.st v c).map PyData.int).map PV.d := by rw [List.map_map]; rfl
      rw [e]
      exact .keep q
theorem ok_moved_by {f : Addr} {fd : FuncData} (F : Fun K "moved_by" "moved_by" s_moved_by f fd) (T : Txt mg) (E1 : D_moved ⟨P, w, K, mg, base⟩) : Fn ⟨P, w, K, mg, base⟩ 2 f fd P_moved_by (up rMovedBy) := by
  refine okA F sc_moved_by (fun args O Φ Ξ h => ?_) (fun cdv A outer s H E as0 F0 args O Φ Ξ hr h => ?_)
  · first | (obtain ⟨rfl, _⟩ := h; rfl) | (obtain ⟨_, rfl, _⟩ := h; rfl) | (obtain ⟨_, _, rfl, _⟩ := h; rfl) | (obtain ⟨_, _, _, rfl, _⟩ := h; rfl) | (obtain ⟨_, _, _, _, rfl, _⟩ := h; rfl) | (obtain ⟨_, _, _, _, _, rfl, _⟩ := h; rfl) | (obtain ⟨_, _, _, _, _, _, rfl, _⟩ := h; rfl) | (obtain ⟨_, _, _, _, _, _, _, rfl, _⟩ := h; rfl) | (obtain ⟨_, _, _, _, _, _, _, _, rfl, _⟩ := h; rfl) | (obtain ⟨_, _, _, _, _, _, _, _, _, rfl, _⟩ := h; rfl) | (obtain ⟨_, _, _, _, _, _, _, _, _, _, rfl, _⟩ := h; rfl) | (obtain ⟨_, _, _, _, _, _, _, _, _, _, _, rfl, _⟩ := h; rfl)
  · skip
    obtain ⟨m, v, z, O1, rfl, rfl, hm, hv, cl, q0, q1⟩ := h
    have cl1 : ClO (O1 ++ [lv v]) := cl_lst cl
    refine as_cons (as_for PassesOwn.never rfl (ai_str ?_))
    repeat walk_at "go1"
    refine ⟨z, rfl, fun i ρ' O' => ∃ (y : Option PyData), (i = 0 ∧ O' = O1 ++ [lv v] ∧ ρ' = [some (.d (mD m)), some (.o O1.length), some (pS z), y.map PV.d]) ∨ (0 < i ∧ O' = O1 ++ [lv v] ++ [lv (mvs m v ((cds z).take i))] ∧ ρ' = [some (.d (mD m)), some (.o (O1.length + 1)), some (pS z), y.map PV.d]), ⟨none, .inl ⟨rfl, rfl, rfl⟩⟩, fun _ _ _ _ => trivial, ?_, ?_⟩
    · rintro i x ρ' O' hx ⟨y, hI⟩
      unfold chrP at hx
      rw [List.getElem?_map, Option.map_eq_some_iff] at hx
      obtain ⟨c, hc, rfl⟩ := hx
      have e2 : mvd m.n m.st (mvs m v ((cds z).take i)) c = mvs m v ((cds z).take (i + 1)) := by rw [take_succ_of (l := cds z) hc, mvs_snoc]
      have e1 : (O1 ++ [lv v] : Own).length = O1.length + 1 := by simp
      refine ag_name 3 sc_moved_by.nd ?_
      rcases hI with ⟨rfl, rfl, rfl⟩ | ⟨h0, rfl, rfl⟩
      · refine as_cons (as_set 1 sc_moved_by.nd (ae_callA E1 (hr.mono (by decide)) ?_))
        repeat walk_at "go1"
        refine ⟨m, _, v, c, rfl, hm, isV_last, hv, as_nil (.keep ⟨some (.str ⟨#[c]⟩), .inr ⟨by omega, ?_, ?_⟩⟩)⟩
        · rw [← e2]; rfl
        · rw [e1]; rfl
      · refine as_cons (as_set 1 sc_moved_by.nd (ae_callA E1 (hr.mono (by decide)) ?_))
        repeat walk_at "go1"
        refine ⟨m, _, _, c, rfl, hm, by rw [← e1]; exact isV_last, mvs_len m _ hv, as_nil ?_⟩
        rw [List.append_assoc (O1 ++ [lv v])]
        refine .slide (O := O1 ++ [lv v]) (x := lv _) (y := lv _) (Nat.le_refl _) ?_ cl1 (lst_below _) ?_
        · rw [List.length_append, e1]
          simp [PV.miss]
        · refine .keep ⟨some (.str ⟨#[c]⟩), .inr ⟨by omega, ?_, ?_⟩⟩
          · rw [e2]
          · have e4 : (O1 ++ [lv v] ++ [lv (mvs m v ((cds z).take i))] : Own).length = O1.length + 1 + 1 := by simp
            rw [e4, e1]
            simp [PV.ren]
    · rintro ρ' O' ⟨y, hI⟩
      have e : (cds z).take (chrP z).length = cds z := by unfold chrP; rw [List.length_map, List.take_length]
      have e3 : (chrP z).length = (cds z).length := by unfold chrP; rw [List.length_map]
      rcases hI with ⟨h0, rfl, rfl⟩ | ⟨h0, rfl, rfl⟩
      · refine as_cons ?_
        repeat walk_at "go1"
        exact .keep (q0 (List.length_eq_zero_iff.mp (by omega)))
      · rw [e]
        refine as_cons ?_
        repeat walk_at "go1"
        rw [List.append_assoc]
        exact .keep (q1 (fun e5 => by rw [e5, List.length_nil] at e3; omega))
theorem ok_sum_at {f : Addr} {fd : FuncData} (F : Fun K "sum_at" "sum_at" s_sum_at f fd) (T : Txt mg) : Fn ⟨P, w, K, mg, base⟩ 1 f fd P_sum_at (up rSumAt) := by
  refine okA F sc_sum_at (fun args O Φ Ξ h => ?_) (fun cdv A outer s H E as0 F0 args O Φ Ξ hr h => ?_)
  · first | (obtain ⟨rfl, _⟩ := h; rfl) | (obtain ⟨_, rfl, _⟩ := h; rfl) | (obtain ⟨_, _, rfl, _⟩ := h; rfl) | (obtain ⟨_, _, _, rfl, _⟩ := h; rfl) | (obtain ⟨_, _, _, _, rfl, _⟩ := h; rfl) | (obtain ⟨_, _, _, _, _, rfl, _⟩ := h; rfl) | (obtain ⟨_, _, _, _, _, _, rfl, _⟩ := h; rfl) | (obtain ⟨_, _, _, _, _, _, _, rfl, _⟩ := h; rfl) | (obtain ⟨_, _, _, _, _, _, _, _, rfl, _⟩ := h; rfl) | (obtain ⟨_, _, _, _, _, _, _, _, _, rfl, _⟩ := h; rfl) | (obtain ⟨_, _, _, _, _, _, _, _, _, _, rfl, _⟩ := h; rfl) | (obtain ⟨_, _, _, _, _, _, _, _, _, _, _, rfl, _⟩ := h; rfl)
  · skip
    obtain ⟨p, v, rs, rfl, hp, hrs, hl, cl, q⟩ := h
    refine as_cons (as_ret (ae_sumS rfl rfl T.sum_ ?_))
    refine ae_lc (own := [("room", 2)]) (g := gName 2) rfl sc_sum_at.nd (blkOk_by (N := N_sum_at) (sc := defScope s_sum_at) (by decide +kernel)) (fun _ _ _ _ _ => (pg_name (i := 2) sc_sum_at.nd rfl (.inl rfl))) (wipes_name (by decide)) mono_name ?_
    refine lc_map (α := Nat) mono_name (ai_list ?_)
    repeat walk_at "go1"
    refine ⟨_, rfl, Nat.le_refl _, cl, rs, fun i => .d (iD i), fun r => .int (v.getD r 0), by rw [List.map_map]; rfl, by omega, fun _ => trivial, ?_, ?_⟩
    · intro r hm acc
      refine agr_name (fun _ _ _ _ _ => ?_)
      repeat walk_at "go1"
      refine ix_V hp.app (hrs r hm) ?_
      exact ⟨rfl, rfl⟩
    · repeat walk_at "go1"
      refine ⟨rs.map fun r => v.getD r 0, 0, by rw [List.map_map]; rfl, rfl, by decide, by decide, .keep ?_⟩
      rw [Int.zero_add]
      exact q
theorem ok_ways {f : Addr} {fd : FuncData} (F : FunD K "ways" "ways" (defArgs s_ways) (defBody s_ways) (defScope s_ways) [.non, .non] [] f fd) (T : Txt mg) (E1 : D_look_at ⟨P, w, K, mg, base⟩) (E2 : D_look_at_word ⟨P, w, K, mg, base⟩) (E3 : D_look_at_room ⟨P, w, K, mg, base⟩) (E4 : D_sum_at ⟨P, w, K, mg, base⟩) (E5 : D_moved_by ⟨P, w, K, mg, base⟩) (E6 : D_alone_at ⟨P, w, K, mg, base⟩) : Fn ⟨P, w, K, mg, base⟩ 6 f fd P_ways (up rWays) := by
  refine okAD F sc_ways (fun args O Φ Ξ h => ?_) (fun cdv A outer s H E as0 F0 args O Φ Ξ hr h => ?_)
  · first | (obtain ⟨rfl, _⟩ := h; rfl) | (obtain ⟨_, rfl, _⟩ := h; rfl) | (obtain ⟨_, _, rfl, _⟩ := h; rfl) | (obtain ⟨_, _, _, rfl, _⟩ := h; rfl) | (obtain ⟨_, _, _, _, rfl, _⟩ := h; rfl) | (obtain ⟨_, _, _, _, _, rfl, _⟩ := h; rfl) | (obtain ⟨_, _, _, _, _, _, rfl, _⟩ := h; rfl) | (obtain ⟨_, _, _, _, _, _, _, rfl, _⟩ := h; rfl) | (obtain ⟨_, _, _, _, _, _, _, _, rfl, _⟩ := h; rfl) | (obtain ⟨_, _, _, _, _, _, _, _, _, rfl, _⟩ := h; rfl) | (obtain ⟨_, _, _, _, _, _, _, _, _, _, rfl, _⟩ := h; rfl) | (obtain ⟨_, _, _, _, _, _, _, _, _, _, _, rfl, _⟩ := h; rfl)
  · skip
    obtain ⟨m, z, f, l, rfl, hm, hz, hf, hl, cl, q⟩ := h
    have hn := hm.n1
    refine as_cons ?_
    repeat walk_at "go1"
    refine ⟨m, rfl, hm, cl, ?_⟩
    repeat walk_at "go1"
    refine ⟨z, rfl, hz, ?_⟩
    repeat walk_at "go1"
    refine as_set 4 sc_ways.nd ?_
    repeat walk_at "go1"
    refine as_set 5 sc_ways.nd ?_
    repeat walk_at "ge"
    refine as_cut (fun ρ' O' => O' = O ∧ ρ' = [some (.d (mD m)), some (pS z), some (.d (oD f)), some (.d (oD l)), some (.d (rmsD (f.elim m.fs fun r => [r]))), some (.d (rmsD m.ls))]) ?_ ?_
    · cases f with
      | none =>
        repeat walk_at "go1"
        refine b_notN trivial ?_
        refine isB_mk (iteF ?_)
        repeat walk_at "go1"
        exact ⟨rfl, rfl⟩
      | some r =>
        repeat walk_at "go1"
        refine b_notN trivial ?_
        refine isB_mk (iteT ?_)
        repeat walk_at "go1"
        refine ⟨m, r, rfl, hf r rfl, ?_⟩
        repeat walk_at "go1"
        refine as_set 4 sc_ways.nd (ae_lstD ?_)
        repeat walk_at "go1"
        refine ⟨[iD r], rfl, by show 1 ≤ 16000000; decide, ?_⟩
        exact as_nil ⟨rfl, rfl⟩
    · rintro ρ' O' ⟨rfl, rfl⟩
      refine as_cut (fun ρ' O2 => O2 = O' ∧ ρ' = [some (.d (mD m)), some (pS z), some (.d (oD f)), some (.d (oD l)), some (.d (rmsD (f.elim m.fs fun r => [r]))), some (.d (rmsD (l.elim m.ls fun r => [r])))]) ?_ ?_
      · cases l with
        | none =>
          repeat walk_at "go1"
          refine b_notN trivial ?_
          refine isB_mk (iteF ?_)
          repeat walk_at "go1"
          exact ⟨rfl, rfl⟩
        | some r =>
          repeat walk_at "go1"
          refine b_notN trivial ?_
          refine isB_mk (iteT ?_)
          repeat walk_at "go1"
          refine ⟨m, r, rfl, hl r rfl, ?_⟩
          repeat walk_at "go1"
          refine as_set 5 sc_ways.nd (ae_lstD ?_)
          repeat walk_at "go1"
          refine ⟨[iD r], rfl, by show 1 ≤ 16000000; decide, ?_⟩
          exact as_nil ⟨rfl, rfl⟩
      · rintro ρ' O2 ⟨rfl, rfl⟩
        refine as_cons (as_ret ?_)
        walk_at "go1"
        refine aa_cons (ae_callA E5 (hr.mono (by decide)) (aa_cons ?_))
        walk_at "go1"
        refine aa_cons (ae_callA E6 (hr.mono (by decide)) ?_)
        repeat walk_at "go1"
        refine ⟨m, _, rfl, by omega, ?_⟩
        repeat walk_at "go1"
        have hb : ∀ r ∈ l.elim m.ls (fun r => [r]), r < m.n := fun r hr => by
          cases l with
          | none => exact hm.ls.lt r hr
          | some x =>
            have e : r = x := by simpa using hr
            rw [e]; exact hl x rfl
        have hc : (l.elim m.ls fun r => [r]).length ≤ 1000 := by
          cases l with
          | none => have := hm.ls.len; show m.ls.length ≤ 1000; omega
          | some x => show 1 ≤ 1000; decide
        refine ⟨m, _, z, O2, rfl, rfl, hm, alone_len _ _, cl, fun e => ?_, fun _ => ?_⟩
        · repeat walk_at "go1"
          rw [e] at q
          exact ⟨_, _, _, rfl, isV_last, fun r hr => by rw [alone_len]; exact hb r hr, hc, cl_lst cl, gh_drop cl rfl q⟩
        · repeat walk_at "go1"
          refine ⟨_, _, _, rfl, .inr ⟨_, rfl, ?_⟩, fun r hr => by rw [mvs_len m _ (alone_len _ _)]; exact hb r hr, hc, ?_, gh_drop cl rfl q⟩
          · rw [List.getElem?_append_right (by omega)]
            simp
          · have := cl_lst (ds := (mvs m (alone m.n (f.elim m.fs fun r => [r])) (cds z)).map PyData.int) (cl_lst (ds := (alone m.n (f.elim m.fs fun r => [r])).map PyData.int) cl)
            rw [List.append_assoc] at this
            exact this
end
end K13
set_option pp.maxSteps 1200
namespace K13
open PySem PySem.Spec L2 Al
open PyProof.Rows hiding St
local macro_rules | `(tactic| walk_at "v") => `(tactic| first | refine ae_var 0 rfl ?_ | refine ae_var 1 rfl ?_ | refine ae_var 2 rfl ?_ | refine ae_var 3 rfl ?_ | refine ae_var 4 rfl ?_ | refine ae_var 5 rfl ?_ | refine ae_var 6 rfl ?_ | refine ae_var 7 rfl ?_ | refine ae_var 8 rfl ?_ | refine ae_var 9 rfl ?_ | refine ae_var 10 rfl ?_ | refine ae_var 11 rfl ?_ | refine ae_var 12 rfl ?_ | refine ae_var 13 rfl ?_ | refine ae_var 14 rfl ?_ | refine ae_var 15 rfl ?_ | refine ae_var 16 rfl ?_ | refine ae_var 17 rfl ?_ | refine ae_var 18 rfl ?_ | refine ae_var 19 rfl ?_ | refine ae_ty (Txt.int_ ‹_›) boot_int ?_ | refine ae_ty (Txt.str_ ‹_›) boot_str ?_ | refine ae_ty (Txt.bool_ ‹_›) boot_bool ?_ | refine ae_ty (Txt.list_ ‹_›) boot_list ?_ | refine ae_ty (Txt.tuple_ ‹_›) boot_tuple ?_ | refine ae_globS (Txt.LETTERS ‹_›).choose_spec ?_ | refine ae_globI (Txt.MOST_ROOMS ‹_›).choose_spec ?_ | refine ae_globI (Txt.MOST_STEPS ‹_›).choose_spec ?_ | refine ae_globI (Txt.MOST_WORD ‹_›).choose_spec ?_)
local macro_rules | `(tactic| walk_at "ge") => `(tactic| first
  | ((with_reducible show ite (true = true) _ _); refine iteT ?_)
  | ((with_reducible show ite (false = true) _ _); refine iteF ?_)
  | ((with_reducible show ite ((!true) = true) _ _); refine iteF ?_)
  | ((with_reducible show ite ((!false) = true) _ _); refine iteT ?_)
  | ((with_reducible show IsB _ _ _); refine isB_mk ?_)
  | ((with_reducible show AE _ (Expr.Name _ _) _ _ _); walk_at "v")
  | ((with_reducible show AE _ (Expr.Constant (Const.int _) _ _) _ _ _); refine ae_int ?_)
  | ((with_reducible show AE _ (Expr.Constant (Const.str _) _ _) _ _ _); refine ae_str ?_)
  | ((with_reducible show AE _ (Expr.Constant (Const.bool _) _ _) _ _ _); refine ae_bl ?_)
  | ((with_reducible show AE _ (Expr.Constant Const.none _ _) _ _ _); refine ae_non ?_)
  | ((with_reducible show AO1 _ (some _) _ _ _); refine ao_some ?_)
  | ((with_reducible show AO1 _ none _ _ _); refine ao_none ?_)
  | ((with_reducible show AE _ (Expr.BinOp _ _ _ _) _ _ _); refine ae_bin ?_)
  | ((with_reducible show AE _ (Expr.Compare _ [_] [_] _) _ _ _); refine ae_cmp ?_)
  | ((with_reducible show AE _ (Expr.Compare _ [_, _] [_, _] _) _ _ _); refine ae_chain ?_)
  | ((with_reducible show AE _ (Expr.Subscript _ (Expr.Slice none none (some _) _) _) _ _ _); refine ae_revS ?_)
  | ((with_reducible show AE _ (Expr.Subscript _ (Expr.Slice _ _ _ _) _) _ _ _); fail)
  | ((with_reducible show AE _ (Expr.Subscript _ _ _) _ _ _); refine ae_ix ?_)
  | ((with_reducible show AE _ (Expr.BoolOp _ [_] _) _ _ _); refine ae_one ?_)
  | ((with_reducible show AE _ (Expr.BoolOp BoolOp.And _ _) _ _ _); refine ae_and ?_)
  | ((with_reducible show AE _ (Expr.BoolOp BoolOp.Or _ _) _ _ _); refine ae_or ?_)
  | ((with_reducible show AE _ (Expr.UnaryOp UnaryOp.Not _ _) _ _ _); refine ae_not ?_)
  | ((with_reducible show AE _ (Expr.UnaryOp _ _ _) _ _ _); refine ae_un ?_)
  | ((with_reducible show AE _ (Expr.IfExp _ _ _ _) _ _ _); refine ae_if ?_)
  | ((with_reducible show AT _ (Expr.Compare _ [_] [_] _) _ _ _); refine at_cmp ?_)
  | ((with_reducible show AT _ (Expr.Compare _ [_, _] [_, _] _) _ _ _); refine at_chain ?_)
  | ((with_reducible show AT _ (Expr.UnaryOp UnaryOp.Not _ _) _ _ _); refine at_not ?_)
  | ((with_reducible show AT _ (Expr.BoolOp _ _ _) _ _ _); refine at_w ?_)
  | ((with_reducible show AT _ (Expr.Call _ _ _ _) _ _ _); refine at_val ?_)
  | ((with_reducible show AT _ (Expr.Name _ _) _ _ _); refine at_val ?_)
  | ((with_reducible show AW _ (Expr.BoolOp BoolOp.And [_] _) _ _ _); refine aw_and1 ?_)
  | ((with_reducible show AW _ (Expr.BoolOp BoolOp.Or [_] _) _ _ _); refine aw_or1 ?_)
  | ((with_reducible show AW _ (Expr.BoolOp BoolOp.And _ _) _ _ _); refine aw_and ?_)
  | ((with_reducible show AW _ (Expr.BoolOp BoolOp.Or _ _) _ _ _); refine aw_or ?_)
  | ((with_reducible show AA _ [] _ _ _); refine aa_nil ?_)
  | ((with_reducible show AA _ (_ :: _) _ _ _); refine aa_cons ?_)
  | ((with_reducible show BinA _ (binaryOp Operator.Add) (PV.d (PyData.int _)) (PV.d (PyData.int _)) _ _); refine b_add ?_)
  | ((with_reducible show BinA _ (binaryOp Operator.Sub) (PV.d (PyData.int _)) (PV.d (PyData.int _)) _ _); refine b_sub ?_)
  | ((with_reducible show BinA _ (compareOp CmpOp.Lt) (PV.d (PyData.int _)) (PV.d (PyData.int _)) _ _); refine b_lt ?_)
  | ((with_reducible show BinA _ (compareOp CmpOp.LtE) (PV.d (PyData.int _)) (PV.d (PyData.int _)) _ _); refine b_le ?_)
  | ((with_reducible show BinA _ (compareOp CmpOp.Gt) (PV.d (PyData.int _)) (PV.d (PyData.int _)) _ _); refine b_gt ?_)
  | ((with_reducible show BinA _ (compareOp CmpOp.GtE) (PV.d (PyData.int _)) (PV.d (PyData.int _)) _ _); refine b_ge ?_)
  | ((with_reducible show BinA _ (compareOp CmpOp.Eq) (PV.d (PyData.int _)) (PV.d (PyData.int _)) _ _); refine b_eqI ?_)
  | ((with_reducible show BinA _ (compareOp CmpOp.NotEq) (PV.d (PyData.int _)) (PV.d (PyData.int _)) _ _); refine b_neI ?_)
  | ((with_reducible show BinA _ (compareOp CmpOp.Eq) (PV.d (PyData.str _)) (PV.d (PyData.str _)) _ _); refine b_eqS ?_)
  | ((with_reducible show BinA _ (compareOp CmpOp.NotEq) (PV.d (PyData.str _)) (PV.d (PyData.str _)) _ _); refine b_neS ?_)
  | ((with_reducible show BinA _ (compareOp CmpOp.LtE) (PV.d (PyData.str _)) (PV.d (PyData.str _)) _ _); refine b_leS ?_)
  | ((with_reducible show BinA _ (compareOp CmpOp.Lt) (PV.d (PyData.str _)) (PV.d (PyData.str _)) _ _); refine b_ltS ?_)
  | ((with_reducible show BinA _ (compareOp CmpOp.Eq) (PV.d (PyData.bool _)) (PV.d (PyData.bool _)) _ _); refine b_eqB ?_)
  | ((with_reducible show AE _ (Expr.Call (Expr.Name "int" _) _ [] _) _ _ _); refine ae_callTy rfl (Txt.int_ ‹_›) boot_int ?_)
  | ((with_reducible show AE _ (Expr.Call (Expr.Name "isinstance" _) _ [] _) _ _ _); refine ae_callB rfl (Txt.isi_ ‹_›) boot_isinstance ?_)
  | ((with_reducible show AE _ (Expr.Call (Expr.Name "len" _) _ [] _) _ _ _); refine ae_callB rfl (Txt.len_ ‹_›) PySem.boot_len ?_)
  | ((with_reducible show AE _ (Expr.Call (Expr.Name "list" _) _ [] _) _ _ _); refine ae_callTy rfl (Txt.list_ ‹_›) boot_list ?_)
  | ((with_reducible show AE _ (Expr.Call (Expr.Name "max" _) _ [] _) _ _ _); refine ae_callB rfl (Txt.max_ ‹_›) boot_max ?_)
  | ((with_reducible show AE _ (Expr.Call (Expr.Name "min" _) _ [] _) _ _ _); refine ae_callB rfl (Txt.min_ ‹_›) boot_min ?_)
  | ((with_reducible show AE _ (Expr.Call (Expr.Name "repr" _) _ [] _) _ _ _); refine ae_callB rfl (Txt.repr_ ‹_›) PyProof.Rows.boot_repr ?_)
  | ((with_reducible show AE _ (Expr.Call (Expr.Name "sum" _) _ [] _) _ _ _); refine ae_callB rfl (Txt.sum_ ‹_›) boot_sum ?_)
  | ((with_reducible show AE _ (Expr.Call (Expr.Name "_law_draw" _) _ [] _) _ _ _); refine ae_callA ‹D__law_draw _› (RoomG.mono ‹_› (by first | decide | omega)) ?_)
  | ((with_reducible show AE _ (Expr.Call (Expr.Name "_law_rooms" _) _ [] _) _ _ _); refine ae_callA ‹D__law_rooms _› (RoomG.mono ‹_› (by first | decide | omega)) ?_)
  | ((with_reducible show CallA _ (Value.builtin "isinstance") [PV.d _, PV.v (V.ty "int")] _ _); refine c_isInt ?_)
  | ((with_reducible show CallA _ (Value.builtin "isinstance") [PV.d _, PV.v (V.ty "str")] _ _); refine c_isStr ?_)
  | ((with_reducible show CallA _ (Value.builtin "isinstance") [PV.d _, PV.v (V.ty "bool")] _ _); refine c_isBool ?_)
  | ((with_reducible show CallA _ (Value.builtin "isinstance") [PV.d _, PV.v (V.ty "list")] _ _); refine c_isList ?_)
  | ((with_reducible show CallA _ (Value.builtin "isinstance") [PV.d _, PV.v (V.ty "tuple")] _ _); refine c_isTup ?_)
  | ((with_reducible show CallA _ (Value.builtin "len") [PV.d (PyData.list _)] _ _); refine c_lenL ?_)
  | ((with_reducible show CallA _ (Value.builtin "len") [PV.d (PyData.tuple _)] _ _); refine c_lenT ?_)
  | ((with_reducible show CallA _ (Value.builtin "sum") [PV.d (PyData.list (List.map PyData.int _))] _ _); refine c_sum rfl ?_)
  | ((with_reducible show CallA _ (Value.type "int") [PV.d (PyData.bool _)] _ _); refine c_intB ?_)
  | ((with_reducible show AE _ (Expr.Call (Expr.Attribute _ "append" _) _ _ _) _ _ _); refine ae_bm PySem.F.plainAttrs_list PySem.F.slot_list_append PySem.F.type_list_append ?_)
  | ((with_reducible show BinA _ (inplaceOp Operator.Add) (PV.d (PyData.int _)) (PV.d (PyData.int _)) _ _); refine ib_add ?_)
  | ((with_reducible show UnA _ (unaryOp UnaryOp.USub) (PV.d (PyData.int _)) _ _); refine u_neg ?_)
  | ((with_reducible show IxA _ (PV.d (mD _)) (PV.d (PyData.int 0)) _ _); refine ixm0 ?_)
  | ((with_reducible show IxA _ (PV.d (mD _)) (PV.d (PyData.int 1)) _ _); refine ixm1 ?_)
  | ((with_reducible show IxA _ (PV.d (mD _)) (PV.d (PyData.int 2)) _ _); refine ixm2 ?_)
  | ((with_reducible show IxA _ (PV.d (mD _)) (PV.d (PyData.int 3)) _ _); refine ixm3 ?_)
  | ((with_reducible show IxA _ (PV.d (stD _)) (PV.d (PyData.int 0)) _ _); refine ixs0 ?_)
  | ((with_reducible show IxA _ (PV.d (stD _)) (PV.d (PyData.int 1)) _ _); refine ixs1 ?_)
  | ((with_reducible show IxA _ (PV.d (stD _)) (PV.d (PyData.int 2)) _ _); refine ixs2 ?_))
local macro_rules | `(tactic| walk_at "go1") => `(tactic| first
  | walk_at "ge"
  | ((with_reducible show ASs _ (_ :: _) _ _ _); refine as_cons ?_)
  | ((with_reducible show ASs _ [] _ _ _); refine as_nil ?_)
  | ((with_reducible show AS _ (Stmt.Return (some _) _) _ _ _); refine as_ret ?_)
  | ((with_reducible show AS _ (Stmt.If _ _ _ _) _ _ _); refine as_if ?_)
  | ((with_reducible show AS _ (Stmt.Expr _ _) _ _ _); refine as_expr ?_))
section
variable {P : Program} {w : World} {K : PySem.W.Frag} {mg : Str → Option Value} {base : Heap}
theorem ok__law_hand {f : Addr} {fd : FuncData} (F : Fun K "_law_hand" "_law_hand" s__law_hand f fd) (T : Txt mg) : Fn ⟨P, w, K, mg, base⟩ 1 f fd P__law_hand (up rHand) := by
  refine okA F sc__law_hand (fun args O Φ Ξ h => ?_) (fun cdv A outer s H E as0 F0 args O Φ Ξ hr h => ?_)
  · obtain ⟨ns, k, rfl, _⟩ := h
    rfl
  · obtain ⟨ns, k, rfl, k0, k1, q⟩ := h
    refine as_cons (as_set 2 sc__law_hand.nd ?_)
    walk_at "go1"
    walk_at "go1"
    refine ae_slice sl_list slL_mono ?_
    walk_at "go1"
    walk_at "go1"
    walk_at "go1"
    refine ⟨_, rfl, ?_⟩
    repeat walk_at "go1"
    refine ⟨_, rfl, ?_⟩
    refine sl_s ?_
    refine ae_lstD ?_
    repeat walk_at "go1"
    refine ⟨[.int 0], rfl, by decide, ?_⟩
    refine b_addL (sz ?_) ?_
    · have h1 : (cutI ns (some k) (some (k + 1))).length ≤ 1 := by
        unfold cutI
        rw [List.length_take]
        have e1 : HT.sIx ns.length 0 (some k) = min k.toNat ns.length := by
          obtain ⟨m, rfl⟩ := Int.eq_ofNat_of_zero_le k0
          exact HT.sIx_nat ns.length 0 m
        have e2 : HT.sIx ns.length ns.length (some (k + 1)) = min (k + 1).toNat ns.length := by
          obtain ⟨m, hm⟩ := Int.eq_ofNat_of_zero_le (show 0 ≤ k + 1 by omega)
          rw [hm]
          exact HT.sIx_nat ns.length _ m
        rw [e1, e2]
        omega
      simp only [List.length_map, List.length_cons, List.length_nil]
      omega
    repeat walk_at "go1"
    obtain ⟨c, hc⟩ := first_of (cutI ns (some k) (some (k + 1)))
    refine ix_L hc ?_
    have m0 : 0 ≤ c % 2147483647 := Int.emod_nonneg _ (by decide)
    have m1 : c % 2147483647 < 2147483647 := Int.emod_lt_of_pos _ (by decide)
    refine as_cons (as_set 3 sc__law_hand.nd ?_)
    repeat walk_at "go1"
    refine b_mod (by decide) ?_
    repeat walk_at "go1"
    refine b_mul (.inl ⟨by decide, by decide⟩) ?_
    repeat walk_at "go1"
    refine b_mul (.inl ⟨by omega, by omega⟩) ?_
    repeat walk_at "go1"
    refine b_mod (by decide) ?_
    refine as_cons (as_ret (ae_lstO ?_))
    walk_at "go1"
    walk_at "go1"
    refine ae_callTy rfl T.int_ boot_int ?_
    repeat walk_at "go1"
    refine b_pow ⟨by decide, by decide, by decide⟩ ?_
    repeat walk_at "go1"
    refine b_mul (.inl ⟨?_, ?_⟩) ?_
    · split <;> decide
    · split <;> decide
    repeat walk_at "go1"
    refine ⟨by show 2 ≤ 16000000; decide, .keep (q _ _ ⟨?_, Int.emod_nonneg _ (by decide), Int.lt_trans (Int.emod_lt_of_pos _ (by decide)) (by decide)⟩)⟩
    split
    · rename_i hd
      have := of_decide_eq_true hd
      have e : (10 : Int) ^ (18 : Int).toNat = 1000000000000000000 := by decide
      rw [e] at this
      omega
    · omega
theorem ok__law_draw {f : Addr} {fd : FuncData} (F : Fun K "_law_draw" "_law_draw" s__law_draw f fd) (T : Txt mg) : Fn ⟨P, w, K, mg, base⟩ 1 f fd P__law_draw (up rDraw) := by
  refine okA F sc__law_draw (fun args O Φ Ξ h => ?_) (fun cdv A outer s H E as0 F0 args O Φ Ξ hr h => ?_)
  · obtain ⟨h, a, s, n, rfl, _⟩ := h
    rfl
  · obtain ⟨h, a, s, n, rfl, hO, ok, n0, n1, q⟩ := h
    have hh : h < O.length := (List.getElem?_eq_some_iff.mp hO).1
    refine as_cons (as_if (at_cmp ?_))
    repeat walk_at "go1"
    refine ix_O hO rfl ?_
    repeat walk_at "go1"
    refine ifd (fun hc => ?_) (fun hc => ?_)
    · refine as_cons (as_set 2 sc__law_draw.nd ?_)
      repeat walk_at "go1"
      refine ix_O hO rfl ?_
      repeat walk_at "go1"
      refine b_mod n0 ?_
      refine as_cons (as_asg ?_)
      repeat walk_at "go1"
      refine ix_O hO rfl ?_
      repeat walk_at "go1"
      refine b_fdiv ⟨n0, n1⟩ ?_
      refine ag_subL ?_
      repeat walk_at "go1"
      refine ⟨h, 0, 0, _, rfl, rfl, hO, rfl, ?_⟩
      repeat walk_at "go1"
      exact .keep (q _ _ _ ⟨Int.ediv_nonneg ok.a0 (by omega), ok.s0, ok.s1⟩ (Int.emod_nonneg _ (by omega)) (Int.emod_lt_of_pos _ n0))
    · refine as_nil ?_
      refine as_cons (as_asg ?_)
      repeat walk_at "go1"
      refine ix_O hO rfl ?_
      repeat walk_at "go1"
      refine b_mul (.inl ⟨by have := ok.s0; omega, by have := ok.s1; omega⟩) ?_
      repeat walk_at "go1"
      refine b_mod (by decide) ?_
      refine ag_subL ?_
      repeat walk_at "go1"
      refine ⟨h, 1, 1, _, rfl, rfl, hO, rfl, ?_⟩
      have e0 : 0 ≤ (s * 48271 + 11) % 2147483647 := Int.emod_nonneg _ (by decide)
      have e1 : (s * 48271 + 11) % 2147483647 < 2147483647 := Int.emod_lt_of_pos _ (by decide)
      generalize (s * 48271 + 11) % 2147483647 = s' at e0 e1
      have hO2 : (O.set h (hnd a s'))[h]? = some (hnd a s') := List.getElem?_set_self hh
      refine as_cons (as_ret ?_)
      repeat walk_at "go1"
      refine ix_O hO2 rfl ?_
      repeat walk_at "go1"
      refine ix_O hO2 rfl ?_
      refine b_mul (.inl ⟨by omega, by omega⟩) ?_
      repeat walk_at "go1"
      refine b_mod (by decide) ?_
      repeat walk_at "go1"
      refine b_fdiv ⟨by decide, by decide⟩ ?_
      repeat walk_at "go1"
      refine b_mod n0 ?_
      exact .keep (q _ _ _ ⟨ok.a0, e0, e1⟩ (Int.emod_nonneg _ (by omega)) (Int.emod_lt_of_pos _ n0))
theorem ok__law_rooms {f : Addr} {fd : FuncData} (F : Fun K "_law_rooms" "_law_rooms" s__law_rooms f fd) (T : Txt mg) (E1 : D__law_draw ⟨P, w, K, mg, base⟩) : Fn ⟨P, w, K, mg, base⟩ 2 f fd P__law_rooms (up rRooms) := by
  refine okA F sc__law_rooms (fun args O Φ Ξ h => ?_) (fun cdv A outer s H E as0 F0 args O Φ Ξ hr h => ?_)
  · obtain ⟨h, a, s, n, rfl, _⟩ := h
    rfl
  · obtain ⟨h, a, s, n, rfl, hO, ok, n0, n1, cl, q⟩ := h
    have hh : h < O.length := (List.getElem?_eq_some_iff.mp hO).1
    rw [← set_same hO]
    have ll : ∀ a s, (O.set h (hnd a s)).length = O.length := fun _ _ => List.length_set
    refine as_cons ?_
    repeat walk_at "go1"
    refine draw_at hh ok (by decide) (by decide) (fun r1 a1 s1 ok1 _ _ => ?_)
    repeat walk_at "go1"
    refine ifd (fun _ => ?_) (fun _ => ?_)
    · repeat walk_at "go1"
      refine ae_lstD ?_
      repeat walk_at "go1"
      exact ⟨[], rfl, by decide, .keep (q [] _ _ ok1 Rms.nil)⟩
    repeat walk_at "go1"
    refine as_setLc 2 (own := [("_law_room", 3)]) (g := gName 3) rfl sc__law_rooms.nd (blkOk_by (N := N__law_rooms) (sc := defScope s__law_rooms) (by decide +kernel)) (fun _ _ _ _ _ => (pg_name (i := 3) sc__law_rooms.nd rfl (.inl rfl))) (wipes_name (by decide)) mono_name ?_ rfl
    refine lc_sel (α := Nat) mono_name (ai_range1 rfl T.range_ ?_)
    repeat walk_at "go1"
    refine ⟨_, rfl, by omega, by omega, Nat.le_refl _, List.range n, fun i => .d (iD i), iD, fun O' => ∃ a s, HandOk a s ∧ O' = O.set h (hnd a s), by rw [Int.toNat_natCast, rng_map], by rw [List.length_range]; omega, ⟨_, _, ok1, rfl⟩, ?_, ?_, ?_⟩
    · rintro O' ⟨a2, s2, ok2, rfl⟩
      exact ⟨by rw [ll, ll], cl_hnd cl, fun _ => trivial⟩
    · rintro x hx O' acc ⟨a2, s2, ok2, rfl⟩
      rw [set_app hh]
      refine agr_name (fun _ _ _ _ _ => ats_one ?_)
      repeat walk_at "go1"
      refine draw_at (app_lt hh) ok2 (by decide) (by decide) (fun r2 a3 s3 ok3 _ _ => ?_)
      repeat walk_at "go1"
      refine ifd (fun _ => ?_) (fun _ => ?_)
      · intro _ _ _ _ _
        repeat walk_at "go1"
        exact ⟨_, (set_app hh).symm, ⟨_, _, ok3, rfl⟩, rfl⟩
      · exact ⟨_, (set_app hh).symm, _, _, ok3, rfl⟩
    · rintro O' sub ⟨a2, s2, ok2, rfl⟩ hsub
      refine as_cons (as_ret (ae_orT ?_))
      repeat walk_at "go1"
      refine ⟨_, tru_L, ifnb (fun he => ?_) (fun he => ?_)⟩
      · exact .keep (q sub _ _ ok2 (rms_sub hsub))
      · repeat walk_at "go1"
        refine ae_lstD ?_
        repeat walk_at "go1"
        refine draw_at hh ok2 (by omega) (by omega) (fun r3 a3 s3 ok3 r0 r1 => ?_)
        repeat walk_at "go1"
        obtain ⟨k, rfl⟩ := Int.eq_ofNat_of_zero_le r0
        exact ⟨[iD k], rfl, by show 1 ≤ 16000000; decide, .keep (q [k] _ _ ok3 (Rms.one (by omega)))⟩
theorem ok__law_letters {f : Addr} {fd : FuncData} (F : Fun K "_law_letters" "_law_letters" s__law_letters f fd) (T : Txt mg) (E1 : D__law_draw ⟨P, w, K, mg, base⟩) : Fn ⟨P, w, K, mg, base⟩ 2 f fd P__law_letters (up rLetters) := by
  refine okA F sc__law_letters (fun args O Φ Ξ h => ?_) (fun cdv A outer s H E as0 F0 args O Φ Ξ hr h => ?_)
  · obtain ⟨h, a, s, rfl, _⟩ := h
    rfl
  · obtain ⟨h, a, s, rfl, hO, ok, q⟩ := h
    have hh : h < O.length := (List.getElem?_eq_some_iff.mp hO).1
    rw [← set_same hO]
    refine as_cons (as_ret (ae_ix (ae_lstD ?_)))
    repeat walk_at "go1"
    refine ⟨([Str.ofString "ab", Str.ofString "ab", Str.ofString "abc", Str.ofString "qz", Str.ofString "mpx", Str.ofString "a"] : List Str).map PyData.str, rfl, by decide, ?_⟩
    repeat walk_at "go1"
    refine draw_at hh ok (by decide) (by decide) (fun r a1 s1 ok1 r0 r1 => ?_)
    obtain ⟨d, hd, hm⟩ := at_mem (xs := ([Str.ofString "ab", Str.ofString "ab", Str.ofString "abc", Str.ofString "qz", Str.ofString "mpx", Str.ofString "a"] : List Str).map PyData.str) r0 (by show r < 6; omega)
    obtain ⟨z, hz, rfl⟩ := List.mem_map.mp hm
    have key : LetOk z ∧ z.length ≤ 10 := by
      simp only [List.mem_cons, List.not_mem_nil, or_false] at hz
      rcases hz with rfl | rfl | rfl | rfl | rfl | rfl <;> exact ⟨letOk_lit (by decide +kernel), by decide +kernel⟩
    exact ix_L hd (.keep (q z _ _ ok1 key.1 key.2))
theorem ok__law_machine {f : Addr} {fd : FuncData} (F : Fun K "_law_machine" "_law_machine" s__law_machine f fd) (T : Txt mg) (E1 : D__law_draw ⟨P, w, K, mg, base⟩) (E2 : D__law_rooms ⟨P, w, K, mg, base⟩) : Fn ⟨P, w, K, mg, base⟩ 3 f fd P__law_machine (up rMachine) := by
  refine okA F sc__law_machine (fun args O Φ Ξ h => ?_) (fun cdv A outer s H E as0 F0 args O Φ Ξ hr h => ?_)
  · obtain ⟨h, a, s, u, e, z, rfl, _⟩ := h
    rfl
  · obtain ⟨h, a, s, u, e, z, rfl, hO, ok, u0, u1, e0, e1, hz, cl, q⟩ := h
    have hh : h < O.length := (List.getElem?_eq_some_iff.mp hO).1
    have hzl := hz.l1
    have hzl0 := hz.l0
    have hu : A.units + 3 + 65 < cLine := by have := hr.un; exact Nat.lt_of_le_of_lt (by show A.units + 3 + 65 ≤ A.units + 3 + 16 * 2 + 200; omega) this
    rw [← set_same hO]
    refine as_cons (as_set 4 sc__law_machine.nd ?_)
    repeat walk_at "go1"
    refine draw_at hh ok (by omega) (by omega) (fun r1 a1 s1 ok1 r0 r2 => ?_)
    obtain ⟨k, rfl⟩ := Int.eq_ofNat_of_zero_le r0
    repeat walk_at "go1"
    obtain ⟨n, hn⟩ : ∃ n : Nat, n = 1 + k := ⟨_, rfl⟩
    rw [show (1 : Int) + (k : Int) = (n : Nat) by omega]
    refine as_set 5 sc__law_machine.nd ?_
    repeat walk_at "go1"
    refine rooms_at hh ok1 (by omega) (by omega) cl (fun fs a2 s2 ok2 hfs => ?_)
    repeat walk_at "go1"
    refine as_set 6 sc__law_machine.nd ?_
    repeat walk_at "go1"
    refine rooms_at hh ok2 (by omega) (by omega) cl (fun ls a3 s3 ok3 hls => ?_)
    repeat walk_at "go1"
    refine as_set 7 sc__law_machine.nd (ae_lstO ?_)
    repeat walk_at "go1"
    refine ⟨by decide, ?_⟩
    rw [show (O.set h (hnd a3 s3)).length = O.length from List.length_set, set_app hh]
    repeat walk_at "go1"
    refine as_for PassesOwn.never rfl (ai_range1 rfl T.range_ ?_)
    repeat walk_at "go1"
    refine draw_at (app_lt hh) ok3 (by omega) (by omega) (fun r3 a4 s4 ok4 r30 r31 => ?_)
    repeat walk_at "go1"
    refine ⟨r3, rfl, by omega, by omega, fun i ρ' O' => ∃ a s sts, HandOk a s ∧ O' = (O ++ [AO.lst ((sts.map stD).map PV.d)]).set h (hnd a s) ∧ (∀ t ∈ sts, StOk n t ∧ t.2.1 ∈ cds z) ∧ sts.Nodup ∧ sts.length ≤ i ∧ ∃ (y1 y2 : Option PV), ρ' = [some (.o h), some (pI u), some (pI e), some (pS z), some (.d (iD n)), some (.d (rmsD fs)), some (.d (rmsD ls)), some (.o O.length), y1, y2], ⟨a4, s4, [], ok4, rfl, fun _ h => (nomatch h), List.nodup_nil, Nat.le_refl _, _, _, rfl⟩, fun _ _ _ _ => trivial, ?_, ?_⟩
    · rintro i x ρ' O' hx ⟨a5, s5, sts, ok5, rfl, hst, hnu, hlen, y1, y2, rfl⟩
      have hi : i < 200 := by
        have h1 := (List.getElem?_eq_some_iff.mp hx).1
        unfold rngP at h1
        rw [List.length_map, List.length_range] at h1
        omega
      refine ag_name 8 sc__law_machine.nd ?_
      refine as_cons (as_set 9 sc__law_machine.nd (ae_tupD ?_))
      repeat walk_at "go1"
      refine draw_at (app_lt hh) ok5 (by omega) (by omega) (fun r4 a6 s6 ok6 r40 r41 => ?_)
      repeat walk_at "go1"
      refine c_lenS (sz (by omega)) ?_
      repeat walk_at "go1"
      refine draw_at (app_lt hh) ok6 (by omega) (by omega) (fun r5 a7 s7 ok7 r50 r51 => ?_)
      obtain ⟨c, hc, _, hcm⟩ := str_at hz.ok r50 r51
      refine ix_S (sz (by omega)) hc ?_
      repeat walk_at "go1"
      refine draw_at (app_lt hh) ok7 (by omega) (by omega) (fun r6 a8 s8 ok8 r60 r61 => ?_)
      repeat walk_at "go1"
      obtain ⟨b1, rfl⟩ := Int.eq_ofNat_of_zero_le r40
      obtain ⟨b2, rfl⟩ := Int.eq_ofNat_of_zero_le r60
      refine ⟨[iD b1, sgD c, iD b2], rfl, by show 3 ≤ 16000000; decide, ?_⟩
      have ht : StOk n (b1, c, b2) := ⟨by show b1 < n; omega, hz.all c hcm, by show b2 < n; omega⟩
      have hOl := app_last (y := hnd a8 s8) (x := AO.lst ((sts.map stD).map PV.d)) hh
      repeat walk_at "go1"
      refine b_notInO (x := stD (b1, c, b2)) hOl hu ((shp_st (k := 0) ht).sh (by decide)) ((shp_sts (k := 0) fun t h => (hst t h).1).sh (by decide)) ?_
      rw [any_sts]
      refine isB_mk (ifnd (fun hn1 => ?_) (fun hn1 => ?_))
      · repeat walk_at "go1"
        refine ⟨ty_O hOl, ?_⟩
        repeat walk_at "go1"
        refine m_append hOl (by rw [List.length_map, List.length_map]; omega) ?_
        rw [set_last hh]
        refine as_nil (as_nil (.keep ⟨a8, s8, sts ++ [(b1, c, b2)], ok8, by simp, fun t h => ?_, ?_, by simp; omega, _, _, rfl⟩))
        · rcases List.mem_append.mp h with h | h
          · exact hst t h
          · have e9 : t = (b1, c, b2) := by simpa using h
            subst e9
            exact ⟨ht, hcm⟩
        · rw [List.nodup_append]
          refine ⟨hnu, by simp, fun x hx y hy e9 => ?_⟩
          have e10 : y = (b1, c, b2) := by simpa using hy
          rw [e10] at e9
          exact hn1 (e9 ▸ hx)
      · refine as_nil (as_nil (.keep ⟨a8, s8, sts, ok8, rfl, hst, hnu, by omega, _, _, rfl⟩))
    · rintro ρ' O' ⟨a5, s5, sts, ok5, rfl, hst, hnu, hlen, y1, y2, rfl⟩
      unfold rngP at hlen
      rw [List.length_map, List.length_range] at hlen
      have hl : sts.length ≤ 200 := by omega
      have hl2 : (sts.length : Int) ≤ r3 := by omega
      refine as_cons (as_ret (ae_tupO ?_))
      repeat walk_at "go1"
      refine ⟨by show 4 ≤ 16000000; decide, ?_⟩
      have hm : MOk ⟨n, fs, ls, sts⟩ := ⟨by show 1 ≤ n; omega, by show n ≤ 12; omega, hfs, hls, fun t h => (hst t h).1, hnu, hl⟩
      have e9 : ((O ++ [AO.lst ((sts.map stD).map PV.d)]).set h (hnd a5 s5)).length = O.length + 1 := by simp
      rw [e9, ← set_app hh]
      have z9 := gh_tupL (Φ := Φ) (O := O.set h (hnd a5 s5)) (ds := sts.map stD) (pre := [iD n, rmsD fs, rmsD ls]) (cl_hnd cl) (q ⟨n, fs, ls, sts⟩ _ _ ok5 hm (by show (n : Int) ≤ u; omega) (fun t h => (hst t h).2) (by show (sts.length : Int) < u + e; omega))
      rw [List.length_set] at z9 ⊢
      exact z9
theorem ok__law_word {f : Addr} {fd : FuncData} (F : Fun K "_law_word" "_law_word" s__law_word f fd) (T : Txt mg) (E1 : D__law_draw ⟨P, w, K, mg, base⟩) : Fn ⟨P, w, K, mg, base⟩ 2 f fd P__law_word (up rWord) := by
  refine okA F sc__law_word (fun args O Φ Ξ h => ?_) (fun cdv A outer s H E as0 F0 args O Φ Ξ hr h => ?_)
  · obtain ⟨h, a, s, z, u, rfl, _⟩ := h
    rfl
  · obtain ⟨h, a, s, z, u, rfl, hO, ok, hz, u0, u1, cl, q⟩ := h
    have hh : h < O.length := (List.getElem?_eq_some_iff.mp hO).1
    have hzl := hz.l1
    have hzl0 := hz.l0
    have ll : ∀ a s, (O.set h (hnd a s)).length = O.length := fun _ _ => List.length_set
    rw [← set_same hO]
    refine as_cons (as_ret (ae_bm PySem.F.plainAttrs_str PySem.F.slot_str_join PySem.F.type_str_join ?_))
    walk_at "go1"
    refine ⟨ty_S, aa_cons ?_⟩
    refine ae_lc (own := [("_law_k", 3)]) (g := gName 3) rfl sc__law_word.nd (blkOk_by (N := N__law_word) (sc := defScope s__law_word) (by decide +kernel)) (fun _ _ _ _ _ => (pg_name (i := 3) sc__law_word.nd rfl (.inl rfl))) (wipes_name (by decide)) mono_name ?_
    refine lc_inv mono_name (ai_range1 rfl T.range_ ?_)
    repeat walk_at "go1"
    refine draw_at hh ok (by omega) (by omega) (fun m a2 s2 ok2 m0 m1 => ?_)
    repeat walk_at "go1"
    refine ⟨m, rfl, by omega, by omega, by rw [ll, ll]; exact Nat.le_refl _, by unfold rngP; simp; omega, fun O' => ∃ a s, HandOk a s ∧ O' = O.set h (hnd a s), fun _ d => ∃ c, d = .str ⟨#[c]⟩ ∧ c ∈ cds z, ⟨_, _, ok2, rfl⟩, ?_, ?_, ?_⟩
    · rintro O' ⟨a3, s3, ok3, rfl⟩
      exact ⟨by rw [ll, ll], cl_hnd cl, fun _ => trivial⟩
    · rintro x hx O' acc ⟨a3, s3, ok3, rfl⟩
      rw [set_app hh]
      refine agr_name (fun _ _ _ _ _ => ats_nil (iteT (fun _ _ _ _ _ => ?_)))
      repeat walk_at "go1"
      refine c_lenS (sz (by omega)) ?_
      repeat walk_at "go1"
      refine draw_at (app_lt hh) ok3 (by omega) (by omega) (fun r5 a7 s7 ok7 r50 r51 => ?_)
      obtain ⟨c, hc, hc1, hcm⟩ := str_at hz.ok r50 r51
      refine ix_S (sz (by omega)) hc ?_
      exact ⟨_, .str ⟨#[c]⟩, (set_app hh).symm, ⟨_, _, ok7, rfl⟩, rfl, c, rfl, hcm⟩
    · rintro O' ds ⟨a3, s3, ok3, rfl⟩ hds hdl
      obtain ⟨ys, rfl, hy⟩ := strs_of (P := fun y => ∃ c, y = ⟨#[c]⟩ ∧ c ∈ cds z) fun d hd => by
        obtain ⟨x, _, c, e1, e2⟩ := hds d hd
        exact ⟨_, e1, c, rfl, e2⟩
      walk_at "go1"
      have hl1 : ∀ y ∈ ys, y.length ≤ 1 := fun y h => by
        obtain ⟨c, rfl, _⟩ := hy y h
        exact Nat.le_refl _
      obtain ⟨j1, j2⟩ := join0_len hl1
      have hn : ys.length ≤ m.toNat := by
        rw [List.length_map] at hdl
        unfold rngP at hdl
        rw [List.length_map, List.length_range] at hdl
        exact hdl
      refine m_join ?_ (.keep (q _ _ _ ok3 (by omega) fun c hc => ?_))
      · show _ + ys.length * 0 ≤ _
        omega
      · rw [cds_join0] at hc
        obtain ⟨l, hl, hc⟩ := List.mem_flatten.mp hc
        obtain ⟨y, hy1, rfl⟩ := List.mem_map.mp hl
        obtain ⟨c', rfl, hc'⟩ := hy y hy1
        have e : c = c' := by simpa [cds] using hc
        rw [e]; exact hc'
end
end K13
set_option pp.maxSteps 1200
namespace K13
open PySem PySem.Spec L2 Al
open PyProof.Rows hiding St
local macro_rules | `(tactic| walk_at "v") => `(tactic| first | refine ae_var 0 rfl ?_ | refine ae_var 1 rfl ?_ | refine ae_var 2 rfl ?_ | refine ae_var 3 rfl ?_ | refine ae_var 4 rfl ?_ | refine ae_var 5 rfl ?_ | refine ae_var 6 rfl ?_ | refine ae_var 7 rfl ?_ | refine ae_var 8 rfl ?_ | refine ae_var 9 rfl ?_ | refine ae_var 10 rfl ?_ | refine ae_var 11 rfl ?_ | refine ae_var 12 rfl ?_ | refine ae_var 13 rfl ?_ | refine ae_var 14 rfl ?_ | refine ae_var 15 rfl ?_ | refine ae_var 16 rfl ?_ | refine ae_var 17 rfl ?_ | refine ae_var 18 rfl ?_ | refine ae_var 19 rfl ?_ | refine ae_ty (Txt.int_ ‹_›) boot_int ?_ | refine ae_ty (Txt.str_ ‹_›) boot_str ?_ | refine ae_ty (Txt.bool_ ‹_›) boot_bool ?_ | refine ae_ty (Txt.list_ ‹_›) boot_list ?_ | refine ae_ty (Txt.tuple_ ‹_›) boot_tuple ?_ | refine ae_globS (Txt.LETTERS ‹_›).choose_spec ?_ | refine ae_globI (Txt.MOST_ROOMS ‹_›).choose_spec ?_ | refine ae_globI (Txt.MOST_STEPS ‹_›).choose_spec ?_ | refine ae_globI (Txt.MOST_WORD ‹_›).choose_spec ?_)
local macro_rules | `(tactic| walk_at "ge") => `(tactic| first
  | ((with_reducible show ite (true = true) _ _); refine iteT ?_)
  | ((with_reducible show ite (false = true) _ _); refine iteF ?_)
  | ((with_reducible show ite ((!true) = true) _ _); refine iteF ?_)
  | ((with_reducible show ite ((!false) = true) _ _); refine iteT ?_)
  | ((with_reducible show IsB _ _ _); refine isB_mk ?_)
  | ((with_reducible show AE _ (Expr.Name _ _) _ _ _); walk_at "v")
  | ((with_reducible show AE _ (Expr.Constant (Const.int _) _ _) _ _ _); refine ae_int ?_)
  | ((with_reducible show AE _ (Expr.Constant (Const.str _) _ _) _ _ _); refine ae_str ?_)
  | ((with_reducible show AE _ (Expr.Constant (Const.bool _) _ _) _ _ _); refine ae_bl ?_)
  | ((with_reducible show AE _ (Expr.Constant Const.none _ _) _ _ _); refine ae_non ?_)
  | ((with_reducible show AO1 _ (some _) _ _ _); refine ao_some ?_)
  | ((with_reducible show AO1 _ none _ _ _); refine ao_none ?_)
  | ((with_reducible show AE _ (Expr.BinOp _ _ _ _) _ _ _); refine ae_bin ?_)
  | ((with_reducible show AE _ (Expr.Compare _ [_] [_] _) _ _ _); refine ae_cmp ?_)
  | ((with_reducible show AE _ (Expr.Compare _ [_, _] [_, _] _) _ _ _); refine ae_chain ?_)
  | ((with_reducible show AE _ (Expr.Subscript _ (Expr.Slice none none (some _) _) _) _ _ _); refine ae_revS ?_)
  | ((with_reducible show AE _ (Expr.Subscript _ (Expr.Slice _ _ _ _) _) _ _ _); fail)
  | ((with_reducible show AE _ (Expr.Subscript _ _ _) _ _ _); refine ae_ix ?_)
  | ((with_reducible show AE _ (Expr.BoolOp _ [_] _) _ _ _); refine ae_one ?_)
  | ((with_reducible show AE _ (Expr.BoolOp BoolOp.And _ _) _ _ _); refine ae_and ?_)
  | ((with_reducible show AE _ (Expr.BoolOp BoolOp.Or _ _) _ _ _); refine ae_or ?_)
  | ((with_reducible show AE _ (Expr.UnaryOp UnaryOp.Not _ _) _ _ _); refine ae_not ?_)
  | ((with_reducible show AE _ (Expr.UnaryOp _ _ _) _ _ _); refine ae_un ?_)
  | ((with_reducible show AE _ (Expr.IfExp _ _ _ _) _ _ _); refine ae_if ?_)
  | ((with_reducible show AT _ (Expr.Compare _ [_] [_] _) _ _ _); refine at_cmp ?_)
  | ((with_reducible show AT _ (Expr.Compare _ [_, _] [_, _] _) _ _ _); refine at_chain ?_)
  | ((with_reducible show AT _ (Expr.UnaryOp UnaryOp.Not _ _) _ _ _); refine at_not ?_)
  | ((with_reducible show AT _ (Expr.BoolOp _ _ _) _ _ _); refine at_w ?_)
  | ((with_reducible show AT _ (Expr.Call _ _ _ _) _ _ _); refine at_val ?_)
  | ((with_reducible show AT _ (Expr.Name _ _) _ _ _); refine at_val ?_)
  | ((with_reducible show AW _ (Expr.BoolOp BoolOp.And [_] _) _ _ _); refine aw_and1 ?_)
  | ((with_reducible show AW _ (Expr.BoolOp BoolOp.Or [_] _) _ _ _); refine aw_or1 ?_)
  | ((with_reducible show AW _ (Expr.BoolOp BoolOp.And _ _) _ _ _); refine aw_and ?_)
  | ((with_reducible show AW _ (Expr.BoolOp BoolOp.Or _ _) _ _ _); refine aw_or ?_)
  | ((with_reducible show AA _ [] _ _ _); refine aa_nil ?_)
  | ((with_reducible show AA _ (_ :: _) _ _ _); refine aa_cons ?_)
  | ((with_reducible show BinA _ (binaryOp Operator.Add) (PV.d (PyData.int _)) (PV.d (PyData.int _)) _ _); refine b_add ?_)
  | ((with_reducible show BinA _ (binaryOp Operator.Sub) (PV.d (PyData.int _)) (PV.d (PyData.int _)) _ _); refine b_sub ?_)
  | ((with_reducible show BinA _ (compareOp CmpOp.Lt) (PV.d (PyData.int _)) (PV.d (PyData.int _)) _ _); refine b_lt ?_)
  | ((with_reducible show BinA _ (compareOp CmpOp.LtE) (PV.d (PyData.int _)) (PV.d (PyData.int _)) _ _); refine b_le ?_)
  | ((with_reducible show BinA _ (compareOp CmpOp.Gt) (PV.d (PyData.int _)) (PV.d (PyData.int _)) _ _); refine b_gt ?_)
  | ((with_reducible show BinA _ (compareOp CmpOp.GtE) (PV.d (PyData.int _)) (PV.d (PyData.int _)) _ _); refine b_ge ?_)
  | ((with_reducible show BinA _ (compareOp CmpOp.Eq) (PV.d (PyData.int _)) (PV.d (PyData.int _)) _ _); refine b_eqI ?_)
  | ((with_reducible show BinA _ (compareOp CmpOp.NotEq) (PV.d (PyData.int _)) (PV.d (PyData.int _)) _ _); refine b_neI ?_)
  | ((with_reducible show BinA _ (compareOp CmpOp.Eq) (PV.d (PyData.str _)) (PV.d (PyData.str _)) _ _); refine b_eqS ?_)
  | ((with_reducible show BinA _ (compareOp CmpOp.NotEq) (PV.d (PyData.str _)) (PV.d (PyData.str _)) _ _); refine b_neS ?_)
  | ((with_reducible show BinA _ (compareOp CmpOp.LtE) (PV.d (PyData.str _)) (PV.d (PyData.str _)) _ _); refine b_leS ?_)
  | ((with_reducible show BinA _ (compareOp CmpOp.Lt) (PV.d (PyData.str _)) (PV.d (PyData.str _)) _ _); refine b_ltS ?_)
  | ((with_reducible show BinA _ (compareOp CmpOp.Eq) (PV.d (PyData.bool _)) (PV.d (PyData.bool _)) _ _); refine b_eqB ?_)
  | ((with_reducible show AE _ (Expr.Call (Expr.Name "int" _) _ [] _) _ _ _); refine ae_callTy rfl (Txt.int_ ‹_›) boot_int ?_)
  | ((with_reducible show AE _ (Expr.Call (Expr.Name "isinstance" _) _ [] _) _ _ _); refine ae_callB rfl (Txt.isi_ ‹_›) boot_isinstance ?_)
  | ((with_reducible show AE _ (Expr.Call (Expr.Name "len" _) _ [] _) _ _ _); refine ae_callB rfl (Txt.len_ ‹_›) PySem.boot_len ?_)
  | ((with_reducible show AE _ (Expr.Call (Expr.Name "list" _) _ [] _) _ _ _); refine ae_callTy rfl (Txt.list_ ‹_›) boot_list ?_)
  | ((with_reducible show AE _ (Expr.Call (Expr.Name "max" _) _ [] _) _ _ _); refine ae_callB rfl (Txt.max_ ‹_›) boot_max ?_)
  | ((with_reducible show AE _ (Expr.Call (Expr.Name "min" _) _ [] _) _ _ _); refine ae_callB rfl (Txt.min_ ‹_›) boot_min ?_)
  | ((with_reducible show AE _ (Expr.Call (Expr.Name "repr" _) _ [] _) _ _ _); refine ae_callB rfl (Txt.repr_ ‹_›) PyProof.Rows.boot_repr ?_)
  | ((with_reducible show AE _ (Expr.Call (Expr.Name "sum" _) _ [] _) _ _ _); refine ae_callB rfl (Txt.sum_ ‹_›) boot_sum ?_)
  | ((with_reducible show AE _ (Expr.Call (Expr.Name "_law_beginnings" _) _ [] _) _ _ _); refine ae_callA ‹D__law_beginnings _› (RoomG.mono ‹_› (by first | decide | omega)) ?_)
  | ((with_reducible show CallA _ (Value.builtin "isinstance") [PV.d _, PV.v (V.ty "int")] _ _); refine c_isInt ?_)
  | ((with_reducible show CallA _ (Value.builtin "isinstance") [PV.d _, PV.v (V.ty "str")] _ _); refine c_isStr ?_)
  | ((with_reducible show CallA _ (Value.builtin "isinstance") [PV.d _, PV.v (V.ty "bool")] _ _); refine c_isBool ?_)
  | ((with_reducible show CallA _ (Value.builtin "isinstance") [PV.d _, PV.v (V.ty "list")] _ _); refine c_isList ?_)
  | ((with_reducible show CallA _ (Value.builtin "isinstance") [PV.d _, PV.v (V.ty "tuple")] _ _); refine c_isTup ?_)
  | ((with_reducible show CallA _ (Value.builtin "len") [PV.d (PyData.list _)] _ _); refine c_lenL ?_)
  | ((with_reducible show CallA _ (Value.builtin "len") [PV.d (PyData.tuple _)] _ _); refine c_lenT ?_)
  | ((with_reducible show CallA _ (Value.builtin "sum") [PV.d (PyData.list (List.map PyData.int _))] _ _); refine c_sum rfl ?_)
  | ((with_reducible show CallA _ (Value.type "int") [PV.d (PyData.bool _)] _ _); refine c_intB ?_)
  | ((with_reducible show AE _ (Expr.Call (Expr.Attribute _ "append" _) _ _ _) _ _ _); refine ae_bm PySem.F.plainAttrs_list PySem.F.slot_list_append PySem.F.type_list_append ?_)
  | ((with_reducible show BinA _ (inplaceOp Operator.Add) (PV.d (PyData.int _)) (PV.d (PyData.int _)) _ _); refine ib_add ?_)
  | ((with_reducible show UnA _ (unaryOp UnaryOp.USub) (PV.d (PyData.int _)) _ _); refine u_neg ?_)
  | ((with_reducible show IxA _ (PV.d (mD _)) (PV.d (PyData.int 0)) _ _); refine ixm0 ?_)
  | ((with_reducible show IxA _ (PV.d (mD _)) (PV.d (PyData.int 1)) _ _); refine ixm1 ?_)
  | ((with_reducible show IxA _ (PV.d (mD _)) (PV.d (PyData.int 2)) _ _); refine ixm2 ?_)
  | ((with_reducible show IxA _ (PV.d (mD _)) (PV.d (PyData.int 3)) _ _); refine ixm3 ?_)
  | ((with_reducible show IxA _ (PV.d (stD _)) (PV.d (PyData.int 0)) _ _); refine ixs0 ?_)
  | ((with_reducible show IxA _ (PV.d (stD _)) (PV.d (PyData.int 1)) _ _); refine ixs1 ?_)
  | ((with_reducible show IxA _ (PV.d (stD _)) (PV.d (PyData.int 2)) _ _); refine ixs2 ?_))
local macro_rules | `(tactic| walk_at "go1") => `(tactic| first
  | walk_at "ge"
  | ((with_reducible show ASs _ (_ :: _) _ _ _); refine as_cons ?_)
  | ((with_reducible show ASs _ [] _ _ _); refine as_nil ?_)
  | ((with_reducible show AS _ (Stmt.Return (some _) _) _ _ _); refine as_ret ?_)
  | ((with_reducible show AS _ (Stmt.If _ _ _ _) _ _ _); refine as_if ?_)
  | ((with_reducible show AS _ (Stmt.Expr _ _) _ _ _); refine as_expr ?_))
section
variable {P : Program} {w : World} {K : PySem.W.Frag} {mg : Str → Option Value} {base : Heap}
theorem ok__law_beginnings {f : Addr} {fd : FuncData} (F : Fun K "_law_beginnings" "_law_beginnings" s__law_beginnings f fd) (T : Txt mg) : Fn ⟨P, w, K, mg, base⟩ 1 f fd P__law_beginnings (up rLBegs) := by
  refine okA F sc__law_beginnings (fun args O Φ Ξ h => ?_) (fun cdv A outer s H E as0 F0 args O Φ Ξ hr h => ?_)
  · first | (obtain ⟨rfl, _⟩ := h; rfl) | (obtain ⟨_, rfl, _⟩ := h; rfl) | (obtain ⟨_, _, rfl, _⟩ := h; rfl) | (obtain ⟨_, _, _, rfl, _⟩ := h; rfl) | (obtain ⟨_, _, _, _, rfl, _⟩ := h; rfl) | (obtain ⟨_, _, _, _, _, rfl, _⟩ := h; rfl) | (obtain ⟨_, _, _, _, _, _, rfl, _⟩ := h; rfl) | (obtain ⟨_, _, _, _, _, _, _, rfl, _⟩ := h; rfl) | (obtain ⟨_, _, _, _, _, _, _, _, rfl, _⟩ := h; rfl) | (obtain ⟨_, _, _, _, _, _, _, _, _, rfl, _⟩ := h; rfl) | (obtain ⟨_, _, _, _, _, _, _, _, _, _, rfl, _⟩ := h; rfl) | (obtain ⟨_, _, _, _, _, _, _, _, _, _, _, rfl, _⟩ := h; rfl)
  · skip
    obtain ⟨m, z, rfl, hm, hz, few, cl, q⟩ := h
    have hfl := hm.fs.len
    have hn := hm.n1
    have hsl := hm.len
    have hzl := hz.len
    refine as_cons (as_set 2 sc__law_beginnings.nd (ae_lstO (aa_cons ?_)))
    refine ae_lc (own := [("_law_room", 3)]) (g := gName 3) rfl sc__law_beginnings.nd (blkOk_by (N := N__law_beginnings) (sc := defScope s__law_beginnings) (by decide +kernel)) (fun _ _ _ _ _ => (pg_name (i := 3) sc__law_beginnings.nd rfl (.inl rfl))) (wipes_name (by decide)) mono_name ?_
    refine lc_map (α := Nat) mono_name (ai_list ?_)
    repeat walk_at "go1"
    refine ⟨_, rfl, Nat.le_refl _, cl, m.fs, fun i => .d (iD i), fun r => rmsD [r], by rw [List.map_map]; rfl, by omega, fun _ => trivial, ?_, ?_⟩
    · intro r _ acc
      refine agr_name (fun _ _ _ _ _ => ae_lstD ?_)
      repeat walk_at "go1"
      exact ⟨[iD r], rfl, by show 1 ≤ 16000000; decide, rfl, rfl⟩
    have e0 : m.fs.map (fun r => rmsD [r]) = (m.fs.map fun r => [r]).map rmsD := by rw [List.map_map]; rfl
    rw [e0]
    repeat walk_at "go1"
    refine ⟨by show 1 ≤ 16000000; decide, ?_⟩
    repeat walk_at "go1"
    refine as_for PassesOwn.never rfl (ai_str ?_)
    repeat walk_at "go1"
    refine ⟨z, rfl, fun i ρ' O' => O' = O ++ [.lst ((((List.range (i + 1)).map fun j => prow m m.fs ((cds z).take j)).map pthsD).map PV.d)] ∧ ∃ (y1 y2 y3 y4 y5 y6 : Option PyData), ρ' = [some (.d (mD m)), some (pS z), some (.o O.length), y1.map PV.d, y2.map PV.d, y3.map PV.d, y4.map PV.d, y5.map PV.d, y6.map PV.d], ⟨rfl, none, none, none, none, none, none, rfl⟩, fun _ _ _ _ => trivial, ?_, ?_⟩
    · rintro i x ρ' O' hx ⟨rfl, y1, y2, y3, y4, y5, y6, rfl⟩
      unfold chrP at hx
      rw [List.getElem?_map, Option.map_eq_some_iff] at hx
      obtain ⟨c, hc, rfl⟩ := hx
      have hc' : (cds z)[i]? = some c := hc
      have hi : i < (cds z).length := (List.getElem?_eq_some_iff.mp hc').1
      have hi2 : i < 400 := by rw [cds_len] at hi; omega
      obtain ⟨row, erow⟩ : ∃ row, row = prow m m.fs ((cds z).take i) := ⟨_, rfl⟩
      have enext : prow m m.fs ((cds z).take (i + 1)) = pstep m.st row c := by rw [take_succ_of hc', prow_snoc, erow]
      have hfew : (pstep m.st row c).length ≤ 15000000 := by rw [← enext]; exact few _ (by omega)
      have hrow : row.length ≤ 15000000 := by rw [erow]; exact few _ (by omega)
      have hne : ∀ p ∈ row, p ≠ [] := by rw [erow]; exact prow_ne _ _ _
      have hpl : ∀ p ∈ row, p.length ≤ 1000 := fun p hp => by
        rw [erow] at hp
        rw [prow_pl _ _ _ p hp, List.length_take]
        omega
      refine ag_name 4 sc__law_beginnings.nd ?_
      refine as_cons (as_set 5 sc__law_beginnings.nd (ae_lstO ?_))
      repeat walk_at "go1"
      refine ⟨by decide, ?_⟩
      have el : ∀ l : List PV, (O ++ [AO.lst l] : Own).length = O.length + 1 := fun l => by simp
      rw [el]
      have hO1 : ∀ l l2 : List PV, (O ++ [AO.lst l] ++ [AO.lst l2])[O.length]? = some (AO.lst l) := fun l l2 => by
        rw [List.getElem?_append_left (by simp)]; simp
      have hO2 : ∀ l l2 : List PV, (O ++ [AO.lst l] ++ [AO.lst l2])[O.length + 1]? = some (AO.lst l2) := fun l l2 => by
        rw [List.getElem?_append_right (by simp)]; simp
      obtain ⟨rs, ers⟩ : ∃ rs, rs = (((List.range (i + 1)).map fun j => prow m m.fs ((cds z).take j)).map pthsD) := ⟨_, rfl⟩
      rw [← ers]
      have elast : atI (rs.map PV.d) (-1) = some (.d (pthsD row)) := by
        rw [ers, List.range_succ, List.map_append, List.map_append, List.map_append, erow]
        exact at_last _ _
      refine as_cons (as_for PassesOwn.never rfl (ai_list ?_))
      repeat walk_at "go1"
      refine ix_O (hO1 _ _) elast ?_
      refine ⟨_, rfl, fun a ρ' O' => O' = O ++ [.lst (rs.map PV.d)] ++ [.lst (((pstep m.st (row.take a) c).map rmsD).map PV.d)] ∧ ∃ (y1 y4 y5 y6 : Option PyData), ρ' = [some (.d (mD m)), some (pS z), some (.o O.length), y1.map PV.d, some (pS ⟨#[c]⟩), some (.o (O.length + 1)), y4.map PV.d, y5.map PV.d, y6.map PV.d], ⟨rfl, y1, y4, y5, y6, by rw [el]; rfl⟩, fun _ _ _ _ => trivial, ?_, ?_⟩
      · rintro a x ρ' O' hx ⟨rfl, y1, y4, y5, y6, rfl⟩
        rw [List.getElem?_map, Option.map_eq_some_iff] at hx
        obtain ⟨d, hd, rfl⟩ := hx
        rw [List.getElem?_map, Option.map_eq_some_iff] at hd
        obtain ⟨one, hone, rfl⟩ := hd
        have hmem : one ∈ row := List.mem_of_getElem? hone
        have estep : ∀ st, pstep st (row.take (a + 1)) c = pstep st (row.take a) c ++ (st.filter fun s => decide (s.1 = lastR one) && decide (s.2.1 = c)).map fun s => one ++ [s.2.2] := fun st => by
          unfold pstep
          rw [take_succ_of hone, List.flatMap_append, List.flatMap_cons, List.flatMap_nil, List.append_nil]
        have hle : (pstep m.st (row.take (a + 1)) c).length ≤ 15000000 := by
          refine Nat.le_trans ?_ hfew
          unfold pstep
          conv => rhs; rw [← List.take_append_drop (a + 1) row, List.flatMap_append, List.length_append]
          omega
        refine ag_name 6 sc__law_beginnings.nd ?_
        refine as_cons (as_for PassesOwn.never rfl (ai_list ?_))
        repeat walk_at "go1"
        refine ⟨_, rfl, fun b ρ' O' => O' = O ++ [.lst (rs.map PV.d)] ++ [.lst (((pstep m.st (row.take a) c ++ ((m.st.take b).filter fun s => decide (s.1 = lastR one) && decide (s.2.1 = c)).map fun s => one ++ [s.2.2]).map rmsD).map PV.d)] ∧ ∃ (y1 y5 y6 : Option PyData), ρ' = [some (.d (mD m)), some (pS z), some (.o O.length), y1.map PV.d, some (pS ⟨#[c]⟩), some (.o (O.length + 1)), some (.d (rmsD one)), y5.map PV.d, y6.map PV.d], ⟨by rw [List.take_zero, List.filter_nil, List.map_nil, List.append_nil], y1, y5, y6, rfl⟩, fun _ _ _ _ => trivial, ?_, ?_⟩
        · rintro b x ρ' O' hx ⟨rfl, y1, y5, y6, rfl⟩
          rw [List.getElem?_map, Option.map_eq_some_iff] at hx
          obtain ⟨d, hd, rfl⟩ := hx
          rw [List.getElem?_map, Option.map_eq_some_iff] at hd
          obtain ⟨t, ht, rfl⟩ := hd
          have hlen : (pstep m.st (row.take a) c ++ ((m.st.take b).filter fun s => decide (s.1 = lastR one) && decide (s.2.1 = c)).map fun s => one ++ [s.2.2]).length ≤ 15000000 := by
            refine Nat.le_trans ?_ hle
            rw [estep, List.length_append, List.length_append, List.length_map, List.length_map]
            have : ((m.st.take b).filter fun s => decide (s.1 = lastR one) && decide (s.2.1 = c)).length ≤ (m.st.filter fun s => decide (s.1 = lastR one) && decide (s.2.1 = c)).length := ((List.take_sublist b m.st).filter _).length_le
            omega
          refine ag_tup rfl (ags_cons (ag_name 3 sc__law_beginnings.nd (ags_cons (ag_name 7 sc__law_beginnings.nd (ags_cons (ag_name 8 sc__law_beginnings.nd (ags_nil ?_)))))))
          refine as_cons ?_
          repeat walk_at "go1"
          refine ix_L (at_lastR (hne one hmem)) ?_
          repeat walk_at "go1"
          have no : ¬ (t.1 = lastR one ∧ t.2.1 = c) → ((m.st.take (b + 1)).filter fun s => decide (s.1 = lastR one) && decide (s.2.1 = c)) = (m.st.take b).filter fun s => decide (s.1 = lastR one) && decide (s.2.1 = c) := fun h => by
            rw [take_succ_of ht, List.filter_append]
            have : ([t].filter fun s => decide (s.1 = lastR one) && decide (s.2.1 = c)) = [] := by
              rw [List.filter_cons, if_neg (by rw [Bool.and_eq_true, decide_eq_true_eq, decide_eq_true_eq]; exact h)]; rfl
            rw [this, List.append_nil]
          refine ifd (fun h1 => ?_) (fun h1 => ?_)
          · repeat walk_at "go1"
            refine ifd (fun h2 => ?_) (fun h2 => ?_)
            · have e2 : t.2.1 = c := by
                have := congrArg Str.cps h2
                simpa using this
              have e1 : t.1 = lastR one := by omega
              repeat walk_at "go1"
              refine ⟨ty_O (hO2 _ _), ?_⟩
              repeat walk_at "go1"
              refine ae_lstD ?_
              repeat walk_at "go1"
              refine ⟨[iD t.2.2], rfl, by show 1 ≤ 16000000; decide, ?_⟩
              refine b_addL (sz (by rw [List.length_map]; have := hpl one hmem; show one.length + 1 ≤ 16000000; omega)) ?_
              repeat walk_at "go1"
              refine m_append (hO2 _ _) (by rw [List.length_map, List.length_map]; omega) ?_
              refine as_nil (as_nil (.keep ⟨?_, some (iD t.1), some (sgD t.2.1), some (iD t.2.2), rfl⟩))
              rw [take_succ_of ht, List.filter_append]
              have : ([t].filter fun s => decide (s.1 = lastR one) && decide (s.2.1 = c)) = [t] := by
                rw [List.filter_cons, if_pos (by rw [Bool.and_eq_true, decide_eq_true_eq, decide_eq_true_eq]; exact ⟨e1, e2⟩)]; rfl
              rw [this, List.set_append_right _ _ (by simp)]
              simp
            · refine as_nil (as_nil (.keep ⟨?_, some (iD t.1), some (sgD t.2.1), some (iD t.2.2), rfl⟩))
              rw [no (fun h => h2 (by rw [h.2]))]
          · repeat walk_at "go1"
            refine .keep ⟨?_, some (iD t.1), some (sgD t.2.1), some (iD t.2.2), rfl⟩
            rw [no (fun h => h1 (by omega))]
        · rintro ρ' O' ⟨rfl, y1, y5, y6, rfl⟩
          rw [List.length_map, List.length_map, List.take_length, ← estep]
          exact as_nil (.keep ⟨rfl, y1, some (rmsD one), y5, y6, rfl⟩)
      · rintro ρ' O' ⟨rfl, y1, y4, y5, y6, rfl⟩
        rw [List.length_map, List.length_map, List.take_length]
        refine as_cons ?_
        repeat walk_at "go1"
        refine ⟨ty_O (hO1 _ _), ?_⟩
        repeat walk_at "go1"
        refine m_append (hO1 _ _) (by rw [ers]; simp; omega) ?_
        have e9 : ∀ l l2 l3 : List PV, (O ++ [AO.lst l] ++ [AO.lst l2]).set O.length (.lst l3) = O ++ [AO.lst l3] ++ [AO.lst l2] := fun l l2 l3 => by
          rw [List.set_append_left _ _ (by simp), List.set_append_right _ _ (Nat.le_refl _)]
          simp
        rw [e9]
        refine as_nil (sgh_nest (ds := (pstep m.st row c).map rmsD) cl (by simp) ?_ ⟨?_, y1, some (pS ⟨#[c]⟩) |>.elim none (fun _ => some (.str ⟨#[c]⟩)), some (pthsD (pstep m.st row c)), y4, y5, y6, ?_⟩)
        · simp only [frzE, List.map_cons, List.map_nil, frz_dat]
          cases y1 <;> cases y4 <;> cases y5 <;> cases y6 <;> simp [PV.frz, PV.blw]
        · rw [ers, ← enext, List.range_succ (n := i + 1), List.map_append (l₁ := List.range (i + 1)), List.map_append (f := pthsD)]
          rfl
        · simp only [frzE, List.map_cons, List.map_nil, frz_dat]
          simp [PV.frz]
    · rintro ρ' O' ⟨rfl, y1, y2, y3, y4, y5, y6, rfl⟩
      have e : (chrP z).length = (cds z).length := by unfold chrP; rw [List.length_map]
      rw [e]
      refine as_cons ?_
      repeat walk_at "go1"
      exact gh_list0 cl (Nat.le_refl _) q
theorem ok__law_ways {f : Addr} {fd : FuncData} (F : Fun K "_law_ways" "_law_ways" s__law_ways f fd) (T : Txt mg) (E1 : D__law_beginnings ⟨P, w, K, mg, base⟩) : Fn ⟨P, w, K, mg, base⟩ 2 f fd P__law_ways (up rLWays) := by
  refine okA F sc__law_ways (fun args O Φ Ξ h => ?_) (fun cdv A outer s H E as0 F0 args O Φ Ξ hr h => ?_)
  · first | (obtain ⟨rfl, _⟩ := h; rfl) | (obtain ⟨_, rfl, _⟩ := h; rfl) | (obtain ⟨_, _, rfl, _⟩ := h; rfl) | (obtain ⟨_, _, _, rfl, _⟩ := h; rfl) | (obtain ⟨_, _, _, _, rfl, _⟩ := h; rfl) | (obtain ⟨_, _, _, _, _, rfl, _⟩ := h; rfl) | (obtain ⟨_, _, _, _, _, _, rfl, _⟩ := h; rfl) | (obtain ⟨_, _, _, _, _, _, _, rfl, _⟩ := h; rfl) | (obtain ⟨_, _, _, _, _, _, _, _, rfl, _⟩ := h; rfl) | (obtain ⟨_, _, _, _, _, _, _, _, _, rfl, _⟩ := h; rfl) | (obtain ⟨_, _, _, _, _, _, _, _, _, _, rfl, _⟩ := h; rfl) | (obtain ⟨_, _, _, _, _, _, _, _, _, _, _, rfl, _⟩ := h; rfl)
  · skip
    obtain ⟨m, z, rfl, hm, hz, few, cl, q⟩ := h
    refine as_cons (as_ret ?_)
    refine ae_lc (own := [("_law_one", 2)]) (g := gName 2) rfl sc__law_ways.nd (blkOk_by (N := N__law_ways) (sc := defScope s__law_ways) (by decide +kernel)) (fun _ _ _ _ _ => (pg_name (i := 2) sc__law_ways.nd rfl (.inl rfl))) (wipes_name (by decide)) mono_name ?_
    refine lc_pure (α := List Nat) mono_name (ai_list ?_)
    repeat walk_at "go1"
    refine ⟨m, z, rfl, hm, hz, few, cl, ?_⟩
    repeat walk_at "go1"
    refine ix_L (prows_last _ _ _) ?_
    have h0 := few (cds z).length (Nat.le_refl _)
    rw [List.take_length] at h0
    refine ⟨_, rfl, Nat.le_refl _, cl, prow m m.fs (cds z), fun p => .d (rmsD p), fun p => if decide (lastR p ∈ m.ls) = true then some (rmsD p) else none, by rw [List.map_map]; rfl, by omega, fun _ => trivial, ?_, ?_⟩
    · intro p hp acc
      refine agr_name (fun _ _ _ _ _ => ats_one ?_)
      repeat walk_at "go1"
      refine ix_L (at_lastR (prow_ne _ _ _ p hp)) ?_
      repeat walk_at "go1"
      refine b_inL (hu65 hr) ((shp_int _).sh (Nat.zero_le _)) ((shp_rms (k := 0) _).sh (by decide)) ?_
      rw [any_rms]
      refine isB_mk (ifd (fun h1 => ?_) (fun h1 => ?_))
      · intro _ _ _ _ _
        repeat walk_at "go1"
        exact ⟨rfl, _, if_pos (decide_eq_true h1), rfl⟩
      · exact ⟨rfl, if_neg (by rw [decide_eq_false h1]; exact Bool.false_ne_true)⟩
    · rw [fm_filter]
      exact .keep q
end
end K13
set_option pp.maxSteps 1200
namespace K13
open PySem PySem.Spec L2 Al
open PyProof.Rows hiding St
local macro_rules | `(tactic| walk_at "v") => `(tactic| first | refine ae_var 0 rfl ?_ | refine ae_var 1 rfl ?_ | refine ae_var 2 rfl ?_ | refine ae_var 3 rfl ?_ | refine ae_var 4 rfl ?_ | refine ae_var 5 rfl ?_ | refine ae_var 6 rfl ?_ | refine ae_var 7 rfl ?_ | refine ae_var 8 rfl ?_ | refine ae_var 9 rfl ?_ | refine ae_var 10 rfl ?_ | refine ae_var 11 rfl ?_ | refine ae_var 12 rfl ?_ | refine ae_var 13 rfl ?_ | refine ae_var 14 rfl ?_ | refine ae_var 15 rfl ?_ | refine ae_var 16 rfl ?_ | refine ae_var 17 rfl ?_ | refine ae_var 18 rfl ?_ | refine ae_var 19 rfl ?_ | refine ae_ty (Txt.int_ ‹_›) boot_int ?_ | refine ae_ty (Txt.str_ ‹_›) boot_str ?_ | refine ae_ty (Txt.bool_ ‹_›) boot_bool ?_ | refine ae_ty (Txt.list_ ‹_›) boot_list ?_ | refine ae_ty (Txt.tuple_ ‹_›) boot_tuple ?_ | refine ae_globS (Txt.LETTERS ‹_›).choose_spec ?_ | refine ae_globI (Txt.MOST_ROOMS ‹_›).choose_spec ?_ | refine ae_globI (Txt.MOST_STEPS ‹_›).choose_spec ?_ | refine ae_globI (Txt.MOST_WORD ‹_›).choose_spec ?_)
local macro_rules | `(tactic| walk_at "ge") => `(tactic| first
  | ((with_reducible show ite (true = true) _ _); refine iteT ?_)
  | ((with_reducible show ite (false = true) _ _); refine iteF ?_)
  | ((with_reducible show ite ((!true) = true) _ _); refine iteF ?_)
  | ((with_reducible show ite ((!false) = true) _ _); refine iteT ?_)
  | ((with_reducible show IsB _ _ _); refine isB_mk ?_)
  | ((with_reducible show AE _ (Expr.Name _ _) _ _ _); walk_at "v")
  | ((with_reducible show AE _ (Expr.Constant (Const.int _) _ _) _ _ _); refine ae_int ?_)
  | ((with_reducible show AE _ (Expr.Constant (Const.str _) _ _) _ _ _); refine ae_str ?_)
  | ((with_reducible show AE _ (Expr.Constant (Const.bool _) _ _) _ _ _); refine ae_bl ?_)
  | ((with_reducible show AE _ (Expr.Constant Const.none _ _) _ _ _); refine ae_non ?_)
  | ((with_reducible show AO1 _ (some _) _ _ _); refine ao_some ?_)
  | ((with_reducible show AO1 _ none _ _ _); refine ao_none ?_)
  | ((with_reducible show AE _ (Expr.BinOp _ _ _ _) _ _ _); refine ae_bin ?_)
  | ((with_reducible show AE _ (Expr.Compare _ [_] [_] _) _ _ _); refine ae_cmp ?_)
  | ((with_reducible show AE _ (Expr.Compare _ [_, _] [_, _] _) _ _ _); refine ae_chain ?_)
  | ((with_reducible show AE _ (Expr.Subscript _ (Expr.Slice none none (some _) _) _) _ _ _); refine ae_revS ?_)
  | ((with_reducible show AE _ (Expr.Subscript _ (Expr.Slice _ _ _ _) _) _ _ _); fail)
  | ((with_reducible show AE _ (Expr.Subscript _ _ _) _ _ _); refine ae_ix ?_)
  | ((with_reducible show AE _ (Expr.BoolOp _ [_] _) _ _ _); refine ae_one ?_)
  | ((with_reducible show AE _ (Expr.BoolOp BoolOp.And _ _) _ _ _); refine ae_and ?_)
  | ((with_reducible show AE _ (Expr.BoolOp BoolOp.Or _ _) _ _ _); refine ae_or ?_)
  | ((with_reducible show AE _ (Expr.UnaryOp UnaryOp.Not _ _) _ _ _); refine ae_not ?_)
  | ((with_reducible show AE _ (Expr.UnaryOp _ _ _) _ _ _); refine ae_un ?_)
  | ((with_reducible show AE _ (Expr.IfExp _ _ _ _) _ _ _); refine ae_if ?_)
  | ((with_reducible show AT _ (Expr.Compare _ [_] [_] _) _ _ _); refine at_cmp ?_)
  | ((with_reducible show AT _ (Expr.Compare _ [_, _] [_, _] _) _ _ _); refine at_chain ?_)
  | ((with_reducible show AT _ (Expr.UnaryOp UnaryOp.Not _ _) _ _ _); refine at_not ?_)
  | ((with_reducible show AT _ (Expr.BoolOp _ _ _) _ _ _); refine at_w ?_)
  | ((with_reducible show AT _ (Expr.Call _ _ _ _) _ _ _); refine at_val ?_)
  | ((with_reducible show AT _ (Expr.Name _ _) _ _ _); refine at_val ?_)
  | ((with_reducible show AW _ (Expr.BoolOp BoolOp.And [_] _) _ _ _); refine aw_and1 ?_)
  | ((with_reducible show AW _ (Expr.BoolOp BoolOp.Or [_] _) _ _ _); refine aw_or1 ?_)
  | ((with_reducible show AW _ (Expr.BoolOp BoolOp.And _ _) _ _ _); refine aw_and ?_)
  | ((with_reducible show AW _ (Expr.BoolOp BoolOp.Or _ _) _ _ _); refine aw_or ?_)
  | ((with_reducible show AA _ [] _ _ _); refine aa_nil ?_)
  | ((with_reducible show AA _ (_ :: _) _ _ _); refine aa_cons ?_)
  | ((with_reducible show BinA _ (binaryOp Operator.Add) (PV.d (PyData.int _)) (PV.d (PyData.int _)) _ _); refine b_add ?_)
  | ((with_reducible show BinA _ (binaryOp Operator.Sub) (PV.d (PyData.int _)) (PV.d (PyData.int _)) _ _); refine b_sub ?_)
  | ((with_reducible show BinA _ (compareOp CmpOp.Lt) (PV.d (PyData.int _)) (PV.d (PyData.int _)) _ _); refine b_lt ?_)
  | ((with_reducible show BinA _ (compareOp CmpOp.LtE) (PV.d (PyData.int _)) (PV.d (PyData.int _)) _ _); refine b_le ?_)
  | ((with_reducible show BinA _ (compareOp CmpOp.Gt) (PV.d (PyData.int _)) (PV.d (PyData.int _)) _ _); refine b_gt ?_)
  | ((with_reducible show BinA _ (compareOp CmpOp.GtE) (PV.d (PyData.int _)) (PV.d (PyData.int _)) _ _); refine b_ge ?_)
  | ((with_reducible show BinA _ (compareOp CmpOp.Eq) (PV.d (PyData.int _)) (PV.d (PyData.int _)) _ _); refine b_eqI ?_)
  | ((with_reducible show BinA _ (compareOp CmpOp.NotEq) (PV.d (PyData.int _)) (PV.d (PyData.int _)) _ _); refine b_neI ?_)
  | ((with_reducible show BinA _ (compareOp CmpOp.Eq) (PV.d (PyData.str _)) (PV.d (PyData.str _)) _ _); refine b_eqS ?_)
  | ((with_reducible show BinA _ (compareOp CmpOp.NotEq) (PV.d (PyData.str _)) (PV.d (PyData.str _)) _ _); refine b_neS ?_)
  | ((with_reducible show BinA _ (compareOp CmpOp.LtE) (PV.d (PyData.str _)) (PV.d (PyData.str _)) _ _); refine b_leS ?_)
  | ((with_reducible show BinA _ (compareOp CmpOp.Lt) (PV.d (PyData.str _)) (PV.d (PyData.str _)) _ _); refine b_ltS ?_)
  | ((with_reducible show BinA _ (compareOp CmpOp.Eq) (PV.d (PyData.bool _)) (PV.d (PyData.bool _)) _ _); refine b_eqB ?_)
  | ((with_reducible show AE _ (Expr.Call (Expr.Name "int" _) _ [] _) _ _ _); refine ae_callTy rfl (Txt.int_ ‹_›) boot_int ?_)
  | ((with_reducible show AE _ (Expr.Call (Expr.Name "isinstance" _) _ [] _) _ _ _); refine ae_callB rfl (Txt.isi_ ‹_›) boot_isinstance ?_)
  | ((with_reducible show AE _ (Expr.Call (Expr.Name "len" _) _ [] _) _ _ _); refine ae_callB rfl (Txt.len_ ‹_›) PySem.boot_len ?_)
  | ((with_reducible show AE _ (Expr.Call (Expr.Name "list" _) _ [] _) _ _ _); refine ae_callTy rfl (Txt.list_ ‹_›) boot_list ?_)
  | ((with_reducible show AE _ (Expr.Call (Expr.Name "max" _) _ [] _) _ _ _); refine ae_callB rfl (Txt.max_ ‹_›) boot_max ?_)
  | ((with_reducible show AE _ (Expr.Call (Expr.Name "min" _) _ [] _) _ _ _); refine ae_callB rfl (Txt.min_ ‹_›) boot_min ?_)
  | ((with_reducible show AE _ (Expr.Call (Expr.Name "repr" _) _ [] _) _ _ _); refine ae_callB rfl (Txt.repr_ ‹_›) PyProof.Rows.boot_repr ?_)
  | ((with_reducible show AE _ (Expr.Call (Expr.Name "sum" _) _ [] _) _ _ _); refine ae_callB rfl (Txt.sum_ ‹_›) boot_sum ?_)
  | ((with_reducible show AE _ (Expr.Call (Expr.Name "look_at" _) _ [] _) _ _ _); refine ae_callA ‹D_look_at _› (RoomG.mono ‹_› (by first | decide | omega)) ?_)
  | ((with_reducible show AE _ (Expr.Call (Expr.Name "look_at_word" _) _ [] _) _ _ _); refine ae_callA ‹D_look_at_word _› (RoomG.mono ‹_› (by first | decide | omega)) ?_)
  | ((with_reducible show AE _ (Expr.Call (Expr.Name "alone_at" _) _ [] _) _ _ _); refine ae_callF ‹D_alone_at _› (RoomG.mono ‹_› (by first | decide | omega)) ?_)
  | ((with_reducible show AE _ (Expr.Call (Expr.Name "sum_at" _) _ [] _) _ _ _); refine ae_callA ‹D_sum_at _› (RoomG.mono ‹_› (by first | decide | omega)) ?_)
  | ((with_reducible show CallA _ (Value.builtin "isinstance") [PV.d _, PV.v (V.ty "int")] _ _); refine c_isInt ?_)
  | ((with_reducible show CallA _ (Value.builtin "isinstance") [PV.d _, PV.v (V.ty "str")] _ _); refine c_isStr ?_)
  | ((with_reducible show CallA _ (Value.builtin "isinstance") [PV.d _, PV.v (V.ty "bool")] _ _); refine c_isBool ?_)
  | ((with_reducible show CallA _ (Value.builtin "isinstance") [PV.d _, PV.v (V.ty "list")] _ _); refine c_isList ?_)
  | ((with_reducible show CallA _ (Value.builtin "isinstance") [PV.d _, PV.v (V.ty "tuple")] _ _); refine c_isTup ?_)
  | ((with_reducible show CallA _ (Value.builtin "len") [PV.d (PyData.list _)] _ _); refine c_lenL ?_)
  | ((with_reducible show CallA _ (Value.builtin "len") [PV.d (PyData.tuple _)] _ _); refine c_lenT ?_)
  | ((with_reducible show CallA _ (Value.builtin "sum") [PV.d (PyData.list (List.map PyData.int _))] _ _); refine c_sum rfl ?_)
  | ((with_reducible show CallA _ (Value.type "int") [PV.d (PyData.bool _)] _ _); refine c_intB ?_)
  | ((with_reducible show AE _ (Expr.Call (Expr.Attribute _ "append" _) _ _ _) _ _ _); refine ae_bm PySem.F.plainAttrs_list PySem.F.slot_list_append PySem.F.type_list_append ?_)
  | ((with_reducible show BinA _ (inplaceOp Operator.Add) (PV.d (PyData.int _)) (PV.d (PyData.int _)) _ _); refine ib_add ?_)
  | ((with_reducible show UnA _ (unaryOp UnaryOp.USub) (PV.d (PyData.int _)) _ _); refine u_neg ?_)
  | ((with_reducible show IxA _ (PV.d (mD _)) (PV.d (PyData.int 0)) _ _); refine ixm0 ?_)
  | ((with_reducible show IxA _ (PV.d (mD _)) (PV.d (PyData.int 1)) _ _); refine ixm1 ?_)
  | ((with_reducible show IxA _ (PV.d (mD _)) (PV.d (PyData.int 2)) _ _); refine ixm2 ?_)
  | ((with_reducible show IxA _ (PV.d (mD _)) (PV.d (PyData.int 3)) _ _); refine ixm3 ?_)
  | ((with_reducible show IxA _ (PV.d (stD _)) (PV.d (PyData.int 0)) _ _); refine ixs0 ?_)
  | ((with_reducible show IxA _ (PV.d (stD _)) (PV.d (PyData.int 1)) _ _); refine ixs1 ?_)
  | ((with_reducible show IxA _ (PV.d (stD _)) (PV.d (PyData.int 2)) _ _); refine ixs2 ?_))
local macro_rules | `(tactic| walk_at "go1") => `(tactic| first
  | walk_at "ge"
  | ((with_reducible show ASs _ (_ :: _) _ _ _); refine as_cons ?_)
  | ((with_reducible show ASs _ [] _ _ _); refine as_nil ?_)
  | ((with_reducible show AS _ (Stmt.Return (some _) _) _ _ _); refine as_ret ?_)
  | ((with_reducible show AS _ (Stmt.If _ _ _ _) _ _ _); refine as_if ?_)
  | ((with_reducible show AS _ (Stmt.Expr _ _) _ _ _); refine as_expr ?_))
section
variable {P : Program} {w : World} {K : PySem.W.Frag} {mg : Str → Option Value} {base : Heap}
theorem ok_weighed {f : Addr} {fd : FuncData} {Rn : RX} (F : Fun K "weighed" "weighed" s_weighed f fd) (T : Txt mg) (E1 : D_look_at ⟨P, w, K, mg, base⟩) (E2 : D_look_at_word ⟨P, w, K, mg, base⟩) (E3 : D_alone_at ⟨P, w, K, mg, base⟩) (E4 : D_sum_at ⟨P, w, K, mg, base⟩) : FnC ⟨P, w, K, mg, base⟩ 1 3 Rn 6 f fd P_weighed (rWeighed Rn) := by
  refine okFC F sc_weighed (fun C caps args O Φ Ξ h => ?_) (fun cdv A outer s H E as0 F0 C caps args O Φ Ξ hr h CX => ?_)
  · obtain ⟨m, t, fu, rfl, _⟩ := h
    rfl
  · obtain ⟨m, t, fu, rfl, hm, hz, cl, hf, tl, q⟩ := h
    have hn := hm.n1
    have hlen := hz.len
    have hml := hm.len
    refine as_cons (as_expr ?_)
    repeat walk_at "ge"
    refine ⟨m, rfl, hm, cl, ?_⟩
    refine as_cons (as_expr ?_)
    repeat walk_at "ge"
    refine ⟨t, rfl, hz, ?_⟩
    refine as_cons (as_set 3 sc_weighed.nd ?_)
    repeat walk_at "ge"
    refine ⟨m, m.fs, rfl, by omega, gh_list0 cl (Nat.le_refl _) ?_⟩
    have lv0 : ∀ cs, (wvs fu m (alone m.n m.fs) cs).length = m.n := fun cs => wvs_len fu m _ (alone_len _ _)
    refine as_cons ?_
    refine as_for PassesOwn.never rfl (ai_str ?_)
    repeat walk_at "ge"
    refine ⟨t, rfl, fun i ρ' O' => O = O' ∧ ∃ (y4 y5 y6 y7 y8 : Option PyData), ρ' = [some (.d (mD m)), some (pS t), some (.fn C), some (.d (vD (wvs fu m (alone m.n m.fs) ((cds t).take i)))), y4.map PV.d, y5.map PV.d, y6.map PV.d, y7.map PV.d, y8.map PV.d], ⟨rfl, none, none, none, none, none, rfl⟩, fun _ _ _ _ => trivial, ?_, ?_⟩
    · rintro i x ρ' O' hx ⟨rfl, y4, y5, y6, y7, y8, rfl⟩
      unfold chrP at hx
      rw [List.getElem?_map, Option.map_eq_some_iff] at hx
      obtain ⟨c, hc, rfl⟩ := hx
      have hil : i < (cds t).length := (List.getElem?_eq_some_iff.mp (show (cds t)[i]? = some c from hc)).1
      have hi4 : i < 400 := by rw [cds_len] at hil; omega
      have hvb := wvs_le hf hm (cds t) i (by omega)
      obtain ⟨v, hv⟩ : ∃ v, v = wvs fu m (alone m.n m.fs) ((cds t).take i) := ⟨_, rfl⟩
      have hvl : v.length = m.n := by rw [hv]; exact lv0 _
      rw [← hv] at hvb ⊢
      refine ag_name 4 sc_weighed.nd ?_
      refine as_cons (as_set 5 sc_weighed.nd (ae_bin (ae_lstD ?_)))
      repeat walk_at "ge"
      refine ⟨[.int 0], rfl, by decide, ?_⟩
      repeat walk_at "ge"
      refine b_repO (by omega) (by omega) (sz (by simp; omega)) ?_
      refine as_cons ?_
      refine as_for PassesOwn.never rfl (ai_list ?_)
      repeat walk_at "ge"
      refine ⟨_, rfl, fun j ρ' O' => O' = O ++ [.lst ((wvd fu m.n (m.st.take j) v c).map pI)] ∧ ∃ (y6 y7 y8 : Option PyData), ρ' = [some (.d (mD m)), some (pS t), some (.fn C), some (.d (vD v)), some (pS ⟨#[c]⟩), some (.o O.length), y6.map PV.d, y7.map PV.d, y8.map PV.d], ⟨?_, y6, y7, y8, rfl⟩, fun _ _ _ _ => trivial, ?_, ?_⟩
      · rw [List.take_zero, wvd_nil, List.map_replicate, Int.toNat_natCast]
        show _ ++ [AO.lst (List.replicate m.n [pI 0]).flatten] = _
        rw [rep_one]
      · rintro j x ρ' O' hx ⟨rfl, y6, y7, y8, rfl⟩
        rw [List.getElem?_map, Option.map_eq_some_iff] at hx
        obtain ⟨d, hd, rfl⟩ := hx
        rw [List.getElem?_map, Option.map_eq_some_iff] at hd
        obtain ⟨s1, ht, rfl⟩ := hd
        have ho := hm.st s1 (List.mem_of_getElem? ht)
        have ha := ho.a
        have hb := ho.b
        refine ag_tup rfl (ags_cons (ag_name 6 sc_weighed.nd (ags_cons (ag_name 7 sc_weighed.nd (ags_cons (ag_name 8 sc_weighed.nd (ags_nil ?_)))))))
        have hO : (O ++ [AO.lst ((wvd fu m.n (m.st.take j) v c).map pI)])[O.length]? = some (AO.lst ((wvd fu m.n (m.st.take j) v c).map pI)) := by simp
        have clO : ClO (O ++ [AO.lst ((wvd fu m.n (m.st.take j) v c).map pI)]) := cl_app cl (by simp [AO.below, PV.blw])
        refine as_cons ?_
        repeat walk_at "go1"
        refine ifd (fun e => ?_) (fun e => ?_)
        · have e2 : s1.2.1 = c := by
            have := congrArg Str.cps e
            simpa using this
          have hx := getD_of (v := wvd fu m.n (m.st.take j) v c) (i := s1.2.2) (by rw [wvd_len]; exact hb)
          repeat walk_at "go1"
          refine as_augL ?_
          repeat walk_at "go1"
          refine ⟨O.length, s1.2.2, _, pI ((wvd fu m.n (m.st.take j) v c).getD s1.2.2 0), rfl, rfl, by omega, by omega, hO, ?_, ?_⟩
          · rw [Int.toNat_natCast, List.getElem?_map, hx]; rfl
          · repeat walk_at "go1"
            refine ix_V isV_d (by omega) ?_
            refine ae_callV 2 CX hr (by decide) rfl ?_
            repeat walk_at "ge"
            refine tl s1.1 s1.2.1 s1.2.2 [AO.lst ((wvd fu m.n (m.st.take j) v c).map pI)] _ _ ha hb clO ?_
            refine b_mulW (mulW (hvb s1.1) (hf _ _ _ (by omega) (by omega)) (by omega)) ?_
            repeat walk_at "go1"
            refine ⟨hO, as_nil (as_nil (.keep ⟨?_, some (iD s1.1), some (sgD s1.2.1), some (iD s1.2.2), rfl⟩))⟩
            rw [take_succ_of ht, wvd_yes e2 hx, Int.toNat_natCast]
            simp [List.map_set]
        · have e2 : ¬ s1.2.1 = c := fun e3 => e (by rw [e3])
          refine as_nil (as_nil (.keep ⟨?_, some (iD s1.1), some (sgD s1.2.1), some (iD s1.2.2), rfl⟩))
          rw [take_succ_of ht, wvd_no e2]
      · rintro ρ' O' ⟨rfl, y6, y7, y8, rfl⟩
        rw [List.length_map, List.length_map, List.take_length]
        refine as_cons (as_set 3 sc_weighed.nd (ae_var 5 rfl ?_))
        refine as_nil ?_
        obtain ⟨W, hW⟩ : ∃ W, W = wvd fu m.n m.st v c := ⟨_, rfl⟩
        have hnext : W = wvs fu m (alone m.n m.fs) ((cds t).take (i + 1)) := by
          rw [take_succ_of (show (cds t)[i]? = some c from hc), wvs_snoc, ← hv, hW]
        rw [← hW, show W.map pI = (W.map PyData.int).map PV.d by rw [List.map_map]; rfl]
        refine .frL O.length (ds := W.map PyData.int) get_at0 ?_
        have eO : frzO O.length (.list (W.map PyData.int)) (O ++ [.lst ((W.map PyData.int).map PV.d)]) = O ++ [.gone] := frzO_last cl rfl
        rw [eO]
        refine .drop O.length (Nat.le_refl _) ?_ (by rw [take_app]; exact cl) (.keep ?_)
        · cases y6 <;> cases y7 <;> cases y8 <;> simp [frzE, PV.frz, PV.blw]
        · rw [take_app]
          refine ⟨rfl, some (.str ⟨#[c]⟩), some (vD W), y6, y7, y8, ?_⟩
          rw [← hnext]
          cases y6 <;> cases y7 <;> cases y8 <;> simp [frzE, PV.frz]
    · rintro ρ' O' ⟨rfl, y4, y5, y6, y7, y8, rfl⟩
      refine as_cons (as_ret ?_)
      repeat walk_at "ge"
      have eL : (chrP t).length = (cds t).length := by unfold chrP; rw [List.length_map]
      rw [eL, List.take_length]
      exact ⟨_, _, _, rfl, isV_d, fun r hr9 => by rw [lv0]; exact hm.ls.lt r hr9, by have := hm.ls.len; omega, cl, .keep q⟩
end
end K13
set_option pp.maxSteps 1200
namespace K13
open PySem PySem.Spec L2 Al
open PyProof.Rows hiding St
local macro_rules | `(tactic| walk_at "v") => `(tactic| first | refine ae_var 0 rfl ?_ | refine ae_var 1 rfl ?_ | refine ae_var 2 rfl ?_ | refine ae_var 3 rfl ?_ | refine ae_var 4 rfl ?_ | refine ae_var 5 rfl ?_ | refine ae_var 6 rfl ?_ | refine ae_var 7 rfl ?_ | refine ae_var 8 rfl ?_ | refine ae_var 9 rfl ?_ | refine ae_var 10 rfl ?_ | refine ae_var 11 rfl ?_ | refine ae_var 12 rfl ?_ | refine ae_var 13 rfl ?_ | refine ae_var 14 rfl ?_ | refine ae_var 15 rfl ?_ | refine ae_var 16 rfl ?_ | refine ae_var 17 rfl ?_ | refine ae_var 18 rfl ?_ | refine ae_var 19 rfl ?_ | refine ae_ty (Txt.int_ ‹_›) boot_int ?_ | refine ae_ty (Txt.str_ ‹_›) boot_str ?_ | refine ae_ty (Txt.bool_ ‹_›) boot_bool ?_ | refine ae_ty (Txt.list_ ‹_›) boot_list ?_ | refine ae_ty (Txt.tuple_ ‹_›) boot_tuple ?_ | refine ae_globS (Txt.LETTERS ‹_›).choose_spec ?_ | refine ae_globI (Txt.MOST_ROOMS ‹_›).choose_spec ?_ | refine ae_globI (Txt.MOST_STEPS ‹_›).choose_spec ?_ | refine ae_globI (Txt.MOST_WORD ‹_›).choose_spec ?_)
local macro_rules | `(tactic| walk_at "ge") => `(tactic| first
  | ((with_reducible show ite (true = true) _ _); refine iteT ?_)
  | ((with_reducible show ite (false = true) _ _); refine iteF ?_)
  | ((with_reducible show ite ((!true) = true) _ _); refine iteF ?_)
  | ((with_reducible show ite ((!false) = true) _ _); refine iteT ?_)
  | ((with_reducible show IsB _ _ _); refine isB_mk ?_)
  | ((with_reducible show AE _ (Expr.Name _ _) _ _ _); walk_at "v")
  | ((with_reducible show AE _ (Expr.Constant (Const.int _) _ _) _ _ _); refine ae_int ?_)
  | ((with_reducible show AE _ (Expr.Constant (Const.str _) _ _) _ _ _); refine ae_str ?_)
  | ((with_reducible show AE _ (Expr.Constant (Const.bool _) _ _) _ _ _); refine ae_bl ?_)
  | ((with_reducible show AE _ (Expr.Constant Const.none _ _) _ _ _); refine ae_non ?_)
  | ((with_reducible show AO1 _ (some _) _ _ _); refine ao_some ?_)
  | ((with_reducible show AO1 _ none _ _ _); refine ao_none ?_)
  | ((with_reducible show AE _ (Expr.BinOp _ _ _ _) _ _ _); refine ae_bin ?_)
  | ((with_reducible show AE _ (Expr.Compare _ [_] [_] _) _ _ _); refine ae_cmp ?_)
  | ((with_reducible show AE _ (Expr.Compare _ [_, _] [_, _] _) _ _ _); refine ae_chain ?_)
  | ((with_reducible show AE _ (Expr.Subscript _ (Expr.Slice none none (some _) _) _) _ _ _); refine ae_revS ?_)
  | ((with_reducible show AE _ (Expr.Subscript _ (Expr.Slice _ _ _ _) _) _ _ _); fail)
  | ((with_reducible show AE _ (Expr.Subscript _ _ _) _ _ _); refine ae_ix ?_)
  | ((with_reducible show AE _ (Expr.BoolOp _ [_] _) _ _ _); refine ae_one ?_)
  | ((with_reducible show AE _ (Expr.BoolOp BoolOp.And _ _) _ _ _); refine ae_and ?_)
  | ((with_reducible show AE _ (Expr.BoolOp BoolOp.Or _ _) _ _ _); refine ae_or ?_)
  | ((with_reducible show AE _ (Expr.UnaryOp UnaryOp.Not _ _) _ _ _); refine ae_not ?_)
  | ((with_reducible show AE _ (Expr.UnaryOp _ _ _) _ _ _); refine ae_un ?_)
  | ((with_reducible show AE _ (Expr.IfExp _ _ _ _) _ _ _); refine ae_if ?_)
  | ((with_reducible show AT _ (Expr.Compare _ [_] [_] _) _ _ _); refine at_cmp ?_)
  | ((with_reducible show AT _ (Expr.Compare _ [_, _] [_, _] _) _ _ _); refine at_chain ?_)
  | ((with_reducible show AT _ (Expr.UnaryOp UnaryOp.Not _ _) _ _ _); refine at_not ?_)
  | ((with_reducible show AT _ (Expr.BoolOp _ _ _) _ _ _); refine at_w ?_)
  | ((with_reducible show AT _ (Expr.Call _ _ _ _) _ _ _); refine at_val ?_)
  | ((with_reducible show AT _ (Expr.Name _ _) _ _ _); refine at_val ?_)
  | ((with_reducible show AW _ (Expr.BoolOp BoolOp.And [_] _) _ _ _); refine aw_and1 ?_)
  | ((with_reducible show AW _ (Expr.BoolOp BoolOp.Or [_] _) _ _ _); refine aw_or1 ?_)
  | ((with_reducible show AW _ (Expr.BoolOp BoolOp.And _ _) _ _ _); refine aw_and ?_)
  | ((with_reducible show AW _ (Expr.BoolOp BoolOp.Or _ _) _ _ _); refine aw_or ?_)
  | ((with_reducible show AA _ [] _ _ _); refine aa_nil ?_)
  | ((with_reducible show AA _ (_ :: _) _ _ _); refine aa_cons ?_)
  | ((with_reducible show BinA _ (binaryOp Operator.Add) (PV.d (PyData.int _)) (PV.d (PyData.int _)) _ _); refine b_add ?_)
  | ((with_reducible show BinA _ (binaryOp Operator.Sub) (PV.d (PyData.int _)) (PV.d (PyData.int _)) _ _); refine b_sub ?_)
  | ((with_reducible show BinA _ (compareOp CmpOp.Lt) (PV.d (PyData.int _)) (PV.d (PyData.int _)) _ _); refine b_lt ?_)
  | ((with_reducible show BinA _ (compareOp CmpOp.LtE) (PV.d (PyData.int _)) (PV.d (PyData.int _)) _ _); refine b_le ?_)
  | ((with_reducible show BinA _ (compareOp CmpOp.Gt) (PV.d (PyData.int _)) (PV.d (PyData.int _)) _ _); refine b_gt ?_)
  | ((with_reducible show BinA _ (compareOp CmpOp.GtE) (PV.d (PyData.int _)) (PV.d (PyData.int _)) _ _); refine b_ge ?_)
  | ((with_reducible show BinA _ (compareOp CmpOp.Eq) (PV.d (PyData.int _)) (PV.d (PyData.int _)) _ _); refine b_eqI ?_)
  | ((with_reducible show BinA _ (compareOp CmpOp.NotEq) (PV.d (PyData.int _)) (PV.d (PyData.int _)) _ _); refine b_neI ?_)
  | ((with_reducible show BinA _ (compareOp CmpOp.Eq) (PV.d (PyData.str _)) (PV.d (PyData.str _)) _ _); refine b_eqS ?_)
  | ((with_reducible show BinA _ (compareOp CmpOp.NotEq) (PV.d (PyData.str _)) (PV.d (PyData.str _)) _ _); refine b_neS ?_)
  | ((with_reducible show BinA _ (compareOp CmpOp.LtE) (PV.d (PyData.str _)) (PV.d (PyData.str _)) _ _); refine b_leS ?_)
  | ((with_reducible show BinA _ (compareOp CmpOp.Lt) (PV.d (PyData.str _)) (PV.d (PyData.str _)) _ _); refine b_ltS ?_)
  | ((with_reducible show BinA _ (compareOp CmpOp.Eq) (PV.d (PyData.bool _)) (PV.d (PyData.bool _)) _ _); refine b_eqB ?_)
  | ((with_reducible show AE _ (Expr.Call (Expr.Name "int" _) _ [] _) _ _ _); refine ae_callTy rfl (Txt.int_ ‹_›) boot_int ?_)
  | ((with_reducible show AE _ (Expr.Call (Expr.Name "isinstance" _) _ [] _) _ _ _); refine ae_callB rfl (Txt.isi_ ‹_›) boot_isinstance ?_)
  | ((with_reducible show AE _ (Expr.Call (Expr.Name "len" _) _ [] _) _ _ _); refine ae_callB rfl (Txt.len_ ‹_›) PySem.boot_len ?_)
  | ((with_reducible show AE _ (Expr.Call (Expr.Name "list" _) _ [] _) _ _ _); refine ae_callTy rfl (Txt.list_ ‹_›) boot_list ?_)
  | ((with_reducible show AE _ (Expr.Call (Expr.Name "max" _) _ [] _) _ _ _); refine ae_callB rfl (Txt.max_ ‹_›) boot_max ?_)
  | ((with_reducible show AE _ (Expr.Call (Expr.Name "min" _) _ [] _) _ _ _); refine ae_callB rfl (Txt.min_ ‹_›) boot_min ?_)
  | ((with_reducible show AE _ (Expr.Call (Expr.Name "repr" _) _ [] _) _ _ _); refine ae_callB rfl (Txt.repr_ ‹_›) PyProof.Rows.boot_repr ?_)
  | ((with_reducible show AE _ (Expr.Call (Expr.Name "sum" _) _ [] _) _ _ _); refine ae_callB rfl (Txt.sum_ ‹_›) boot_sum ?_)
  | ((with_reducible show CallA _ (Value.builtin "isinstance") [PV.d _, PV.v (V.ty "int")] _ _); refine c_isInt ?_)
  | ((with_reducible show CallA _ (Value.builtin "isinstance") [PV.d _, PV.v (V.ty "str")] _ _); refine c_isStr ?_)
  | ((with_reducible show CallA _ (Value.builtin "isinstance") [PV.d _, PV.v (V.ty "bool")] _ _); refine c_isBool ?_)
  | ((with_reducible show CallA _ (Value.builtin "isinstance") [PV.d _, PV.v (V.ty "list")] _ _); refine c_isList ?_)
  | ((with_reducible show CallA _ (Value.builtin "isinstance") [PV.d _, PV.v (V.ty "tuple")] _ _); refine c_isTup ?_)
  | ((with_reducible show CallA _ (Value.builtin "len") [PV.d (PyData.list _)] _ _); refine c_lenL ?_)
  | ((with_reducible show CallA _ (Value.builtin "len") [PV.d (PyData.tuple _)] _ _); refine c_lenT ?_)
  | ((with_reducible show CallA _ (Value.builtin "sum") [PV.d (PyData.list (List.map PyData.int _))] _ _); refine c_sum rfl ?_)
  | ((with_reducible show CallA _ (Value.type "int") [PV.d (PyData.bool _)] _ _); refine c_intB ?_)
  | ((with_reducible show AE _ (Expr.Call (Expr.Attribute _ "append" _) _ _ _) _ _ _); refine ae_bm PySem.F.plainAttrs_list PySem.F.slot_list_append PySem.F.type_list_append ?_)
  | ((with_reducible show BinA _ (inplaceOp Operator.Add) (PV.d (PyData.int _)) (PV.d (PyData.int _)) _ _); refine ib_add ?_)
  | ((with_reducible show UnA _ (unaryOp UnaryOp.USub) (PV.d (PyData.int _)) _ _); refine u_neg ?_)
  | ((with_reducible show IxA _ (PV.d (mD _)) (PV.d (PyData.int 0)) _ _); refine ixm0 ?_)
  | ((with_reducible show IxA _ (PV.d (mD _)) (PV.d (PyData.int 1)) _ _); refine ixm1 ?_)
  | ((with_reducible show IxA _ (PV.d (mD _)) (PV.d (PyData.int 2)) _ _); refine ixm2 ?_)
  | ((with_reducible show IxA _ (PV.d (mD _)) (PV.d (PyData.int 3)) _ _); refine ixm3 ?_)
  | ((with_reducible show IxA _ (PV.d (stD _)) (PV.d (PyData.int 0)) _ _); refine ixs0 ?_)
  | ((with_reducible show IxA _ (PV.d (stD _)) (PV.d (PyData.int 1)) _ _); refine ixs1 ?_)
  | ((with_reducible show IxA _ (PV.d (stD _)) (PV.d (PyData.int 2)) _ _); refine ixs2 ?_))
local macro_rules | `(tactic| walk_at "go1") => `(tactic| first
  | walk_at "ge"
  | ((with_reducible show ASs _ (_ :: _) _ _ _); refine as_cons ?_)
  | ((with_reducible show ASs _ [] _ _ _); refine as_nil ?_)
  | ((with_reducible show AS _ (Stmt.Return (some _) _) _ _ _); refine as_ret ?_)
  | ((with_reducible show AS _ (Stmt.If _ _ _ _) _ _ _); refine as_if ?_)
  | ((with_reducible show AS _ (Stmt.Expr _ _) _ _ _); refine as_expr ?_))
section
variable {P : Program} {w : World} {K : PySem.W.Frag} {mg : Str → Option Value} {base : Heap}
theorem ok__law_product {f : Addr} {fd : FuncData} {Rn : RX} (F : Fun K "_law_product" "_law_product" s__law_product f fd) (T : Txt mg) : FnC ⟨P, w, K, mg, base⟩ 1 3 Rn 2 f fd P__law_product (rProduct13 Rn) := by
  refine okFC F sc__law_product (fun C caps args O Φ Ξ h => ?_) (fun cdv A outer s H E as0 F0 C caps args O Φ Ξ hr h CX => ?_)
  · obtain ⟨m, p, t, fu, rfl, _⟩ := h
    rfl
  · obtain ⟨m, p, t, fu, rfl, hm, hz, hpl, hpn, cl, hf, tl, q⟩ := h
    have hn := hm.n1
    have hlen := hz.len
    have hcl : (cds t).length = t.length := cds_len t
    have hp12 : ∀ r ∈ p, r < 12 := fun r hr => by have := hpn r hr; omega
    refine as_cons (as_set 3 sc__law_product.nd ?_)
    repeat walk_at "ge"
    refine as_cons ?_
    refine as_for PassesOwn.never rfl (ai_range1 rfl T.range_ ?_)
    repeat walk_at "ge"
    refine c_lenS (sz (by omega)) ?_
    repeat walk_at "ge"
    refine ⟨_, rfl, by omega, by omega, fun i ρ' O' => O = O' ∧ ∃ (y : Option PyData), ρ' = [some (.d (rmsD p)), some (pS t), some (.fn C), some (pI (pwr fu p (cds t) i)), y.map PV.d], ⟨rfl, none, rfl⟩, fun _ _ _ _ => trivial, ?_, ?_⟩
    · rintro i x ρ' O' hx ⟨rfl, y, rfl⟩
      obtain ⟨hi, rfl⟩ := rng_at hx
      have hi : i < t.length := by omega
      have gp : ∀ k, k < p.length → p[k]? = some (p.getD k 0) := fun k hk => by rw [List.getD_eq_getElem?_getD, List.getElem?_eq_getElem hk]; rfl
      have mp : ∀ k, k < p.length → p.getD k 0 < m.n := fun k hk => hpn _ (List.mem_of_getElem? (gp k hk))
      have ap : ∀ k : Nat, k < p.length → atI (p.map iD) (k : Int) = some (iD (p.getD k 0)) := fun k hk => atI_nat (by rw [List.getElem?_map, gp k hk]; rfl)
      have gt : (cds t)[i]? = some ((cds t).getD i 0) := by rw [List.getD_eq_getElem?_getD, List.getElem?_eq_getElem (by omega)]; rfl
      have at_ : atI t.cps.toList ((i : Nat) : Int) = some ((cds t).getD i 0) := atI_nat gt
      refine ag_name 4 sc__law_product.nd ?_
      refine as_cons (as_set 3 sc__law_product.nd ?_)
      repeat walk_at "ge"
      refine ae_callV 2 CX hr (by decide) rfl ?_
      repeat walk_at "ge"
      refine ix_L (ap i (by omega)) ?_
      repeat walk_at "ge"
      refine ix_S (sz (by omega)) at_ ?_
      repeat walk_at "ge"
      refine ix_L (i := (i : Int) + 1) (ap (i + 1) (by omega)) ?_
      repeat walk_at "ge"
      refine tl.at0 (mp i (by omega)) (mp (i + 1) (by omega)) cl ?_
      have b1 := mp i (by omega)
      have b2 := mp (i + 1) (by omega)
      refine b_mulW (mulW (pwr_le hf hp12 i (by omega)) (hf _ _ _ (by omega) (by omega)) (by omega)) ?_
      exact as_nil (.keep ⟨rfl, some (iD i), rfl⟩)
    · rintro ρ' O' ⟨rfl, y, rfl⟩
      refine as_cons (as_ret ?_)
      repeat walk_at "ge"
      have eL : (rngP 0 ((t.length : Nat) : Int).toNat).length = (cds t).length := by unfold rngP; rw [List.length_map, List.length_range, hcl]; rfl
      rw [eL]
      exact .keep q
end
end K13
set_option pp.maxSteps 1200
namespace K13
open PySem PySem.Spec L2 Al
open PyProof.Rows hiding St
local macro_rules | `(tactic| walk_at "v") => `(tactic| first | refine ae_var 0 rfl ?_ | refine ae_var 1 rfl ?_ | refine ae_var 2 rfl ?_ | refine ae_var 3 rfl ?_ | refine ae_var 4 rfl ?_ | refine ae_var 5 rfl ?_ | refine ae_var 6 rfl ?_ | refine ae_var 7 rfl ?_ | refine ae_var 8 rfl ?_ | refine ae_var 9 rfl ?_ | refine ae_var 10 rfl ?_ | refine ae_var 11 rfl ?_ | refine ae_var 12 rfl ?_ | refine ae_var 13 rfl ?_ | refine ae_var 14 rfl ?_ | refine ae_var 15 rfl ?_ | refine ae_var 16 rfl ?_ | refine ae_var 17 rfl ?_ | refine ae_var 18 rfl ?_ | refine ae_var 19 rfl ?_ | refine ae_ty (Txt.int_ ‹_›) boot_int ?_ | refine ae_ty (Txt.str_ ‹_›) boot_str ?_ | refine ae_ty (Txt.bool_ ‹_›) boot_bool ?_ | refine ae_ty (Txt.list_ ‹_›) boot_list ?_ | refine ae_ty (Txt.tuple_ ‹_›) boot_tuple ?_ | refine ae_globS (Txt.LETTERS ‹_›).choose_spec ?_ | refine ae_globI (Txt.MOST_ROOMS ‹_›).choose_spec ?_ | refine ae_globI (Txt.MOST_STEPS ‹_›).choose_spec ?_ | refine ae_globI (Txt.MOST_WORD ‹_›).choose_spec ?_)
local macro_rules | `(tactic| walk_at "ge") => `(tactic| first
  | ((with_reducible show ite (true = true) _ _); refine iteT ?_)
  | ((with_reducible show ite (false = true) _ _); refine iteF ?_)
  | ((with_reducible show ite ((!true) = true) _ _); refine iteF ?_)
  | ((with_reducible show ite ((!false) = true) _ _); refine iteT ?_)
  | ((with_reducible show IsB _ _ _); refine isB_mk ?_)
  | ((with_reducible show AE _ (Expr.Name _ _) _ _ _); walk_at "v")
  | ((with_reducible show AE _ (Expr.Constant (Const.int _) _ _) _ _ _); refine ae_int ?_)
  | ((with_reducible show AE _ (Expr.Constant (Const.str _) _ _) _ _ _); refine ae_str ?_)
  | ((with_reducible show AE _ (Expr.Constant (Const.bool _) _ _) _ _ _); refine ae_bl ?_)
  | ((with_reducible show AE _ (Expr.Constant Const.none _ _) _ _ _); refine ae_non ?_)
  | ((with_reducible show AO1 _ (some _) _ _ _); refine ao_some ?_)
  | ((with_reducible show AO1 _ none _ _ _); refine ao_none ?_)
  | ((with_reducible show AE _ (Expr.BinOp _ _ _ _) _ _ _); refine ae_bin ?_)
  | ((with_reducible show AE _ (Expr.Compare _ [_] [_] _) _ _ _); refine ae_cmp ?_)
  | ((with_reducible show AE _ (Expr.Compare _ [_, _] [_, _] _) _ _ _); refine ae_chain ?_)
  | ((with_reducible show AE _ (Expr.Subscript _ (Expr.Slice none none (some _) _) _) _ _ _); refine ae_revS ?_)
  | ((with_reducible show AE _ (Expr.Subscript _ (Expr.Slice _ _ _ _) _) _ _ _); fail)
  | ((with_reducible show AE _ (Expr.Subscript _ _ _) _ _ _); refine ae_ix ?_)
  | ((with_reducible show AE _ (Expr.BoolOp _ [_] _) _ _ _); refine ae_one ?_)
  | ((with_reducible show AE _ (Expr.BoolOp BoolOp.And _ _) _ _ _); refine ae_and ?_)
  | ((with_reducible show AE _ (Expr.BoolOp BoolOp.Or _ _) _ _ _); refine ae_or ?_)
  | ((with_reducible show AE _ (Expr.UnaryOp UnaryOp.Not _ _) _ _ _); refine ae_not ?_)
  | ((with_reducible show AE _ (Expr.UnaryOp _ _ _) _ _ _); refine ae_un ?_)
  | ((with_reducible show AE _ (Expr.IfExp _ _ _ _) _ _ _); refine ae_if ?_)
  | ((with_reducible show AT _ (Expr.Compare _ [_] [_] _) _ _ _); refine at_cmp ?_)
  | ((with_reducible show AT _ (Expr.Compare _ [_, _] [_, _] _) _ _ _); refine at_chain ?_)
  | ((with_reducible show AT _ (Expr.UnaryOp UnaryOp.Not _ _) _ _ _); refine at_not ?_)
  | ((with_reducible show AT _ (Expr.BoolOp _ _ _) _ _ _); refine at_w ?_)
  | ((with_reducible show AT _ (Expr.Call _ _ _ _) _ _ _); refine at_val ?_)
  | ((with_reducible show AT _ (Expr.Name _ _) _ _ _); refine at_val ?_)
  | ((with_reducible show AW _ (Expr.BoolOp BoolOp.And [_] _) _ _ _); refine aw_and1 ?_)
  | ((with_reducible show AW _ (Expr.BoolOp BoolOp.Or [_] _) _ _ _); refine aw_or1 ?_)
  | ((with_reducible show AW _ (Expr.BoolOp BoolOp.And _ _) _ _ _); refine aw_and ?_)
  | ((with_reducible show AW _ (Expr.BoolOp BoolOp.Or _ _) _ _ _); refine aw_or ?_)
  | ((with_reducible show AA _ [] _ _ _); refine aa_nil ?_)
  | ((with_reducible show AA _ (_ :: _) _ _ _); refine aa_cons ?_)
  | ((with_reducible show BinA _ (binaryOp Operator.Add) (PV.d (PyData.int _)) (PV.d (PyData.int _)) _ _); refine b_add ?_)
  | ((with_reducible show BinA _ (binaryOp Operator.Sub) (PV.d (PyData.int _)) (PV.d (PyData.int _)) _ _); refine b_sub ?_)
  | ((with_reducible show BinA _ (compareOp CmpOp.Lt) (PV.d (PyData.int _)) (PV.d (PyData.int _)) _ _); refine b_lt ?_)
  | ((with_reducible show BinA _ (compareOp CmpOp.LtE) (PV.d (PyData.int _)) (PV.d (PyData.int _)) _ _); refine b_le ?_)
  | ((with_reducible show BinA _ (compareOp CmpOp.Gt) (PV.d (PyData.int _)) (PV.d (PyData.int _)) _ _); refine b_gt ?_)
  | ((with_reducible show BinA _ (compareOp CmpOp.GtE) (PV.d (PyData.int _)) (PV.d (PyData.int _)) _ _); refine b_ge ?_)
  | ((with_reducible show BinA _ (compareOp CmpOp.Eq) (PV.d (PyData.int _)) (PV.d (PyData.int _)) _ _); refine b_eqI ?_)
  | ((with_reducible show BinA _ (compareOp CmpOp.NotEq) (PV.d (PyData.int _)) (PV.d (PyData.int _)) _ _); refine b_neI ?_)
  | ((with_reducible show BinA _ (compareOp CmpOp.Eq) (PV.d (PyData.str _)) (PV.d (PyData.str _)) _ _); refine b_eqS ?_)
  | ((with_reducible show BinA _ (compareOp CmpOp.NotEq) (PV.d (PyData.str _)) (PV.d (PyData.str _)) _ _); refine b_neS ?_)
  | ((with_reducible show BinA _ (compareOp CmpOp.LtE) (PV.d (PyData.str _)) (PV.d (PyData.str _)) _ _); refine b_leS ?_)
  | ((with_reducible show BinA _ (compareOp CmpOp.Lt) (PV.d (PyData.str _)) (PV.d (PyData.str _)) _ _); refine b_ltS ?_)
  | ((with_reducible show BinA _ (compareOp CmpOp.Eq) (PV.d (PyData.bool _)) (PV.d (PyData.bool _)) _ _); refine b_eqB ?_)
  | ((with_reducible show AE _ (Expr.Call (Expr.Name "int" _) _ [] _) _ _ _); refine ae_callTy rfl (Txt.int_ ‹_›) boot_int ?_)
  | ((with_reducible show AE _ (Expr.Call (Expr.Name "isinstance" _) _ [] _) _ _ _); refine ae_callB rfl (Txt.isi_ ‹_›) boot_isinstance ?_)
  | ((with_reducible show AE _ (Expr.Call (Expr.Name "len" _) _ [] _) _ _ _); refine ae_callB rfl (Txt.len_ ‹_›) PySem.boot_len ?_)
  | ((with_reducible show AE _ (Expr.Call (Expr.Name "list" _) _ [] _) _ _ _); refine ae_callTy rfl (Txt.list_ ‹_›) boot_list ?_)
  | ((with_reducible show AE _ (Expr.Call (Expr.Name "max" _) _ [] _) _ _ _); refine ae_callB rfl (Txt.max_ ‹_›) boot_max ?_)
  | ((with_reducible show AE _ (Expr.Call (Expr.Name "min" _) _ [] _) _ _ _); refine ae_callB rfl (Txt.min_ ‹_›) boot_min ?_)
  | ((with_reducible show AE _ (Expr.Call (Expr.Name "repr" _) _ [] _) _ _ _); refine ae_callB rfl (Txt.repr_ ‹_›) PyProof.Rows.boot_repr ?_)
  | ((with_reducible show AE _ (Expr.Call (Expr.Name "sum" _) _ [] _) _ _ _); refine ae_callB rfl (Txt.sum_ ‹_›) boot_sum ?_)
  | ((with_reducible show AE _ (Expr.Call (Expr.Name "_law_product" _) _ [] _) _ _ _); refine ae_callA ‹D__law_product _› (RoomG.mono ‹_› (by first | decide | omega)) ?_)
  | ((with_reducible show AE _ (Expr.Call (Expr.Name "_law_ways" _) _ [] _) _ _ _); refine ae_callA ‹D__law_ways _› (RoomG.mono ‹_› (by first | decide | omega)) ?_)
  | ((with_reducible show AE _ (Expr.Call (Expr.Name "weighed" _) _ [] _) _ _ _); refine ae_callA ‹D_weighed _› (RoomG.mono ‹_› (by first | decide | omega)) ?_)
  | ((with_reducible show CallA _ (Value.builtin "isinstance") [PV.d _, PV.v (V.ty "int")] _ _); refine c_isInt ?_)
  | ((with_reducible show CallA _ (Value.builtin "isinstance") [PV.d _, PV.v (V.ty "str")] _ _); refine c_isStr ?_)
  | ((with_reducible show CallA _ (Value.builtin "isinstance") [PV.d _, PV.v (V.ty "bool")] _ _); refine c_isBool ?_)
  | ((with_reducible show CallA _ (Value.builtin "isinstance") [PV.d _, PV.v (V.ty "list")] _ _); refine c_isList ?_)
  | ((with_reducible show CallA _ (Value.builtin "isinstance") [PV.d _, PV.v (V.ty "tuple")] _ _); refine c_isTup ?_)
  | ((with_reducible show CallA _ (Value.builtin "len") [PV.d (PyData.list _)] _ _); refine c_lenL ?_)
  | ((with_reducible show CallA _ (Value.builtin "len") [PV.d (PyData.tuple _)] _ _); refine c_lenT ?_)
  | ((with_reducible show CallA _ (Value.builtin "sum") [PV.d (PyData.list (List.map PyData.int _))] _ _); refine c_sum rfl ?_)
  | ((with_reducible show CallA _ (Value.type "int") [PV.d (PyData.bool _)] _ _); refine c_intB ?_)
  | ((with_reducible show AE _ (Expr.Call (Expr.Attribute _ "append" _) _ _ _) _ _ _); refine ae_bm PySem.F.plainAttrs_list PySem.F.slot_list_append PySem.F.type_list_append ?_)
  | ((with_reducible show BinA _ (inplaceOp Operator.Add) (PV.d (PyData.int _)) (PV.d (PyData.int _)) _ _); refine ib_add ?_)
  | ((with_reducible show UnA _ (unaryOp UnaryOp.USub) (PV.d (PyData.int _)) _ _); refine u_neg ?_)
  | ((with_reducible show IxA _ (PV.d (mD _)) (PV.d (PyData.int 0)) _ _); refine ixm0 ?_)
  | ((with_reducible show IxA _ (PV.d (mD _)) (PV.d (PyData.int 1)) _ _); refine ixm1 ?_)
  | ((with_reducible show IxA _ (PV.d (mD _)) (PV.d (PyData.int 2)) _ _); refine ixm2 ?_)
  | ((with_reducible show IxA _ (PV.d (mD _)) (PV.d (PyData.int 3)) _ _); refine ixm3 ?_)
  | ((with_reducible show IxA _ (PV.d (stD _)) (PV.d (PyData.int 0)) _ _); refine ixs0 ?_)
  | ((with_reducible show IxA _ (PV.d (stD _)) (PV.d (PyData.int 1)) _ _); refine ixs1 ?_)
  | ((with_reducible show IxA _ (PV.d (stD _)) (PV.d (PyData.int 2)) _ _); refine ixs2 ?_))
local macro_rules | `(tactic| walk_at "go1") => `(tactic| first
  | walk_at "ge"
  | ((with_reducible show ASs _ (_ :: _) _ _ _); refine as_cons ?_)
  | ((with_reducible show ASs _ [] _ _ _); refine as_nil ?_)
  | ((with_reducible show AS _ (Stmt.Return (some _) _) _ _ _); refine as_ret ?_)
  | ((with_reducible show AS _ (Stmt.If _ _ _ _) _ _ _); refine as_if ?_)
  | ((with_reducible show AS _ (Stmt.Expr _ _) _ _ _); refine as_expr ?_))
section
variable {P : Program} {w : World} {K : PySem.W.Frag} {mg : Str → Option Value} {base : Heap}
theorem ok__law_right {f : Addr} {fd : FuncData} {Rn : RX} (F : Fun K "_law_right" "_law_right" s__law_right f fd) (T : Txt mg) (E1 : ∀ Rn, DefC ⟨P, w, K, mg, base⟩ 1 3 Rn 2 "_law_product" P__law_product (rProduct13 Rn)) (E2 : D__law_ways ⟨P, w, K, mg, base⟩) (E3 : ∀ Rn, DefC ⟨P, w, K, mg, base⟩ 1 3 Rn 6 "weighed" P_weighed (rWeighed Rn)) : FnC ⟨P, w, K, mg, base⟩ 1 3 Rn 7 f fd P__law_right (rRight13 Rn) := by
  refine okFB F sc__law_right (fun C caps args O Φ Ξ h => ?_) (fun B low cdv A outer s H E as0 F0 C caps args O Φ Ξ hr h CX => ?_)
  · obtain ⟨m, t, fu, rfl, _⟩ := h
    rfl
  · obtain ⟨m, t, fu, rfl, hm, hz, few, cl, hf, tl, q⟩ := h
    have E2' : D__law_ways ⟨P, w, K, mg, B⟩ := DefA.low low E2
    have hlen := hz.len
    have hcl : (cds t).length = t.length := cds_len t
    refine as_cons (as_set 3 sc__law_right.nd ?_)
    repeat walk_at "ge"
    refine ae_lc (own := [("_law_way", 4)]) (g := gName 4) rfl sc__law_right.nd (blkOk_by (N := N__law_right) (sc := defScope s__law_right) (by decide +kernel)) (fun _ _ _ _ _ => (pg_name (i := 4) sc__law_right.nd rfl (.inl rfl))) (wipes_name (by decide)) mono_name ?_
    refine lc_map (α := List Nat) mono_name (ai_list (ae_callA E2' (hr.mono (by decide)) ?_))
    repeat walk_at "ge"
    refine ⟨m, t, rfl, hm, hz, few, cl, ?_⟩
    have h0 := few (cds t).length (Nat.le_refl _)
    rw [List.take_length] at h0
    refine ⟨_, rfl, Nat.le_refl _, cl, (prow m m.fs (cds t)).filter (fun p => decide (lastR p ∈ m.ls)), fun p => .d (rmsD p), fun p => .int (pwr fu p (cds t) (cds t).length), by rw [List.map_map]; rfl, Nat.le_trans (List.length_filter_le _ _) (by omega), fun _ => trivial, ?_, ?_⟩
    · intro p hp acc
      have hp1 := (List.mem_filter.mp hp).1
      refine agr_name (fun s0 H0 C0 cl0 fp0 => ae_callCB (CX.blk _ _ _ _ _) (E1 Rn) (hr.mono (by decide)) ?_)
      repeat walk_at "ge"
      refine ⟨m, p, t, fu, rfl, hm, hz, by rw [prow_pl m m.fs _ p hp1, hcl], prow_lt hm _ p hp1, ?_, hf, tl.app _, ?_⟩
      · exact cl_app cl (by simp [AO.below, PV.blw])
      · exact ⟨rfl, rfl⟩
    · rw [show (((prow m m.fs (cds t)).filter (fun p => decide (lastR p ∈ m.ls))).map fun p => PyData.int (pwr fu p (cds t) (cds t).length)) = ((((prow m m.fs (cds t)).filter (fun p => decide (lastR p ∈ m.ls))).map fun p => pwr fu p (cds t) (cds t).length).map PyData.int) by rw [List.map_map]; rfl]
      repeat walk_at "ge"
      rw [← weigh_list hm]
      refine as_cons ?_
      refine as_for PassesOwn.never rfl (ai_range1 rfl T.range_ ?_)
      repeat walk_at "ge"
      refine ⟨_, rfl, by decide, by decide, fun i ρ' O' => O = O' ∧ ∃ (y4 y5 y6 : Option PyData), ρ' = [some (.d (mD m)), some (pS t), some (.fn C), some (pI (weighN fu m (cds t))), y4.map PV.d, y5.map PV.d, y6.map PV.d], ⟨rfl, none, none, none, rfl⟩, fun _ _ _ _ => trivial, ?_, ?_⟩
      · rintro i x ρ' O' hx ⟨rfl, y4, y5, y6, rfl⟩
        obtain ⟨hi, rfl⟩ := rng_at hx
        refine ag_name 5 sc__law_right.nd ?_
        refine as_cons (as_set 6 sc__law_right.nd (ae_callCB CX (E3 Rn) (hr.mono (by decide)) ?_))
        repeat walk_at "ge"
        refine ⟨m, t, fu, rfl, hm, hz, cl, hf, tl, ?_⟩
        refine as_cons (as_if ?_)
        repeat walk_at "ge"
        refine ifnd (fun h1 => absurd rfl h1) (fun _ => ?_)
        exact as_nil (as_nil (.keep ⟨rfl, y4, some (iD i), some (.int (weighN fu m (cds t))), rfl⟩))
      · rintro ρ' O' ⟨rfl, y4, y5, y6, rfl⟩
        refine as_cons (as_ret (ae_bl ?_))
        exact .keep q
end
end K13
set_option pp.maxSteps 1200
namespace K13
open PySem PySem.Spec L2 Al
open PyProof.Rows hiding St
local macro_rules | `(tactic| walk_at "v") => `(tactic| first | refine ae_var 0 rfl ?_ | refine ae_var 1 rfl ?_ | refine ae_var 2 rfl ?_ | refine ae_var 3 rfl ?_ | refine ae_var 4 rfl ?_ | refine ae_var 5 rfl ?_ | refine ae_var 6 rfl ?_ | refine ae_var 7 rfl ?_ | refine ae_var 8 rfl ?_ | refine ae_var 9 rfl ?_ | refine ae_var 10 rfl ?_ | refine ae_var 11 rfl ?_ | refine ae_var 12 rfl ?_ | refine ae_var 13 rfl ?_ | refine ae_var 14 rfl ?_ | refine ae_var 15 rfl ?_ | refine ae_var 16 rfl ?_ | refine ae_var 17 rfl ?_ | refine ae_var 18 rfl ?_ | refine ae_var 19 rfl ?_ | refine ae_ty (Txt.int_ ‹_›) boot_int ?_ | refine ae_ty (Txt.str_ ‹_›) boot_str ?_ | refine ae_ty (Txt.bool_ ‹_›) boot_bool ?_ | refine ae_ty (Txt.list_ ‹_›) boot_list ?_ | refine ae_ty (Txt.tuple_ ‹_›) boot_tuple ?_ | refine ae_globS (Txt.LETTERS ‹_›).choose_spec ?_ | refine ae_globI (Txt.MOST_ROOMS ‹_›).choose_spec ?_ | refine ae_globI (Txt.MOST_STEPS ‹_›).choose_spec ?_ | refine ae_globI (Txt.MOST_WORD ‹_›).choose_spec ?_)
local macro_rules | `(tactic| walk_at "ge") => `(tactic| first
  | ((with_reducible show ite (true = true) _ _); refine iteT ?_)
  | ((with_reducible show ite (false = true) _ _); refine iteF ?_)
  | ((with_reducible show ite ((!true) = true) _ _); refine iteF ?_)
  | ((with_reducible show ite ((!false) = true) _ _); refine iteT ?_)
  | ((with_reducible show IsB _ _ _); refine isB_mk ?_)
  | ((with_reducible show AE _ (Expr.Name _ _) _ _ _); walk_at "v")
  | ((with_reducible show AE _ (Expr.Constant (Const.int _) _ _) _ _ _); refine ae_int ?_)
  | ((with_reducible show AE _ (Expr.Constant (Const.str _) _ _) _ _ _); refine ae_str ?_)
  | ((with_reducible show AE _ (Expr.Constant (Const.bool _) _ _) _ _ _); refine ae_bl ?_)
  | ((with_reducible show AE _ (Expr.Constant Const.none _ _) _ _ _); refine ae_non ?_)
  | ((with_reducible show AO1 _ (some _) _ _ _); refine ao_some ?_)
  | ((with_reducible show AO1 _ none _ _ _); refine ao_none ?_)
  | ((with_reducible show AE _ (Expr.BinOp _ _ _ _) _ _ _); refine ae_bin ?_)
  | ((with_reducible show AE _ (Expr.Compare _ [_] [_] _) _ _ _); refine ae_cmp ?_)
  | ((with_reducible show AE _ (Expr.Compare _ [_, _] [_, _] _) _ _ _); refine ae_chain ?_)
  | ((with_reducible show AE _ (Expr.Subscript _ (Expr.Slice none none (some _) _) _) _ _ _); refine ae_revS ?_)
  | ((with_reducible show AE _ (Expr.Subscript _ (Expr.Slice _ _ _ _) _) _ _ _); fail)
  | ((with_reducible show AE _ (Expr.Subscript _ _ _) _ _ _); refine ae_ix ?_)
  | ((with_reducible show AE _ (Expr.BoolOp _ [_] _) _ _ _); refine ae_one ?_)
  | ((with_reducible show AE _ (Expr.BoolOp BoolOp.And _ _) _ _ _); refine ae_and ?_)
  | ((with_reducible show AE _ (Expr.BoolOp BoolOp.Or _ _) _ _ _); refine ae_or ?_)
  | ((with_reducible show AE _ (Expr.UnaryOp UnaryOp.Not _ _) _ _ _); refine ae_not ?_)
  | ((with_reducible show AE _ (Expr.UnaryOp _ _ _) _ _ _); refine ae_un ?_)
  | ((with_reducible show AE _ (Expr.IfExp _ _ _ _) _ _ _); refine ae_if ?_)
  | ((with_reducible show AT _ (Expr.Compare _ [_] [_] _) _ _ _); refine at_cmp ?_)
  | ((with_reducible show AT _ (Expr.Compare _ [_, _] [_, _] _) _ _ _); refine at_chain ?_)
  | ((with_reducible show AT _ (Expr.UnaryOp UnaryOp.Not _ _) _ _ _); refine at_not ?_)
  | ((with_reducible show AT _ (Expr.BoolOp _ _ _) _ _ _); refine at_w ?_)
  | ((with_reducible show AT _ (Expr.Call _ _ _ _) _ _ _); refine at_val ?_)
  | ((with_reducible show AT _ (Expr.Name _ _) _ _ _); refine at_val ?_)
  | ((with_reducible show AW _ (Expr.BoolOp BoolOp.And [_] _) _ _ _); refine aw_and1 ?_)
  | ((with_reducible show AW _ (Expr.BoolOp BoolOp.Or [_] _) _ _ _); refine aw_or1 ?_)
  | ((with_reducible show AW _ (Expr.BoolOp BoolOp.And _ _) _ _ _); refine aw_and ?_)
  | ((with_reducible show AW _ (Expr.BoolOp BoolOp.Or _ _) _ _ _); refine aw_or ?_)
  | ((with_reducible show AA _ [] _ _ _); refine aa_nil ?_)
  | ((with_reducible show AA _ (_ :: _) _ _ _); refine aa_cons ?_)
  | ((with_reducible show BinA _ (binaryOp Operator.Add) (PV.d (PyData.int _)) (PV.d (PyData.int _)) _ _); refine b_add ?_)
  | ((with_reducible show BinA _ (binaryOp Operator.Sub) (PV.d (PyData.int _)) (PV.d (PyData.int _)) _ _); refine b_sub ?_)
  | ((with_reducible show BinA _ (compareOp CmpOp.Lt) (PV.d (PyData.int _)) (PV.d (PyData.int _)) _ _); refine b_lt ?_)
  | ((with_reducible show BinA _ (compareOp CmpOp.LtE) (PV.d (PyData.int _)) (PV.d (PyData.int _)) _ _); refine b_le ?_)
  | ((with_reducible show BinA _ (compareOp CmpOp.Gt) (PV.d (PyData.int _)) (PV.d (PyData.int _)) _ _); refine b_gt ?_)
  | ((with_reducible show BinA _ (compareOp CmpOp.GtE) (PV.d (PyData.int _)) (PV.d (PyData.int _)) _ _); refine b_ge ?_)
  | ((with_reducible show BinA _ (compareOp CmpOp.Eq) (PV.d (PyData.int _)) (PV.d (PyData.int _)) _ _); refine b_eqI ?_)
  | ((with_reducible show BinA _ (compareOp CmpOp.NotEq) (PV.d (PyData.int _)) (PV.d (PyData.int _)) _ _); refine b_neI ?_)
  | ((with_reducible show BinA _ (compareOp CmpOp.Eq) (PV.d (PyData.str _)) (PV.d (PyData.str _)) _ _); refine b_eqS ?_)
  | ((with_reducible show BinA _ (compareOp CmpOp.NotEq) (PV.d (PyData.str _)) (PV.d (PyData.str _)) _ _); refine b_neS ?_)
  | ((with_reducible show BinA _ (compareOp CmpOp.LtE) (PV.d (PyData.str _)) (PV.d (PyData.str _)) _ _); refine b_leS ?_)
  | ((with_reducible show BinA _ (compareOp CmpOp.Lt) (PV.d (PyData.str _)) (PV.d (PyData.str _)) _ _); refine b_ltS ?_)
  | ((with_reducible show BinA _ (compareOp CmpOp.Eq) (PV.d (PyData.bool _)) (PV.d (PyData.bool _)) _ _); refine b_eqB ?_)
  | ((with_reducible show AE _ (Expr.Call (Expr.Name "int" _) _ [] _) _ _ _); refine ae_callTy rfl (Txt.int_ ‹_›) boot_int ?_)
  | ((with_reducible show AE _ (Expr.Call (Expr.Name "isinstance" _) _ [] _) _ _ _); refine ae_callB rfl (Txt.isi_ ‹_›) boot_isinstance ?_)
  | ((with_reducible show AE _ (Expr.Call (Expr.Name "len" _) _ [] _) _ _ _); refine ae_callB rfl (Txt.len_ ‹_›) PySem.boot_len ?_)
  | ((with_reducible show AE _ (Expr.Call (Expr.Name "list" _) _ [] _) _ _ _); refine ae_callTy rfl (Txt.list_ ‹_›) boot_list ?_)
  | ((with_reducible show AE _ (Expr.Call (Expr.Name "max" _) _ [] _) _ _ _); refine ae_callB rfl (Txt.max_ ‹_›) boot_max ?_)
  | ((with_reducible show AE _ (Expr.Call (Expr.Name "min" _) _ [] _) _ _ _); refine ae_callB rfl (Txt.min_ ‹_›) boot_min ?_)
  | ((with_reducible show AE _ (Expr.Call (Expr.Name "repr" _) _ [] _) _ _ _); refine ae_callB rfl (Txt.repr_ ‹_›) PyProof.Rows.boot_repr ?_)
  | ((with_reducible show AE _ (Expr.Call (Expr.Name "sum" _) _ [] _) _ _ _); refine ae_callB rfl (Txt.sum_ ‹_›) boot_sum ?_)
  | ((with_reducible show AE _ (Expr.Call (Expr.Name "weighed" _) _ [] _) _ _ _); refine ae_callA ‹D_weighed _› (RoomG.mono ‹_› (by first | decide | omega)) ?_)
  | ((with_reducible show CallA _ (Value.builtin "isinstance") [PV.d _, PV.v (V.ty "int")] _ _); refine c_isInt ?_)
  | ((with_reducible show CallA _ (Value.builtin "isinstance") [PV.d _, PV.v (V.ty "str")] _ _); refine c_isStr ?_)
  | ((with_reducible show CallA _ (Value.builtin "isinstance") [PV.d _, PV.v (V.ty "bool")] _ _); refine c_isBool ?_)
  | ((with_reducible show CallA _ (Value.builtin "isinstance") [PV.d _, PV.v (V.ty "list")] _ _); refine c_isList ?_)
  | ((with_reducible show CallA _ (Value.builtin "isinstance") [PV.d _, PV.v (V.ty "tuple")] _ _); refine c_isTup ?_)
  | ((with_reducible show CallA _ (Value.builtin "len") [PV.d (PyData.list _)] _ _); refine c_lenL ?_)
  | ((with_reducible show CallA _ (Value.builtin "len") [PV.d (PyData.tuple _)] _ _); refine c_lenT ?_)
  | ((with_reducible show CallA _ (Value.builtin "sum") [PV.d (PyData.list (List.map PyData.int _))] _ _); refine c_sum rfl ?_)
  | ((with_reducible show CallA _ (Value.type "int") [PV.d (PyData.bool _)] _ _); refine c_intB ?_)
  | ((with_reducible show AE _ (Expr.Call (Expr.Attribute _ "append" _) _ _ _) _ _ _); refine ae_bm PySem.F.plainAttrs_list PySem.F.slot_list_append PySem.F.type_list_append ?_)
  | ((with_reducible show BinA _ (inplaceOp Operator.Add) (PV.d (PyData.int _)) (PV.d (PyData.int _)) _ _); refine ib_add ?_)
  | ((with_reducible show UnA _ (unaryOp UnaryOp.USub) (PV.d (PyData.int _)) _ _); refine u_neg ?_)
  | ((with_reducible show IxA _ (PV.d (mD _)) (PV.d (PyData.int 0)) _ _); refine ixm0 ?_)
  | ((with_reducible show IxA _ (PV.d (mD _)) (PV.d (PyData.int 1)) _ _); refine ixm1 ?_)
  | ((with_reducible show IxA _ (PV.d (mD _)) (PV.d (PyData.int 2)) _ _); refine ixm2 ?_)
  | ((with_reducible show IxA _ (PV.d (mD _)) (PV.d (PyData.int 3)) _ _); refine ixm3 ?_)
  | ((with_reducible show IxA _ (PV.d (stD _)) (PV.d (PyData.int 0)) _ _); refine ixs0 ?_)
  | ((with_reducible show IxA _ (PV.d (stD _)) (PV.d (PyData.int 1)) _ _); refine ixs1 ?_)
  | ((with_reducible show IxA _ (PV.d (stD _)) (PV.d (PyData.int 2)) _ _); refine ixs2 ?_))
local macro_rules | `(tactic| walk_at "go1") => `(tactic| first
  | walk_at "ge"
  | ((with_reducible show ASs _ (_ :: _) _ _ _); refine as_cons ?_)
  | ((with_reducible show ASs _ [] _ _ _); refine as_nil ?_)
  | ((with_reducible show AS _ (Stmt.Return (some _) _) _ _ _); refine as_ret ?_)
  | ((with_reducible show AS _ (Stmt.If _ _ _ _) _ _ _); refine as_if ?_)
  | ((with_reducible show AS _ (Stmt.Expr _ _) _ _ _); refine as_expr ?_))
section
variable {P : Program} {w : World} {K : PySem.W.Frag} {mg : Str → Option Value} {base : Heap}
def lamB : Expr → Expr
  | .Lambda _ b _ _ => b
  | e => e
def lamS : Expr → Scope → Scope
  | .Lambda _ _ s _, _ => s
  | _, s => s
def lamP : Expr → Arguments → Arguments
  | .Lambda p _ _ _, _ => p
  | _, p => p
def nonE : Expr := .Constant .none 0 ⟨0, 0, 0, 0⟩
def callE : Expr → Expr
  | .Call _ [_, _, e] _ _ => e
  | _ => nonE
def lamLong : List Stmt → Expr
  | [] => nonE
  | .Return (some (.Compare c _ _ _)) _ :: _ => callE c
  | _ :: r => lamLong r
abbrev e_lamL : Expr := lamLong (defBody s__law_long)
abbrev sc_lamL : Scope := lamS e_lamL (defScope s__law_long)
abbrev q_lamL : Str := ("_law_long" : Str) ++ (".<locals>." : Str) ++ ("<lambda>" : Str)
abbrev lf_lamL (cl : List (Str × Addr)) (c' : Addr) : LF := ⟨q_lamL, lamP e_lamL (defArgs s__law_long), lamB e_lamL, sc_lamL, cl, c'⟩
theorem bs_lamL : BScope ["_law_room", "_law_sign", "_law_to"] ["_law_room", "_law_sign", "_law_to"] [] sc_lamL := bscope_by (by decide +kernel)
theorem ok_lamL {cl : List (Str × Addr)} {c' f : Addr} : COk P w K mg base (CX P w) 1 f (.lm (lf_lamL cl c')) 3 [] (spC K mg rLm7) := by
  refine okLm (F := lf_lamL cl c') (N := ["_law_room", "_law_sign", "_law_to"]) (ps := ["_law_room", "_law_sign", "_law_to"]) bs_lamL (fun pm ctv us hl => match us, hl with | [_, _, _], _ => rfl) (fun caps args O Φ Ξ hcl h => ?_) (fun A outer s H E as0 F0 caps args O Φ Ξ hr hcl hal h => ?_)
  · obtain ⟨a, b, c, e, _⟩ := h
    match caps, args, hcl, e with
    | [], [_, _, _], _, _ => rfl
  · obtain ⟨a, c, b, e, q⟩ := h
    match caps, args, hcl, hal, e with
    | [], [_, _, _], _, _, e =>
      cases e
      refine ae_bin (ae_int (ae_var 2 rfl ?_))
      refine b_add ?_
      exact .keep q
theorem nb_lamL : NdefX.ndefB (defScope s__law_long) sc_lamL [] = true := by decide +kernel
theorem mL13_ok : MOk mL13 := ⟨by decide, by decide, ⟨by decide, by decide⟩, ⟨by decide, by decide⟩, (fun s hs => by
  have hs : s ∈ ([(0, 97, 0), (0, 97, 1), (1, 97, 0), (1, 97, 1)] : List Stp) := hs
  simp only [List.mem_cons, List.not_mem_nil, or_false] at hs
  rcases hs with rfl | rfl | rfl | rfl <;> exact ⟨by decide, by decide, by decide⟩), by decide, by decide⟩
theorem aa13 : WordOk (Txt.mul ("a" : Str) 300) ∧ cds (Txt.mul ("a" : Str) 300) = List.replicate 300 97 := by
  have e : cds (Txt.mul ("a" : Str) 300) = List.replicate 300 97 := by
    rw [cds_mul (by decide)]
    exact rep_one 97 300
  refine ⟨⟨?_, fun c hc => ?_⟩, e⟩
  · rw [← cds_len, e, List.length_replicate]; decide
  · rw [e] at hc
    rw [List.eq_of_mem_replicate hc]
    decide
theorem ok__law_long {f cB PB : Addr} {fd : FuncData} (F : Fun K "_law_long" "_law_long" s__law_long f fd) (T : Txt mg) (hcode : fd.code = .ref cB) (TB : LamX.TabB base mg cB PB) (E1 : ∀ Rn, DefC ⟨P, w, K, mg, base⟩ 1 3 Rn 6 "weighed" P_weighed (rWeighed Rn)) : Fn ⟨P, w, K, mg, base⟩ 7 f fd P__law_long (up (rLong13 PB q_lamL)) := by
  refine okXc F sc__law_long (fun args O Φ Ξ h => ?_) (fun cdv hcd A outer s H E as0 F0 args O Φ Ξ hr h tk po => ?_)
  · obtain ⟨rfl, _⟩ := h
    rfl
  · obtain ⟨rfl, cl, ⟨j, hj⟩, q⟩ := h
    obtain rfl : cdv = .ref cB := hcd.symm.trans hcode
    refine as_cons (as_set 0 sc__law_long.nd (ae_tupD ?_))
    repeat walk_at "go1"
    refine ae_lstD ?_
    repeat walk_at "go1"
    refine ⟨[iD 0, iD 1], rfl, by show 2 ≤ 16000000; decide, ?_⟩
    repeat walk_at "go1"
    refine ae_lstD ?_
    repeat walk_at "go1"
    refine ⟨[iD 1], rfl, by show 1 ≤ 16000000; decide, ?_⟩
    repeat walk_at "go1"
    refine ae_lstD (aa_cons (ae_tupD ?_))
    repeat walk_at "go1"
    refine ⟨[iD 0, sgD 97, iD 0], rfl, by show 3 ≤ 16000000; decide, ?_⟩
    refine aa_cons (ae_tupD ?_)
    repeat walk_at "go1"
    refine ⟨[iD 0, sgD 97, iD 1], rfl, by show 3 ≤ 16000000; decide, ?_⟩
    refine aa_cons (ae_tupD ?_)
    repeat walk_at "go1"
    refine ⟨[iD 1, sgD 97, iD 0], rfl, by show 3 ≤ 16000000; decide, ?_⟩
    refine aa_cons (ae_tupD ?_)
    repeat walk_at "go1"
    refine ⟨[iD 1, sgD 97, iD 1], rfl, by show 3 ≤ 16000000; decide, ?_⟩
    repeat walk_at "go1"
    refine ⟨[stD (0, 97, 0), stD (0, 97, 1), stD (1, 97, 0), stD (1, 97, 1)], rfl, by show 4 ≤ 16000000; decide, ?_⟩
    repeat walk_at "go1"
    refine ⟨[iD 2, rmsD [0, 1], rmsD [1], stsD [(0, 97, 0), (0, 97, 1), (1, 97, 0), (1, 97, 1)]], rfl, by show 4 ≤ 16000000; decide, ?_⟩
    show ASs _ _ [some (.d (mD mL13)), none, none] _ _
    refine as_cons (as_set 1 sc__law_long.nd ?_)
    repeat walk_at "ge"
    refine as_cons ?_
    refine as_for po rfl (ai_range1 rfl T.range_ ?_)
    repeat walk_at "ge"
    refine ⟨_, rfl, by decide, by decide, fun i ρ' O' => O = O' ∧ ∃ y : Option PyData, ρ' = [some (.d (mD mL13)), some (pI (2 * 3 ^ i)), y.map PV.d], ⟨rfl, none, rfl⟩, fun _ _ _ _ => trivial, ?_, ?_⟩
    · rintro i x ρ' O' hx ⟨rfl, y, rfl⟩
      obtain ⟨hi, rfl⟩ := rng_at hx
      refine ag_name 2 sc__law_long.nd ?_
      refine as_cons (as_set 1 sc__law_long.nd ?_)
      repeat walk_at "ge"
      refine b_mul (.inr ⟨by decide, by decide⟩) ?_
      refine as_nil (.keep ⟨rfl, some (iD i), ?_⟩)
      rw [Int.pow_succ, ← Int.mul_assoc]
      rfl
    · rintro ρ' O' ⟨rfl, y, rfl⟩
      rw [show (rngP 0 (299 : Int).toNat).length = 299 by unfold rngP; rw [List.length_map, List.length_range]; rfl]
      refine as_cons (as_ret (ae_cmp ?_))
      refine ae_callC (E1 rLm7) (hr.mono (by decide)) ?_
      repeat walk_at "ge"
      refine b_mulS (mulOk_small (by decide) (by decide) (by decide)) ?_
      refine aa_cons ?_
      refine ae_lam (j := j) TB rfl hj (NdefX.ndef_free nb_lamL) (fun c' => ?_)
      refine aa_nil ⟨_, [], capX_lm (F := lf_lamL _ c') [] [] rfl rfl (fun f => ok_lamL) nb_lamL rfl, ?_⟩
      refine ⟨mL13, _, fun _ _ b => 1 + (b : Int), rfl, mL13_ok, aa13.1, cl, fun a c b h1 h2 => small200 (show (1 + (b : Int)).natAbs ≤ 1000 by omega), fun a c b T Φ Ξ ha hb clA q => ⟨a, c, b, rfl, q⟩, ?_⟩
      have hW : weighN (fun _ _ b => 1 + (b : Int)) mL13 (cds (Txt.mul ("a" : Str) 300)) = 2 * 3 ^ 299 * 2 := by
        rw [aa13.2]
        unfold weighN
        have h9 := long13 299
        show ((([1] : List Nat).map fun r => (wvs (fun _ _ b => 1 + (b : Int)) mL13 (alone 2 [0, 1]) (List.replicate (299 + 1) 97)).getD r 0)).sum = _
        rw [h9]
        show (4 * 3 ^ 299 : Int) + 0 = _
        omega
      rw [hW]
      repeat walk_at "ge"
      refine b_mul (.inr ⟨by decide, by decide⟩) ?_
      refine b_eqI ?_
      rw [decide_eq_true rfl]
      exact .keep q
end
end K13
set_option pp.maxSteps 1200
namespace K13
open PySem PySem.Spec L2 Al
open PyProof.Rows hiding St
local macro_rules | `(tactic| walk_at "v") => `(tactic| first | refine ae_var 0 rfl ?_ | refine ae_var 1 rfl ?_ | refine ae_var 2 rfl ?_ | refine ae_var 3 rfl ?_ | refine ae_var 4 rfl ?_ | refine ae_var 5 rfl ?_ | refine ae_var 6 rfl ?_ | refine ae_var 7 rfl ?_ | refine ae_var 8 rfl ?_ | refine ae_var 9 rfl ?_ | refine ae_var 10 rfl ?_ | refine ae_var 11 rfl ?_ | refine ae_var 12 rfl ?_ | refine ae_var 13 rfl ?_ | refine ae_var 14 rfl ?_ | refine ae_var 15 rfl ?_ | refine ae_var 16 rfl ?_ | refine ae_var 17 rfl ?_ | refine ae_var 18 rfl ?_ | refine ae_var 19 rfl ?_ | refine ae_ty (Txt.int_ ‹_›) boot_int ?_ | refine ae_ty (Txt.str_ ‹_›) boot_str ?_ | refine ae_ty (Txt.bool_ ‹_›) boot_bool ?_ | refine ae_ty (Txt.list_ ‹_›) boot_list ?_ | refine ae_ty (Txt.tuple_ ‹_›) boot_tuple ?_ | refine ae_globS (Txt.LETTERS ‹_›).choose_spec ?_ | refine ae_globI (Txt.MOST_ROOMS ‹_›).choose_spec ?_ | refine ae_globI (Txt.MOST_STEPS ‹_›).choose_spec ?_ | refine ae_globI (Txt.MOST_WORD ‹_›).choose_spec ?_)
local macro_rules | `(tactic| walk_at "ge") => `(tactic| first
  | ((with_reducible show ite (true = true) _ _); refine iteT ?_)
  | ((with_reducible show ite (false = true) _ _); refine iteF ?_)
  | ((with_reducible show ite ((!true) = true) _ _); refine iteF ?_)
  | ((with_reducible show ite ((!false) = true) _ _); refine iteT ?_)
  | ((with_reducible show IsB _ _ _); refine isB_mk ?_)
  | ((with_reducible show AE _ (Expr.Name _ _) _ _ _); walk_at "v")
  | ((with_reducible show AE _ (Expr.Constant (Const.int _) _ _) _ _ _); refine ae_int ?_)
  | ((with_reducible show AE _ (Expr.Constant (Const.str _) _ _) _ _ _); refine ae_str ?_)
  | ((with_reducible show AE _ (Expr.Constant (Const.bool _) _ _) _ _ _); refine ae_bl ?_)
  | ((with_reducible show AE _ (Expr.Constant Const.none _ _) _ _ _); refine ae_non ?_)
  | ((with_reducible show AO1 _ (some _) _ _ _); refine ao_some ?_)
  | ((with_reducible show AO1 _ none _ _ _); refine ao_none ?_)
  | ((with_reducible show AE _ (Expr.BinOp _ _ _ _) _ _ _); refine ae_bin ?_)
  | ((with_reducible show AE _ (Expr.Compare _ [_] [_] _) _ _ _); refine ae_cmp ?_)
  | ((with_reducible show AE _ (Expr.Compare _ [_, _] [_, _] _) _ _ _); refine ae_chain ?_)
  | ((with_reducible show AE _ (Expr.Subscript _ (Expr.Slice none none (some _) _) _) _ _ _); refine ae_revS ?_)
  | ((with_reducible show AE _ (Expr.Subscript _ (Expr.Slice _ _ _ _) _) _ _ _); fail)
  | ((with_reducible show AE _ (Expr.Subscript _ _ _) _ _ _); refine ae_ix ?_)
  | ((with_reducible show AE _ (Expr.BoolOp _ [_] _) _ _ _); refine ae_one ?_)
  | ((with_reducible show AE _ (Expr.BoolOp BoolOp.And _ _) _ _ _); refine ae_and ?_)
  | ((with_reducible show AE _ (Expr.BoolOp BoolOp.Or _ _) _ _ _); refine ae_or ?_)
  | ((with_reducible show AE _ (Expr.UnaryOp UnaryOp.Not _ _) _ _ _); refine ae_not ?_)
  | ((with_reducible show AE _ (Expr.UnaryOp _ _ _) _ _ _); refine ae_un ?_)
  | ((with_reducible show AE _ (Expr.IfExp _ _ _ _) _ _ _); refine ae_if ?_)
  | ((with_reducible show AT _ (Expr.Compare _ [_] [_] _) _ _ _); refine at_cmp ?_)
  | ((with_reducible show AT _ (Expr.Compare _ [_, _] [_, _] _) _ _ _); refine at_chain ?_)
  | ((with_reducible show AT _ (Expr.UnaryOp UnaryOp.Not _ _) _ _ _); refine at_not ?_)
  | ((with_reducible show AT _ (Expr.BoolOp _ _ _) _ _ _); refine at_w ?_)
  | ((with_reducible show AT _ (Expr.Call _ _ _ _) _ _ _); refine at_val ?_)
  | ((with_reducible show AT _ (Expr.Name _ _) _ _ _); refine at_val ?_)
  | ((with_reducible show AW _ (Expr.BoolOp BoolOp.And [_] _) _ _ _); refine aw_and1 ?_)
  | ((with_reducible show AW _ (Expr.BoolOp BoolOp.Or [_] _) _ _ _); refine aw_or1 ?_)
  | ((with_reducible show AW _ (Expr.BoolOp BoolOp.And _ _) _ _ _); refine aw_and ?_)
  | ((with_reducible show AW _ (Expr.BoolOp BoolOp.Or _ _) _ _ _); refine aw_or ?_)
  | ((with_reducible show AA _ [] _ _ _); refine aa_nil ?_)
  | ((with_reducible show AA _ (_ :: _) _ _ _); refine aa_cons ?_)
  | ((with_reducible show BinA _ (binaryOp Operator.Add) (PV.d (PyData.int _)) (PV.d (PyData.int _)) _ _); refine b_add ?_)
  | ((with_reducible show BinA _ (binaryOp Operator.Sub) (PV.d (PyData.int _)) (PV.d (PyData.int _)) _ _); refine b_sub ?_)
  | ((with_reducible show BinA _ (compareOp CmpOp.Lt) (PV.d (PyData.int _)) (PV.d (PyData.int _)) _ _); refine b_lt ?_)
  | ((with_reducible show BinA _ (compareOp CmpOp.LtE) (PV.d (PyData.int _)) (PV.d (PyData.int _)) _ _); refine b_le ?_)
  | ((with_reducible show BinA _ (compareOp CmpOp.Gt) (PV.d (PyData.int _)) (PV.d (PyData.int _)) _ _); refine b_gt ?_)
  | ((with_reducible show BinA _ (compareOp CmpOp.GtE) (PV.d (PyData.int _)) (PV.d (PyData.int _)) _ _); refine b_ge ?_)
  | ((with_reducible show BinA _ (compareOp CmpOp.Eq) (PV.d (PyData.int _)) (PV.d (PyData.int _)) _ _); refine b_eqI ?_)
  | ((with_reducible show BinA _ (compareOp CmpOp.NotEq) (PV.d (PyData.int _)) (PV.d (PyData.int _)) _ _); refine b_neI ?_)
  | ((with_reducible show BinA _ (compareOp CmpOp.Eq) (PV.d (PyData.str _)) (PV.d (PyData.str _)) _ _); refine b_eqS ?_)
  | ((with_reducible show BinA _ (compareOp CmpOp.NotEq) (PV.d (PyData.str _)) (PV.d (PyData.str _)) _ _); refine b_neS ?_)
  | ((with_reducible show BinA _ (compareOp CmpOp.LtE) (PV.d (PyData.str _)) (PV.d (PyData.str _)) _ _); refine b_leS ?_)
  | ((with_reducible show BinA _ (compareOp CmpOp.Lt) (PV.d (PyData.str _)) (PV.d (PyData.str _)) _ _); refine b_ltS ?_)
  | ((with_reducible show BinA _ (compareOp CmpOp.Eq) (PV.d (PyData.bool _)) (PV.d (PyData.bool _)) _ _); refine b_eqB ?_)
  | ((with_reducible show AE _ (Expr.Call (Expr.Name "int" _) _ [] _) _ _ _); refine ae_callTy rfl (Txt.int_ ‹_›) boot_int ?_)
  | ((with_reducible show AE _ (Expr.Call (Expr.Name "isinstance" _) _ [] _) _ _ _); refine ae_callB rfl (Txt.isi_ ‹_›) boot_isinstance ?_)
  | ((with_reducible show AE _ (Expr.Call (Expr.Name "len" _) _ [] _) _ _ _); refine ae_callB rfl (Txt.len_ ‹_›) PySem.boot_len ?_)
  | ((with_reducible show AE _ (Expr.Call (Expr.Name "list" _) _ [] _) _ _ _); refine ae_callTy rfl (Txt.list_ ‹_›) boot_list ?_)
  | ((with_reducible show AE _ (Expr.Call (Expr.Name "max" _) _ [] _) _ _ _); refine ae_callB rfl (Txt.max_ ‹_›) boot_max ?_)
  | ((with_reducible show AE _ (Expr.Call (Expr.Name "min" _) _ [] _) _ _ _); refine ae_callB rfl (Txt.min_ ‹_›) boot_min ?_)
  | ((with_reducible show AE _ (Expr.Call (Expr.Name "repr" _) _ [] _) _ _ _); refine ae_callB rfl (Txt.repr_ ‹_›) PyProof.Rows.boot_repr ?_)
  | ((with_reducible show AE _ (Expr.Call (Expr.Name "sum" _) _ [] _) _ _ _); refine ae_callB rfl (Txt.sum_ ‹_›) boot_sum ?_)
  | ((with_reducible show CallA _ (Value.builtin "isinstance") [PV.d _, PV.v (V.ty "int")] _ _); refine c_isInt ?_)
  | ((with_reducible show CallA _ (Value.builtin "isinstance") [PV.d _, PV.v (V.ty "str")] _ _); refine c_isStr ?_)
  | ((with_reducible show CallA _ (Value.builtin "isinstance") [PV.d _, PV.v (V.ty "bool")] _ _); refine c_isBool ?_)
  | ((with_reducible show CallA _ (Value.builtin "isinstance") [PV.d _, PV.v (V.ty "list")] _ _); refine c_isList ?_)
  | ((with_reducible show CallA _ (Value.builtin "isinstance") [PV.d _, PV.v (V.ty "tuple")] _ _); refine c_isTup ?_)
  | ((with_reducible show CallA _ (Value.builtin "len") [PV.d (PyData.list _)] _ _); refine c_lenL ?_)
  | ((with_reducible show CallA _ (Value.builtin "len") [PV.d (PyData.tuple _)] _ _); refine c_lenT ?_)
  | ((with_reducible show CallA _ (Value.builtin "sum") [PV.d (PyData.list (List.map PyData.int _))] _ _); refine c_sum rfl ?_)
  | ((with_reducible show CallA _ (Value.type "int") [PV.d (PyData.bool _)] _ _); refine c_intB ?_)
  | ((with_reducible show AE _ (Expr.Call (Expr.Attribute _ "append" _) _ _ _) _ _ _); refine ae_bm PySem.F.plainAttrs_list PySem.F.slot_list_append PySem.F.type_list_append ?_)
  | ((with_reducible show BinA _ (inplaceOp Operator.Add) (PV.d (PyData.int _)) (PV.d (PyData.int _)) _ _); refine ib_add ?_)
  | ((with_reducible show UnA _ (unaryOp UnaryOp.USub) (PV.d (PyData.int _)) _ _); refine u_neg ?_)
  | ((with_reducible show IxA _ (PV.d (mD _)) (PV.d (PyData.int 0)) _ _); refine ixm0 ?_)
  | ((with_reducible show IxA _ (PV.d (mD _)) (PV.d (PyData.int 1)) _ _); refine ixm1 ?_)
  | ((with_reducible show IxA _ (PV.d (mD _)) (PV.d (PyData.int 2)) _ _); refine ixm2 ?_)
  | ((with_reducible show IxA _ (PV.d (mD _)) (PV.d (PyData.int 3)) _ _); refine ixm3 ?_)
  | ((with_reducible show IxA _ (PV.d (stD _)) (PV.d (PyData.int 0)) _ _); refine ixs0 ?_)
  | ((with_reducible show IxA _ (PV.d (stD _)) (PV.d (PyData.int 1)) _ _); refine ixs1 ?_)
  | ((with_reducible show IxA _ (PV.d (stD _)) (PV.d (PyData.int 2)) _ _); refine ixs2 ?_))
local macro_rules | `(tactic| walk_at "go1") => `(tactic| first
  | walk_at "ge"
  | ((with_reducible show ASs _ (_ :: _) _ _ _); refine as_cons ?_)
  | ((with_reducible show ASs _ [] _ _ _); refine as_nil ?_)
  | ((with_reducible show AS _ (Stmt.Return (some _) _) _ _ _); refine as_ret ?_)
  | ((with_reducible show AS _ (Stmt.If _ _ _ _) _ _ _); refine as_if ?_)
  | ((with_reducible show AS _ (Stmt.Expr _ _) _ _ _); refine as_expr ?_))
section
variable {P : Program} {w : World} {K : PySem.W.Frag} {mg : Str → Option Value} {base : Heap}
def forB : List Stmt → List Stmt
  | [] => []
  | .For _ _ b _ _ :: _ => b
  | _ :: r => forB r
def gs (i : Nat) : Stmt := (forB (defBody s_law)).getD i (.Pass ⟨0, 0, 0, 0⟩)
def asgE : Stmt → Expr
  | .Assign _ (.List [e] _) _ => e
  | _ => nonE
def appE : Stmt → Expr
  | .Expr (.Call _ [e] _ _) _ => e
  | _ => nonE
def ifE : Stmt → Expr
  | .If (.Compare c _ _ _) _ _ _ => callE c
  | _ => nonE
abbrev q_lamW : Str := ("law" : Str) ++ (".<locals>." : Str) ++ ("<lambda>" : Str)
abbrev e_lam1 : Expr := asgE (gs 8)
abbrev sc_lam1 : Scope := lamS e_lam1 (defScope s_law)
abbrev lf_lam1 (cl : List (Str × Addr)) (c' : Addr) : LF := ⟨q_lamW, lamP e_lam1 (defArgs s_law), lamB e_lam1, sc_lam1, cl, c'⟩
theorem bs_lam1 : BScope ["_law_room", "_law_sign", "_law_to", "_law_drawn"] ["_law_room", "_law_sign", "_law_to"] ["_law_drawn"] sc_lam1 := bscope_by (by decide +kernel)
theorem nb_lam1 : NdefX.ndefB (defScope s_law) sc_lam1 ["_law_drawn"] = true := by decide +kernel
theorem ok_lam1 {cl : List (Str × Addr)} {c' f : Addr} : COk P w K mg base (CX P w) 1 f (.lm (lf_lam1 cl c')) 3 ["_law_drawn"] (spC K mg rLm1) := by
  refine okLm (F := lf_lam1 cl c') (N := ["_law_room", "_law_sign", "_law_to", "_law_drawn"]) (ps := ["_law_room", "_law_sign", "_law_to"]) bs_lam1 (fun pm ctv us hl => match us, hl with | [_, _, _], _ => rfl) (fun caps args O Φ Ξ hcl h => ?_) (fun A outer s H E as0 F0 caps args O Φ Ξ hr hcl hal h => ?_)
  · obtain ⟨j, kvs, a, c, b, e, hO, hd, cl2, q⟩ := h
    match caps, args, hcl, e with
    | [_], [_, _, _], _, _ => rfl
  · obtain ⟨j, kvs, a, c, b, e, hO, hd, cl2, q⟩ := h
    match caps, args, hcl, hal, e with
    | [_], [_, _, _], _, _, e =>
      cases e
      refine ae_bm PySem.F.plainAttrs_dict PySem.F.slot_dict_get PySem.F.type_dict_get ?_
      refine ae_var 3 rfl ?_
      refine ⟨ty_DT hO, ?_⟩
      refine aa_cons (ae_tupD (aa_cons (ae_var 0 rfl (aa_cons (ae_var 1 rfl (aa_cons (ae_var 2 rfl (aa_nil ?_))))))))
      refine ⟨[iD a, sgD c, iD b], rfl, by show 3 ≤ 16000000; decide, ?_⟩
      refine aa_cons (ae_int (aa_nil ?_))
      refine m_getDT (kvs := kvs) (ks := [kR a, kSg c, kR b]) (hu_of hr.r) hO (fun v hv => ?_) fun hn => ?_
      · rw [drw_some hd hv]
        exact .keep q
      · rw [drw_none hn] at q
        exact .keep q
abbrev e_lam2 : Expr := appE (gs 9)
abbrev sc_lam2 : Scope := lamS e_lam2 (defScope s_law)
abbrev lf_lam2 (cl : List (Str × Addr)) (c' : Addr) : LF := ⟨q_lamW, lamP e_lam2 (defArgs s_law), lamB e_lam2, sc_lam2, cl, c'⟩
theorem bs_lam2 : BScope ["_law_here", "_law_sign", "_law_to"] ["_law_here", "_law_sign", "_law_to"] [] sc_lam2 := bscope_by (by decide +kernel)
theorem nb_lam2 : NdefX.ndefB (defScope s_law) sc_lam2 [] = true := by decide +kernel
theorem ok_lam2 {cl : List (Str × Addr)} {c' f : Addr} : COk P w K mg base (CX P w) 1 f (.lm (lf_lam2 cl c')) 3 [] (spC K mg rLm2) := by
  refine okLm (F := lf_lam2 cl c') (N := ["_law_here", "_law_sign", "_law_to"]) (ps := ["_law_here", "_law_sign", "_law_to"]) bs_lam2 (fun pm ctv us hl => match us, hl with | [_, _, _], _ => rfl) (fun caps args O Φ Ξ hcl h => ?_) (fun A outer s H E as0 F0 caps args O Φ Ξ hr hcl hal h => ?_)
  · obtain ⟨a, c, b, e, q⟩ := h
    match caps, args, hcl, e with
    | [], [_, _, _], _, _ => rfl
  · obtain ⟨a, c, b, e, q⟩ := h
    match caps, args, hcl, hal, e with
    | [], [_, _, _], _, _, e =>
      cases e
      refine ae_bin (ae_var 0 rfl (ae_var 2 rfl ?_))
      refine b_sub ?_
      exact .keep q
abbrev e_lam3 : Expr := appE (gs 10)
abbrev sc_lam3 : Scope := lamS e_lam3 (defScope s_law)
abbrev lf_lam3 (cl : List (Str × Addr)) (c' : Addr) : LF := ⟨q_lamW, lamP e_lam3 (defArgs s_law), lamB e_lam3, sc_lam3, cl, c'⟩
theorem bs_lam3 : BScope ["_law_room", "_law_letter", "_law_to", "_law_letters_here"] ["_law_room", "_law_letter", "_law_to"] ["_law_letters_here"] sc_lam3 := bscope_by (by decide +kernel)
theorem nb_lam3 : NdefX.ndefB (defScope s_law) sc_lam3 ["_law_letters_here"] = true := by decide +kernel
theorem ok_lam3 {cl : List (Str × Addr)} {c' f : Addr} : COk P w K mg base (CX P w) 1 f (.lm (lf_lam3 cl c')) 3 ["_law_letters_here"] (spC K mg rLm3) := by
  refine okLm (F := lf_lam3 cl c') (N := ["_law_room", "_law_letter", "_law_to", "_law_letters_here"]) (ps := ["_law_room", "_law_letter", "_law_to"]) bs_lam3 (fun pm ctv us hl => match us, hl with | [_, _, _], _ => rfl) (fun caps args O Φ Ξ hcl h => ?_) (fun A outer s H E as0 F0 caps args O Φ Ξ hr hcl hal h => ?_)
  · obtain ⟨z, a, c, b, e, cl2, q⟩ := h
    match caps, args, hcl, e with
    | [_], [_, _, _], _, _ => rfl
  · obtain ⟨z, a, c, b, e, cl2, q⟩ := h
    match caps, args, hcl, hal, e with
    | [_], [_, _, _], _, _, e =>
      cases e
      refine ae_bin (ae_bm PySem.F.plainAttrs_str PySem.F.slot_str_find PySem.F.type_str_find ?_)
      refine ae_var 3 rfl ?_
      refine ⟨ty_S, ?_⟩
      refine aa_cons (ae_var 1 rfl (aa_nil ?_))
      refine m_find ?_
      refine ae_int ?_
      refine b_add ?_
      exact .keep q
abbrev e_lam4 : Expr := appE (gs 11)
abbrev sc_lam4 : Scope := lamS e_lam4 (defScope s_law)
abbrev lf_lam4 (cl : List (Str × Addr)) (c' : Addr) : LF := ⟨q_lamW, lamP e_lam4 (defArgs s_law), lamB e_lam4, sc_lam4, cl, c'⟩
theorem bs_lam4 : BScope ["_law_room", "_law_sign", "_law_other", "_law_many"] ["_law_room", "_law_sign", "_law_other"] ["_law_many"] sc_lam4 := bscope_by (by decide +kernel)
theorem nb_lam4 : NdefX.ndefB (defScope s_law) sc_lam4 ["_law_many"] = true := by decide +kernel
theorem ok_lam4 {cl : List (Str × Addr)} {c' f : Addr} : COk P w K mg base (CX P w) 1 f (.lm (lf_lam4 cl c')) 3 ["_law_many"] (spC K mg rLm4) := by
  refine okLm (F := lf_lam4 cl c') (N := ["_law_room", "_law_sign", "_law_other", "_law_many"]) (ps := ["_law_room", "_law_sign", "_law_other"]) bs_lam4 (fun pm ctv us hl => match us, hl with | [_, _, _], _ => rfl) (fun caps args O Φ Ξ hcl h => ?_) (fun A outer s H E as0 F0 caps args O Φ Ξ hr hcl hal h => ?_)
  · obtain ⟨k, a, c, b, e, hb, q⟩ := h
    match caps, args, hcl, e with
    | [_], [_, _, _], _, _ => rfl
  · obtain ⟨k, a, c, b, e, hb, q⟩ := h
    match caps, args, hcl, hal, e with
    | [_], [_, _, _], _, _, e =>
      cases e
      refine ae_bin (ae_var 2 rfl (ae_var 3 rfl ?_))
      refine b_mul (.inl ⟨by omega, by omega⟩) ?_
      exact .keep q
abbrev e_lam5 : Expr := appE (gs 12)
abbrev sc_lam5 : Scope := lamS e_lam5 (defScope s_law)
abbrev lf_lam5 (cl : List (Str × Addr)) (c' : Addr) : LF := ⟨q_lamW, lamP e_lam5 (defArgs s_law), lamB e_lam5, sc_lam5, cl, c'⟩
theorem bs_lam5 : BScope ["_law_one", "_law_sign", "_law_other", "_law_many"] ["_law_one", "_law_sign", "_law_other"] ["_law_many"] sc_lam5 := bscope_by (by decide +kernel)
theorem nb_lam5 : NdefX.ndefB (defScope s_law) sc_lam5 ["_law_many"] = true := by decide +kernel
theorem ok_lam5 {cl : List (Str × Addr)} {c' f : Addr} : COk P w K mg base (CX P w) 1 f (.lm (lf_lam5 cl c')) 3 ["_law_many"] (spC K mg rLm5) := by
  refine okLm (F := lf_lam5 cl c') (N := ["_law_one", "_law_sign", "_law_other", "_law_many"]) (ps := ["_law_one", "_law_sign", "_law_other"]) bs_lam5 (fun pm ctv us hl => match us, hl with | [_, _, _], _ => rfl) (fun caps args O Φ Ξ hcl h => ?_) (fun A outer s H E as0 F0 caps args O Φ Ξ hr hcl hal h => ?_)
  · obtain ⟨k, a, c, b, e, q⟩ := h
    match caps, args, hcl, e with
    | [_], [_, _, _], _, _ => rfl
  · obtain ⟨k, a, c, b, e, q⟩ := h
    match caps, args, hcl, hal, e with
    | [_], [_, _, _], _, _, e =>
      cases e
      refine ae_var 3 rfl ?_
      exact .keep q
abbrev e_lam6 : Expr := ifE (gs 14)
abbrev sc_lam6 : Scope := lamS e_lam6 (defScope s_law)
abbrev lf_lam6 (cl : List (Str × Addr)) (c' : Addr) : LF := ⟨q_lamW, lamP e_lam6 (defArgs s_law), lamB e_lam6, sc_lam6, cl, c'⟩
theorem bs_lam6 : BScope ["_law_first", "_law_second", "_law_third"] ["_law_first", "_law_second", "_law_third"] [] sc_lam6 := bscope_by (by decide +kernel)
theorem nb_lam6 : NdefX.ndefB (defScope s_law) sc_lam6 [] = true := by decide +kernel
theorem ok_lam6 {cl : List (Str × Addr)} {c' f : Addr} : COk P w K mg base (CX P w) 1 f (.lm (lf_lam6 cl c')) 3 [] (spC K mg rLm6) := by
  refine okLm (F := lf_lam6 cl c') (N := ["_law_first", "_law_second", "_law_third"]) (ps := ["_law_first", "_law_second", "_law_third"]) bs_lam6 (fun pm ctv us hl => match us, hl with | [_, _, _], _ => rfl) (fun caps args O Φ Ξ hcl h => ?_) (fun A outer s H E as0 F0 caps args O Φ Ξ hr hcl hal h => ?_)
  · obtain ⟨a, c, b, e, q⟩ := h
    match caps, args, hcl, e with
    | [], [_, _, _], _, _ => rfl
  · obtain ⟨a, c, b, e, q⟩ := h
    match caps, args, hcl, hal, e with
    | [], [_, _, _], _, _, e =>
      cases e
      refine ae_int ?_
      exact .keep q
end
end K13
set_option pp.maxSteps 1200
namespace K13
open PySem PySem.Spec L2 Al
open PyProof.Rows hiding St
local macro_rules | `(tactic| walk_at "v") => `(tactic| first | refine ae_var 0 rfl ?_ | refine ae_var 1 rfl ?_ | refine ae_var 2 rfl ?_ | refine ae_var 3 rfl ?_ | refine ae_var 4 rfl ?_ | refine ae_var 5 rfl ?_ | refine ae_var 6 rfl ?_ | refine ae_var 7 rfl ?_ | refine ae_var 8 rfl ?_ | refine ae_var 9 rfl ?_ | refine ae_var 10 rfl ?_ | refine ae_var 11 rfl ?_ | refine ae_var 12 rfl ?_ | refine ae_var 13 rfl ?_ | refine ae_var 14 rfl ?_ | refine ae_var 15 rfl ?_ | refine ae_var 16 rfl ?_ | refine ae_var 17 rfl ?_ | refine ae_var 18 rfl ?_ | refine ae_var 19 rfl ?_ | refine ae_ty (Txt.int_ ‹_›) boot_int ?_ | refine ae_ty (Txt.str_ ‹_›) boot_str ?_ | refine ae_ty (Txt.bool_ ‹_›) boot_bool ?_ | refine ae_ty (Txt.list_ ‹_›) boot_list ?_ | refine ae_ty (Txt.tuple_ ‹_›) boot_tuple ?_ | refine ae_globS (Txt.LETTERS ‹_›).choose_spec ?_ | refine ae_globI (Txt.MOST_ROOMS ‹_›).choose_spec ?_ | refine ae_globI (Txt.MOST_STEPS ‹_›).choose_spec ?_ | refine ae_globI (Txt.MOST_WORD ‹_›).choose_spec ?_)
local macro_rules | `(tactic| walk_at "ge") => `(tactic| first
  | ((with_reducible show ite (true = true) _ _); refine iteT ?_)
  | ((with_reducible show ite (false = true) _ _); refine iteF ?_)
  | ((with_reducible show ite ((!true) = true) _ _); refine iteF ?_)
  | ((with_reducible show ite ((!false) = true) _ _); refine iteT ?_)
  | ((with_reducible show IsB _ _ _); refine isB_mk ?_)
  | ((with_reducible show AE _ (Expr.Name _ _) _ _ _); walk_at "v")
  | ((with_reducible show AE _ (Expr.Constant (Const.int _) _ _) _ _ _); refine ae_int ?_)
  | ((with_reducible show AE _ (Expr.Constant (Const.str _) _ _) _ _ _); refine ae_str ?_)
  | ((with_reducible show AE _ (Expr.Constant (Const.bool _) _ _) _ _ _); refine ae_bl ?_)
  | ((with_reducible show AE _ (Expr.Constant Const.none _ _) _ _ _); refine ae_non ?_)
  | ((with_reducible show AO1 _ (some _) _ _ _); refine ao_some ?_)
  | ((with_reducible show AO1 _ none _ _ _); refine ao_none ?_)
  | ((with_reducible show AE _ (Expr.BinOp _ _ _ _) _ _ _); refine ae_bin ?_)
  | ((with_reducible show AE _ (Expr.Compare _ [_] [_] _) _ _ _); refine ae_cmp ?_)
  | ((with_reducible show AE _ (Expr.Compare _ [_, _] [_, _] _) _ _ _); refine ae_chain ?_)
  | ((with_reducible show AE _ (Expr.Subscript _ (Expr.Slice none none (some _) _) _) _ _ _); refine ae_revS ?_)
  | ((with_reducible show AE _ (Expr.Subscript _ (Expr.Slice _ _ _ _) _) _ _ _); fail)
  | ((with_reducible show AE _ (Expr.Subscript _ _ _) _ _ _); refine ae_ix ?_)
  | ((with_reducible show AE _ (Expr.BoolOp _ [_] _) _ _ _); refine ae_one ?_)
  | ((with_reducible show AE _ (Expr.BoolOp BoolOp.And _ _) _ _ _); refine ae_and ?_)
  | ((with_reducible show AE _ (Expr.BoolOp BoolOp.Or _ _) _ _ _); refine ae_or ?_)
  | ((with_reducible show AE _ (Expr.UnaryOp UnaryOp.Not _ _) _ _ _); refine ae_not ?_)
  | ((with_reducible show AE _ (Expr.UnaryOp _ _ _) _ _ _); refine ae_un ?_)
  | ((with_reducible show AE _ (Expr.IfExp _ _ _ _) _ _ _); refine ae_if ?_)
  | ((with_reducible show AT _ (Expr.Compare _ [_] [_] _) _ _ _); refine at_cmp ?_)
  | ((with_reducible show AT _ (Expr.Compare _ [_, _] [_, _] _) _ _ _); refine at_chain ?_)
  | ((with_reducible show AT _ (Expr.UnaryOp UnaryOp.Not _ _) _ _ _); refine at_not ?_)
  | ((with_reducible show AT _ (Expr.BoolOp _ _ _) _ _ _); refine at_w ?_)
  | ((with_reducible show AT _ (Expr.Call _ _ _ _) _ _ _); refine at_val ?_)
  | ((with_reducible show AT _ (Expr.Name _ _) _ _ _); refine at_val ?_)
  | ((with_reducible show AW _ (Expr.BoolOp BoolOp.And [_] _) _ _ _); refine aw_and1 ?_)
  | ((with_reducible show AW _ (Expr.BoolOp BoolOp.Or [_] _) _ _ _); refine aw_or1 ?_)
  | ((with_reducible show AW _ (Expr.BoolOp BoolOp.And _ _) _ _ _); refine aw_and ?_)
  | ((with_reducible show AW _ (Expr.BoolOp BoolOp.Or _ _) _ _ _); refine aw_or ?_)
  | ((with_reducible show AA _ [] _ _ _); refine aa_nil ?_)
  | ((with_reducible show AA _ (_ :: _) _ _ _); refine aa_cons ?_)
  | ((with_reducible show BinA _ (binaryOp Operator.Add) (PV.d (PyData.int _)) (PV.d (PyData.int _)) _ _); refine b_add ?_)
  | ((with_reducible show BinA _ (binaryOp Operator.Sub) (PV.d (PyData.int _)) (PV.d (PyData.int _)) _ _); refine b_sub ?_)
  | ((with_reducible show BinA _ (compareOp CmpOp.Lt) (PV.d (PyData.int _)) (PV.d (PyData.int _)) _ _); refine b_lt ?_)
  | ((with_reducible show BinA _ (compareOp CmpOp.LtE) (PV.d (PyData.int _)) (PV.d (PyData.int _)) _ _); refine b_le ?_)
  | ((with_reducible show BinA _ (compareOp CmpOp.Gt) (PV.d (PyData.int _)) (PV.d (PyData.int _)) _ _); refine b_gt ?_)
  | ((with_reducible show BinA _ (compareOp CmpOp.GtE) (PV.d (PyData.int _)) (PV.d (PyData.int _)) _ _); refine b_ge ?_)
  | ((with_reducible show BinA _ (compareOp CmpOp.Eq) (PV.d (PyData.int _)) (PV.d (PyData.int _)) _ _); refine b_eqI ?_)
  | ((with_reducible show BinA _ (compareOp CmpOp.NotEq) (PV.d (PyData.int _)) (PV.d (PyData.int _)) _ _); refine b_neI ?_)
  | ((with_reducible show BinA _ (compareOp CmpOp.Eq) (PV.d (PyData.str _)) (PV.d (PyData.str _)) _ _); refine b_eqS ?_)
  | ((with_reducible show BinA _ (compareOp CmpOp.NotEq) (PV.d (PyData.str _)) (PV.d (PyData.str _)) _ _); refine b_neS ?_)
  | ((with_reducible show BinA _ (compareOp CmpOp.LtE) (PV.d (PyData.str _)) (PV.d (PyData.str _)) _ _); refine b_leS ?_)
  | ((with_reducible show BinA _ (compareOp CmpOp.Lt) (PV.d (PyData.str _)) (PV.d (PyData.str _)) _ _); refine b_ltS ?_)
  | ((with_reducible show BinA _ (compareOp CmpOp.Eq) (PV.d (PyData.bool _)) (PV.d (PyData.bool _)) _ _); refine b_eqB ?_)
  | ((with_reducible show AE _ (Expr.Call (Expr.Name "int" _) _ [] _) _ _ _); refine ae_callTy rfl (Txt.int_ ‹_›) boot_int ?_)
  | ((with_reducible show AE _ (Expr.Call (Expr.Name "isinstance" _) _ [] _) _ _ _); refine ae_callB rfl (Txt.isi_ ‹_›) boot_isinstance ?_)
  | ((with_reducible show AE _ (Expr.Call (Expr.Name "len" _) _ [] _) _ _ _); refine ae_callB rfl (Txt.len_ ‹_›) PySem.boot_len ?_)
  | ((with_reducible show AE _ (Expr.Call (Expr.Name "list" _) _ [] _) _ _ _); refine ae_callTy rfl (Txt.list_ ‹_›) boot_list ?_)
  | ((with_reducible show AE _ (Expr.Call (Expr.Name "max" _) _ [] _) _ _ _); refine ae_callB rfl (Txt.max_ ‹_›) boot_max ?_)
  | ((with_reducible show AE _ (Expr.Call (Expr.Name "min" _) _ [] _) _ _ _); refine ae_callB rfl (Txt.min_ ‹_›) boot_min ?_)
  | ((with_reducible show AE _ (Expr.Call (Expr.Name "repr" _) _ [] _) _ _ _); refine ae_callB rfl (Txt.repr_ ‹_›) PyProof.Rows.boot_repr ?_)
  | ((with_reducible show AE _ (Expr.Call (Expr.Name "sum" _) _ [] _) _ _ _); refine ae_callB rfl (Txt.sum_ ‹_›) boot_sum ?_)
  | ((with_reducible show AE _ (Expr.Call (Expr.Name "_law_hand" _) _ [] _) _ _ _); refine ae_callA ‹D__law_hand _› (RoomG.mono ‹_› (by first | decide | omega)) ?_)
  | ((with_reducible show AE _ (Expr.Call (Expr.Name "_law_draw" _) _ [] _) _ _ _); refine ae_callA ‹D__law_draw _› (RoomG.mono ‹_› (by first | decide | omega)) ?_)
  | ((with_reducible show AE _ (Expr.Call (Expr.Name "_law_letters" _) _ [] _) _ _ _); refine ae_callA ‹D__law_letters _› (RoomG.mono ‹_› (by first | decide | omega)) ?_)
  | ((with_reducible show AE _ (Expr.Call (Expr.Name "_law_machine" _) _ [] _) _ _ _); refine ae_callA ‹D__law_machine _› (RoomG.mono ‹_› (by first | decide | omega)) ?_)
  | ((with_reducible show AE _ (Expr.Call (Expr.Name "_law_word" _) _ [] _) _ _ _); refine ae_callA ‹D__law_word _› (RoomG.mono ‹_› (by first | decide | omega)) ?_)
  | ((with_reducible show AE _ (Expr.Call (Expr.Name "_law_long" _) _ [] _) _ _ _); refine ae_callA ‹D__law_long _› (RoomG.mono ‹_› (by first | decide | omega)) ?_)
  | ((with_reducible show AE _ (Expr.Call (Expr.Name "_law_right" _) _ [] _) _ _ _); refine ae_callA ‹D__law_right _› (RoomG.mono ‹_› (by first | decide | omega)) ?_)
  | ((with_reducible show AE _ (Expr.Call (Expr.Name "weighed" _) _ [] _) _ _ _); refine ae_callA ‹D_weighed _› (RoomG.mono ‹_› (by first | decide | omega)) ?_)
  | ((with_reducible show AE _ (Expr.Call (Expr.Name "ways" _) _ [] _) _ _ _); refine ae_callD ‹D_ways _› (RoomG.mono ‹_› (by first | decide | omega)) ?_)
  | ((with_reducible show CallA _ (Value.builtin "isinstance") [PV.d _, PV.v (V.ty "int")] _ _); refine c_isInt ?_)
  | ((with_reducible show CallA _ (Value.builtin "isinstance") [PV.d _, PV.v (V.ty "str")] _ _); refine c_isStr ?_)
  | ((with_reducible show CallA _ (Value.builtin "isinstance") [PV.d _, PV.v (V.ty "bool")] _ _); refine c_isBool ?_)
  | ((with_reducible show CallA _ (Value.builtin "isinstance") [PV.d _, PV.v (V.ty "list")] _ _); refine c_isList ?_)
  | ((with_reducible show CallA _ (Value.builtin "isinstance") [PV.d _, PV.v (V.ty "tuple")] _ _); refine c_isTup ?_)
  | ((with_reducible show CallA _ (Value.builtin "len") [PV.d (PyData.list _)] _ _); refine c_lenL ?_)
  | ((with_reducible show CallA _ (Value.builtin "len") [PV.d (PyData.tuple _)] _ _); refine c_lenT ?_)
  | ((with_reducible show CallA _ (Value.builtin "sum") [PV.d (PyData.list (List.map PyData.int _))] _ _); refine c_sum rfl ?_)
  | ((with_reducible show CallA _ (Value.type "int") [PV.d (PyData.bool _)] _ _); refine c_intB ?_)
  | ((with_reducible show AE _ (Expr.Call (Expr.Attribute _ "append" _) _ _ _) _ _ _); refine ae_bm PySem.F.plainAttrs_list PySem.F.slot_list_append PySem.F.type_list_append ?_)
  | ((with_reducible show BinA _ (inplaceOp Operator.Add) (PV.d (PyData.int _)) (PV.d (PyData.int _)) _ _); refine ib_add ?_)
  | ((with_reducible show UnA _ (unaryOp UnaryOp.USub) (PV.d (PyData.int _)) _ _); refine u_neg ?_)
  | ((with_reducible show IxA _ (PV.d (mD _)) (PV.d (PyData.int 0)) _ _); refine ixm0 ?_)
  | ((with_reducible show IxA _ (PV.d (mD _)) (PV.d (PyData.int 1)) _ _); refine ixm1 ?_)
  | ((with_reducible show IxA _ (PV.d (mD _)) (PV.d (PyData.int 2)) _ _); refine ixm2 ?_)
  | ((with_reducible show IxA _ (PV.d (mD _)) (PV.d (PyData.int 3)) _ _); refine ixm3 ?_)
  | ((with_reducible show IxA _ (PV.d (stD _)) (PV.d (PyData.int 0)) _ _); refine ixs0 ?_)
  | ((with_reducible show IxA _ (PV.d (stD _)) (PV.d (PyData.int 1)) _ _); refine ixs1 ?_)
  | ((with_reducible show IxA _ (PV.d (stD _)) (PV.d (PyData.int 2)) _ _); refine ixs2 ?_))
local macro_rules | `(tactic| walk_at "go1") => `(tactic| first
  | walk_at "ge"
  | ((with_reducible show ASs _ (_ :: _) _ _ _); refine as_cons ?_)
  | ((with_reducible show ASs _ [] _ _ _); refine as_nil ?_)
  | ((with_reducible show AS _ (Stmt.Return (some _) _) _ _ _); refine as_ret ?_)
  | ((with_reducible show AS _ (Stmt.If _ _ _ _) _ _ _); refine as_if ?_)
  | ((with_reducible show AS _ (Stmt.Expr _ _) _ _ _); refine as_expr ?_))
section
variable {P : Program} {w : World} {K : PySem.W.Frag} {mg : Str → Option Value} {base : Heap}
theorem ok_law {f cL PL cB PB : Addr} {fd : FuncData} (F : Fun K "law" "law" s_law f fd) (T : Txt mg) (hcode : fd.code = .ref cB) (TB : LamX.TabB base mg cB PB) (E1 : D__law_hand ⟨P, w, K, mg, base⟩) (E2 : D__law_draw ⟨P, w, K, mg, base⟩) (E3 : D__law_letters ⟨P, w, K, mg, base⟩) (E4 : D__law_machine ⟨P, w, K, mg, base⟩) (E5 : D__law_word ⟨P, w, K, mg, base⟩)
    (E6 : DefA ⟨P, w, K, mg, base⟩ 7 "_law_long" P__law_long [] (up (rLong13 PL q_lamL))) (E7 : ∀ Rn, DefC ⟨P, w, K, mg, base⟩ 1 3 Rn 7 "_law_right" P__law_right (rRight13 Rn)) (E8 : ∀ Rn, DefC ⟨P, w, K, mg, base⟩ 1 3 Rn 6 "weighed" P_weighed (rWeighed Rn)) (E9 : D_ways ⟨P, w, K, mg, base⟩) : Fn ⟨P, w, K, mg, base⟩ 8 f fd P_law (up (rLawT [((cL, PL), q_lamL), ((cB, PB), q_lamW)])) := by
  refine okXc F sc_law (fun args O Φ Ξ h => ?_) (fun cdv hcd A outer s H E as0 F0 args O Φ Ξ hr h tk po => ?_)
  · obtain ⟨ns, rfl, _⟩ := h
    rfl
  · obtain ⟨ns, rfl, hn, rfl, q⟩ := h
    obtain rfl : cdv = .ref cB := hcd.symm.trans hcode
    show ASs _ _ _ [AO.tbl PL q_lamL, AO.tbl PB q_lamW] _
    refine as_cons (as_if (at_not (at_val (ae_callX0 E6 (hr.mono (by decide)) tk ⟨rfl, rfl, ⟨0, rfl⟩, ?_⟩))))
    refine ⟨true, rfl, iteF ?_⟩
    refine as_nil ?_
    refine as_cons ?_
    refine as_for po rfl (ai_range1 rfl T.range_ ?_)
    repeat walk_at "go1"
    refine c_lens ?_
    repeat walk_at "go1"
    refine c_min2 rfl ?_
    repeat walk_at "go1"
    refine c_max2 rfl ?_
    walk_at "ge"
    generalize em : (if (if (16 : Int) < (ns.length : Nat) then (16 : Int) else (ns.length : Nat)) > 1 then (if (16 : Int) < (ns.length : Nat) then (16 : Int) else (ns.length : Nat)) else (1 : Int)) = mm
    have m0 : 0 ≤ mm := by omega
    have m1 : mm ≤ 63 := by omega
    refine ⟨mm, rfl, by omega, by omega, fun i ρ' O' => O' = [AO.tbl PL q_lamL, AO.tbl PB q_lamW] ∧ ∃ (y1 y3 y4 y5 y7 y8 y9 : Option PyData), ρ' = [some (.s ns), y1.map PV.d, none, y3.map PV.d, y4.map PV.d, y5.map PV.d, none, y7.map PV.d, y8.map PV.d, y9.map PV.d, none, none], ⟨rfl, none, none, none, none, none, none, none, rfl⟩, fun _ _ _ _ => trivial, ?_, ?_⟩
    · rintro i x ρ' O' hx ⟨rfl, y1, y3, y4, y5, y7, y8, y9, rfl⟩
      obtain ⟨hj, rfl⟩ := rng_at hx
      refine ag_name 1 sc_law.nd ?_
      refine as_cons (as_set 2 sc_law.nd ?_)
      repeat walk_at "ge"
      refine ⟨ns, _, rfl, by omega, by omega, fun a0 s0 ok => ?_⟩
      show ASs _ _ [some (.s ns), some (.d (iD i)), some (.o 2), y3.map PV.d, y4.map PV.d, y5.map PV.d, none, y7.map PV.d, y8.map PV.d, y9.map PV.d, none, none] [AO.tbl PL q_lamL, AO.tbl PB q_lamW, hnd a0 s0] _
      have cl2 : ∀ a s, ClO [AO.tbl PL q_lamL, AO.tbl PB q_lamW, hnd a s] := fun a s => rfl
      refine as_cons (as_set 3 sc_law.nd ?_)
      repeat walk_at "ge"
      refine ⟨2, a0, s0, rfl, rfl, ok, fun z a1 s1 ok1 hz hz10 => ?_⟩
      show ASs _ _ [some (.s ns), some (.d (iD i)), some (.o 2), some (pS z), y4.map PV.d, y5.map PV.d, none, y7.map PV.d, y8.map PV.d, y9.map PV.d, none, none] [AO.tbl PL q_lamL, AO.tbl PB q_lamW, hnd a1 s1] _
      refine as_cons (as_set 4 sc_law.nd ?_)
      repeat walk_at "ge"
      refine ⟨2, a1, s1, 5, 7, z, rfl, rfl, ok1, by decide, by decide, by decide, by decide, hz, cl2 _ _, fun M a2 s2 ok2 hM hMn _ hMl => ?_⟩
      show ASs _ _ [some (.s ns), some (.d (iD i)), some (.o 2), some (pS z), some (.d (mD M)), y5.map PV.d, none, y7.map PV.d, y8.map PV.d, y9.map PV.d, none, none] [AO.tbl PL q_lamL, AO.tbl PB q_lamW, hnd a2 s2] _
      have hM1 := hM.n1
      refine as_cons (as_set 5 sc_law.nd ?_)
      repeat walk_at "ge"
      refine ⟨2, a2, s2, z, 5, rfl, rfl, ok2, hz, by decide, by decide, cl2 _ _, fun y a3 s3 ok3 hy hyz => ?_⟩
      show ASs _ _ [some (.s ns), some (.d (iD i)), some (.o 2), some (pS z), some (.d (mD M)), some (pS y), none, y7.map PV.d, y8.map PV.d, y9.map PV.d, none, none] [AO.tbl PL q_lamL, AO.tbl PB q_lamW, hnd a3 s3] _
      have hw : WordOk y := ⟨by omega, fun c hc => hz.all c (hyz c hc)⟩
      have hyl : (cds y).length ≤ 5 := by rw [cds_len]; omega
      have few : Few M (cds y) := fun i hi => by
        refine Nat.le_trans (prow_len M M.fs _) ?_
        have f1 : M.fs.length ≤ 12 := by have := hM.fs.len; omega
        have f2 : M.st.length ≤ 12 := by omega
        have f3 : ((cds y).take i).length ≤ 5 := by rw [List.length_take]; omega
        have f4 : M.st.length ^ ((cds y).take i).length ≤ 12 ^ 5 := Nat.le_trans (Nat.pow_le_pow_left f2 _) (Nat.pow_le_pow_right (by decide) f3)
        exact Nat.le_trans (Nat.mul_le_mul f1 f4) (by decide)
      refine as_cons (as_set 6 sc_law.nd (ae_dict0T ?_))
      show ASs _ _ [some (.s ns), some (.d (iD i)), some (.o 2), some (pS z), some (.d (mD M)), some (pS y), some (.o 3), y7.map PV.d, y8.map PV.d, y9.map PV.d, none, none] [AO.tbl PL q_lamL, AO.tbl PB q_lamW, hnd a3 s3, .dT []] _
      refine as_cons ?_
      refine as_for po rfl (ai_list ?_)
      repeat walk_at "ge"
      refine ⟨_, rfl, fun i2 ρ' O' => ∃ a s kvs, HandOk a s ∧ DrawnOk kvs ∧ kvs.length ≤ i2 ∧ O' = [AO.tbl PL q_lamL, AO.tbl PB q_lamW, hnd a s, .dT kvs] ∧ ∃ (y7 : Option PyData), ρ' = [some (.s ns), some (.d (iD i)), some (.o 2), some (pS z), some (.d (mD M)), some (pS y), some (.o 3), y7.map PV.d, y8.map PV.d, y9.map PV.d, none, none], ⟨a3, s3, [], ok3, drawn_nil, Nat.le_refl _, rfl, y7, rfl⟩, fun _ _ _ _ => trivial, ?_, ?_⟩
      · rintro i2 x ρ' O' hx ⟨a, s, kvs, ok, hd, hkl, rfl, y7, rfl⟩
        rw [List.getElem?_map, Option.map_eq_some_iff] at hx
        obtain ⟨d, hd2, rfl⟩ := hx
        rw [List.getElem?_map, Option.map_eq_some_iff] at hd2
        obtain ⟨s1, ht, rfl⟩ := hd2
        have hi2 : i2 < M.st.length := (List.getElem?_eq_some_iff.mp ht).1
        have hst := hM.len
        refine ag_name 7 sc_law.nd ?_
        refine as_cons (as_dputT (hu_of hr.r) ?_)
        repeat walk_at "ge"
        refine ⟨2, a, s, 7, rfl, rfl, ok, by decide, by decide, fun r a4 s4 ok4 r0 r1 => ?_⟩
        repeat walk_at "ge"
        refine ⟨3, kvs, [kR s1.1, kSg s1.2.1, kR s1.2.2], rfl, rfl, rfl, by omega, ?_⟩
        exact as_nil (.keep ⟨a4, s4, _, ok4, drawn_set hd (i := r - 3) (by omega), Nat.le_trans setK_len (by omega), rfl, some (stD s1), rfl⟩)
      · rintro ρ' O' ⟨aq, sq, kvs, ok, hd, _, rfl, y7, rfl⟩
        have cl3 : ∀ a s, ClO [AO.tbl PL q_lamL, AO.tbl PB q_lamW, hnd a s, .dT kvs] := fun a s => cl_app (cl2 a s) (drawn_below hd _)
        refine as_cons (as_set 8 sc_law.nd ?_)
        repeat walk_at "ge"
        refine ae_lstD ?_
        repeat walk_at "ge"
        refine b_pow ⟨by decide, by decide, by decide⟩ ?_
        repeat walk_at "ge"
        refine ⟨[.int 2, .int (-1), .int 0, .int (10 ^ 30), .int 1], rfl, by show 5 ≤ 16000000; decide, ?_⟩
        repeat walk_at "ge"
        refine ⟨2, aq, sq, 5, rfl, rfl, ok, by decide, by decide, fun r a5 s5 ok5 r0 r1 => ?_⟩
        obtain ⟨k, hk, hk2⟩ : ∃ k : Int, atI [PyData.int 2, .int (-1), .int 0, .int (10 ^ 30), .int 1] r = some (.int k) ∧ k.natAbs ≤ 2 ^ 190 := by
          obtain rfl | rfl | rfl | rfl | rfl : r = 0 ∨ r = 1 ∨ r = 2 ∨ r = 3 ∨ r = 4 := by omega
          · exact ⟨2, rfl, by decide⟩
          · exact ⟨-1, rfl, by decide⟩
          · exact ⟨0, rfl, by decide⟩
          · exact ⟨10 ^ 30, rfl, by decide⟩
          · exact ⟨1, rfl, by decide⟩
        refine ix_L hk ?_
        refine as_cons (as_set 9 sc_law.nd ?_)
        repeat walk_at "ge"
        refine c_reprM hr.g (hu66 hr) hM ?_
        show ASs _ _ [some (.s ns), some (.d (iD i)), some (.o 2), some (pS z), some (.d (mD M)), some (pS y), some (.o 3), y7.map PV.d, some (pI k), some (pS (mD M).shown), none, none] [AO.tbl PL q_lamL, AO.tbl PB q_lamW, hnd a5 s5, .dT kvs] _
        refine as_cons (as_set 10 sc_law.nd (ae_lstO (aa_cons (ae_lamX (fun c' => lf_lam1 (cloFrom (axX P w K mg base N_law "law" (defScope s_law) f (.ref cB) A outer s H E as0 F0).c.env.cells sc_lam1.names []) c') (j := 1) TB rfl rfl (NdefX.ndef_free nb_lam1) (fun _ => rfl) (fun C1 c1 hC1 => aa_nil ⟨by show 1 ≤ 16000000; decide, ?_⟩)))))
        show ASs _ _ [some (.s ns), some (.d (iD i)), some (.o 2), some (pS z), some (.d (mD M)), some (pS y), some (.o 3), y7.map PV.d, some (pI k), some (pS (mD M).shown), some (.o 4), none] [AO.tbl PL q_lamL, AO.tbl PB q_lamW, hnd a5 s5, .dT kvs, .lst [PV.fn C1]] _
        refine as_cons (as_expr (ae_bm PySem.F.plainAttrs_list PySem.F.slot_list_append PySem.F.type_list_append (ae_var 10 rfl ⟨ty_O (n := 4) rfl, aa_cons (ae_lamX (fun c' => lf_lam2 (cloFrom (axX P w K mg base N_law "law" (defScope s_law) f (.ref cB) A outer s H E as0 F0).c.env.cells sc_lam2.names []) c') (j := 1) TB rfl rfl (NdefX.ndef_free nb_lam2) (fun _ => rfl) (fun C2 c2 hC2 => aa_nil (m_append (n := 4) rfl (by simp) ?_)))⟩)))
        show ASs _ _ [some (.s ns), some (.d (iD i)), some (.o 2), some (pS z), some (.d (mD M)), some (pS y), some (.o 3), y7.map PV.d, some (pI k), some (pS (mD M).shown), some (.o 4), none] [AO.tbl PL q_lamL, AO.tbl PB q_lamW, hnd a5 s5, .dT kvs, .lst [PV.fn C1, PV.fn C2]] _
        refine as_cons (as_expr (ae_bm PySem.F.plainAttrs_list PySem.F.slot_list_append PySem.F.type_list_append (ae_var 10 rfl ⟨ty_O (n := 4) rfl, aa_cons (ae_lamX (fun c' => lf_lam3 (cloFrom (axX P w K mg base N_law "law" (defScope s_law) f (.ref cB) A outer s H E as0 F0).c.env.cells sc_lam3.names []) c') (j := 1) TB rfl rfl (NdefX.ndef_free nb_lam3) (fun _ => rfl) (fun C3 c3 hC3 => aa_nil (m_append (n := 4) rfl (by simp) ?_)))⟩)))
        show ASs _ _ [some (.s ns), some (.d (iD i)), some (.o 2), some (pS z), some (.d (mD M)), some (pS y), some (.o 3), y7.map PV.d, some (pI k), some (pS (mD M).shown), some (.o 4), none] [AO.tbl PL q_lamL, AO.tbl PB q_lamW, hnd a5 s5, .dT kvs, .lst [PV.fn C1, PV.fn C2, PV.fn C3]] _
        refine as_cons (as_expr (ae_bm PySem.F.plainAttrs_list PySem.F.slot_list_append PySem.F.type_list_append (ae_var 10 rfl ⟨ty_O (n := 4) rfl, aa_cons (ae_lamX (fun c' => lf_lam4 (cloFrom (axX P w K mg base N_law "law" (defScope s_law) f (.ref cB) A outer s H E as0 F0).c.env.cells sc_lam4.names []) c') (j := 1) TB rfl rfl (NdefX.ndef_free nb_lam4) (fun _ => rfl) (fun C4 c4 hC4 => aa_nil (m_append (n := 4) rfl (by simp) ?_)))⟩)))
        show ASs _ _ [some (.s ns), some (.d (iD i)), some (.o 2), some (pS z), some (.d (mD M)), some (pS y), some (.o 3), y7.map PV.d, some (pI k), some (pS (mD M).shown), some (.o 4), none] [AO.tbl PL q_lamL, AO.tbl PB q_lamW, hnd a5 s5, .dT kvs, .lst [PV.fn C1, PV.fn C2, PV.fn C3, PV.fn C4]] _
        refine as_cons (as_expr (ae_bm PySem.F.plainAttrs_list PySem.F.slot_list_append PySem.F.type_list_append (ae_var 10 rfl ⟨ty_O (n := 4) rfl, aa_cons (ae_lamX (fun c' => lf_lam5 (cloFrom (axX P w K mg base N_law "law" (defScope s_law) f (.ref cB) A outer s H E as0 F0).c.env.cells sc_lam5.names []) c') (j := 1) TB rfl rfl (NdefX.ndef_free nb_lam5) (fun _ => rfl) (fun C5 c5 hC5 => aa_nil (m_append (n := 4) rfl (by simp) ?_)))⟩)))
        show ASs _ _ [some (.s ns), some (.d (iD i)), some (.o 2), some (pS z), some (.d (mD M)), some (pS y), some (.o 3), y7.map PV.d, some (pI k), some (pS (mD M).shown), some (.o 4), none] [AO.tbl PL q_lamL, AO.tbl PB q_lamW, hnd a5 s5, .dT kvs, .lst [PV.fn C1, PV.fn C2, PV.fn C3, PV.fn C4, PV.fn C5]] _
        have clF : ClO [AO.tbl PL q_lamL, AO.tbl PB q_lamW, hnd a5 s5, .dT kvs, .lst [PV.fn C1, PV.fn C2, PV.fn C3, PV.fn C4, PV.fn C5]] := cl_app (cl3 a5 s5) rfl
        have fits : ∀ (x : PV), x ∈ ([PV.fn C1, PV.fn C2, PV.fn C3, PV.fn C4, PV.fn C5] : List PV) → ∀ v : Option PV, Fits (axX P w K mg base N_law "law" (defScope s_law) f (.ref cB) A outer s H E as0 F0) [some (.s ns), some (.d (iD i)), some (.o 2), some (pS z), some (.d (mD M)), some (pS y), some (.o 3), y7.map PV.d, some (pI k), some (pS (mD M).shown), some (.o 4), v] [AO.tbl PL q_lamL, AO.tbl PB q_lamW, hnd a5 s5, .dT kvs, .lst [PV.fn C1, PV.fn C2, PV.fn C3, PV.fn C4, PV.fn C5]] M x := by
          intro x hx v
          simp only [List.mem_cons, List.not_mem_nil, or_false] at hx
          rcases hx with rfl | rfl | rfl | rfl | rfl
          · exact ⟨_, rLm1, [.o 3], drw kvs, rfl, hC1.symm ▸ capX_lm (F := lf_lam1 _ c1) ["_law_drawn"] [6] rfl rfl (fun f => ok_lam1) nb_lam1 rfl, fun a c b _ _ => small200 (Nat.le_trans (drw_le hd a c b) (by decide)), fun a c b T Φ Ξ ha hb clA q => ⟨3, kvs, a, c, b, rfl, rfl, hd, clA, q⟩⟩
          · exact ⟨_, rLm2, [], fun a _ b => (a : Int) - b, rfl, hC2.symm ▸ capX_lm (F := lf_lam2 _ c2) [] [] rfl rfl (fun f => ok_lam2) nb_lam2 rfl, fun a c b h1 h2 => small200 (show ((a : Int) - b).natAbs ≤ 1000 by omega), fun a c b T Φ Ξ ha hb clA q => ⟨a, c, b, rfl, q⟩⟩
          · exact ⟨_, rLm3, [pS z], fun _ c _ => Txt.find z ⟨#[c]⟩ + 1, rfl, hC3.symm ▸ capX_lm (F := lf_lam3 _ c3) ["_law_letters_here"] [3] rfl rfl (fun f => ok_lam3) nb_lam3 rfl, fun a c b h1 h2 => small200 (show (Txt.find z ⟨#[c]⟩ + 1).natAbs ≤ 1000 by have := find_le z ⟨#[c]⟩; omega), fun a c b T Φ Ξ ha hb clA q => ⟨z, a, c, b, rfl, clA, q⟩⟩
          · exact ⟨_, rLm4, [pI k], fun _ _ b => (b : Int) * k, rfl, hC4.symm ▸ capX_lm (F := lf_lam4 _ c4) ["_law_many"] [8] rfl rfl (fun f => ok_lam4) nb_lam4 rfl, fun a c b h1 h2 => (show ((b : Int) * k).natAbs ≤ 2 ^ 200 by rw [Int.natAbs_mul]; exact Nat.le_trans (Nat.mul_le_mul (show ((b : Int)).natAbs ≤ 2 ^ 4 by omega) hk2) (by decide)), fun a c b T Φ Ξ ha hb clA q => ⟨k, a, c, b, rfl, by omega, q⟩⟩
          · exact ⟨_, rLm5, [pI k], fun _ _ _ => k, rfl, hC5.symm ▸ capX_lm (F := lf_lam5 _ c5) ["_law_many"] [8] rfl rfl (fun f => ok_lam5) nb_lam5 rfl, fun a c b h1 h2 => le200 hk2 (by decide), fun a c b T Φ Ξ ha hb clA q => ⟨k, a, c, b, rfl, q⟩⟩
        refine as_cons ?_
        refine as_for po rfl (ai_listO (ae_var 10 rfl ?_))
        refine ⟨4, _, rfl, rfl, fun i2 ρ' O' => O' = [AO.tbl PL q_lamL, AO.tbl PB q_lamW, hnd a5 s5, .dT kvs, .lst [PV.fn C1, PV.fn C2, PV.fn C3, PV.fn C4, PV.fn C5]] ∧ ∃ (v : Option PV), ρ' = [some (.s ns), some (.d (iD i)), some (.o 2), some (pS z), some (.d (mD M)), some (pS y), some (.o 3), y7.map PV.d, some (pI k), some (pS (mD M).shown), some (.o 4), v], ⟨rfl, none, rfl⟩, ?_, ?_, ?_⟩
        · rintro i2 ρ' O' ⟨rfl, _⟩
          rfl
        · rintro i2 x ρ' O' hx ⟨rfl, v, rfl⟩
          obtain ⟨C, Rn, caps, fu, rfl, cx, hf, tl⟩ := fits x (List.mem_of_getElem? hx) (some x)
          refine ag_name 11 sc_law.nd ?_
          refine as_cons (as_if ?_)
          repeat walk_at "ge"
          refine ae_callC (E7 Rn) (hr.mono (by decide)) ?_
          repeat walk_at "ge"
          refine ⟨C, caps, cx, M, y, fu, rfl, hM, hw, few, clF, hf, tl, ?_⟩
          repeat walk_at "ge"
          refine c_reprM hr.g (hu66 hr) hM ?_
          repeat walk_at "ge"
          refine ifnd (fun h1 => absurd rfl h1) (fun _ => ?_)
          exact as_nil (as_nil (.keep ⟨rfl, some (.fn C), rfl⟩))
        · rintro ρ' O' ⟨rfl, v, rfl⟩
          refine as_cons (as_if ?_)
          refine at_cmp ?_
          refine ae_callC (E8 rLm6) (hr.mono (by decide)) ?_
          repeat walk_at "ge"
          refine ae_lamX (fun c' => lf_lam6 (cloFrom (axX P w K mg base N_law "law" (defScope s_law) f (.ref cB) A outer s H E as0 F0).c.env.cells sc_lam6.names []) c') (j := 1) TB rfl rfl ?_ (fun _ => rfl) ?_
          · exact NdefX.ndef_free nb_lam6
          intro C6 c6 hC6
          refine aa_nil ⟨C6, [], hC6.symm ▸ capX_lm (F := lf_lam6 _ c6) [] [] rfl rfl (fun f => ok_lam6) nb_lam6 rfl, ?_⟩
          refine ⟨M, y, fun _ _ _ => 1, rfl, hM, hw, clF, fun _ _ _ _ _ => small200 (show (1 : Int).natAbs ≤ 1000 by decide), fun a c b T Φ Ξ ha hb clA q => ⟨a, c, b, rfl, q⟩, ?_⟩
          rw [weigh_one]
          repeat walk_at "ge"
          refine ⟨M, y, none, none, rfl, hM, hw, (fun _ h => nomatch h), (fun _ h => nomatch h), clF, ?_⟩
          repeat walk_at "ge"
          refine ifnd (fun h1 => absurd rfl h1) (fun _ => ?_)
          exact as_nil (as_nil (.unset 2 (.unset 6 (.unset 10 (.unset 11 (.drop 2 (Nat.le_refl 2) (by cases y7 <;> rfl) rfl (.keep ⟨rfl, some (iD i), some (.str z), some (mD M), some (.str y), y7, some (.int k), some (.str (mD M).shown), rfl⟩)))))))
    · rintro ρ' O' ⟨rfl, y1, y3, y4, y5, y7, y8, y9, rfl⟩
      refine as_cons (as_ret (ae_bl ?_))
      exact .keep (q _)
end
end K13
namespace K13
open PySem PySem.Spec L2 Al
open PyProof.Rows hiding St
theorem all_mk {l : PySem.W.OpenLaw} {w : World} {K : PySem.W.Frag} {h : Heap} {mg : Str → Option Value} {fa f1 f2 f3 f4 f5 f6 f7 f8 f9 f10 f11 f12 f13 f14 f15 f16 f17 f18 f19 f20 f21 f22 f23 f24 f25 f26 f27 : Addr} (X : K.In h) (G : h.Ns mainGlobals mg) (hfa : mg "law" = some (.ref fa))
    {od1 an1 od2 an2 od3 an3 od4 an4 od5 an5 od6 an6 od7 an7 od8 an8 od9 an9 od10 an10 od11 an11 od12 an12 od13 an13 od14 an14 od15 an15 od16 an16 od17 an17 od18 an18 od19 an19 od20 an20 od21 an21 od22 an22 od23 an23 od24 an24 od25 an25 od26 an26 od27 an27 : Option Addr} {sl1 sl2 sl3 sl4 sl5 sl6 sl7 sl8 sl9 sl10 sl11 sl12 sl13 sl14 sl15 sl16 sl17 sl18 sl19 sl20 sl21 sl22 sl23 sl24 sl25 sl26 sl27 : Array (Option Value)} {oc1 kV1 dc1 pm1 cd1 ct1 oc2 kV2 dc2 pm2 cd2 ct2 oc3 kV3 dc3 pm3 cd3 ct3 oc4 kV4 dc4 pm4 cd4 ct4 oc5 kV5 dc5 pm5 cd5 ct5 oc6 kV6 dc6 pm6 cd6 ct6 oc7 kV7 dc7 pm7 cd7 ct7 oc8 kV8 dc8 pm8 cd8 ct8 oc9 kV9 dc9 pm9 cd9 ct9 oc10 kV10 dc10 pm10 cd10 ct10 oc11 kV11 dc11 pm11 cd11 ct11 oc12 kV12 dc12 pm12 cd12 ct12 oc13 kV13 dc13 pm13 cd13 ct13 oc14 kV14 dc14 pm14 cd14 ct14 oc15 kV15 dc15 pm15 cd15 ct15 oc16 kV16 dc16 pm16 cd16 ct16 oc17 kV17 dc17 pm17 cd17 ct17 oc18 kV18 dc18 pm18 cd18 ct18 oc19 kV19 dc19 pm19 cd19 ct19 oc20 kV20 dc20 pm20 cd20 ct20 oc21 kV21 dc21 pm21 cd21 ct21 oc22 kV22 dc22 pm22 cd22 ct22 oc23 kV23 dc23 pm23 cd23 ct23 oc24 kV24 dc24 pm24 cd24 ct24 oc25 kV25 dc25 pm25 cd25 ct25 oc26 kV26 dc26 pm26 ct26 oc27 kV27 dc27 pm27 ct27 : Value} {T14 : Addr} {tc14 : Value} {td14 : Option Addr} {tn14 : Nat} {ts14 : Array (Option Value)} {t1 t2 t3 t4 : Tok}
    (a1 : PySem.W.nsIn K mainGlobals "is_sign" = some (some (.ref f1))) (l1 : K.lookup f1 = some ⟨oc1, od1, .func (PySem.W.fnOf "is_sign" "is_sign" (defArgs s_is_sign) (defBody s_is_sign) (defScope s_is_sign) .none kV1 dc1 pm1 an1 cd1 ct1), sl1⟩) (c1 : PySem.W.codeIn K cd1 "is_sign" = true) (k1 : PySem.W.keepIn K (.ref f1) = true)
    (a2 : PySem.W.nsIn K mainGlobals "is_whole" = some (some (.ref f2))) (l2 : K.lookup f2 = some ⟨oc2, od2, .func (PySem.W.fnOf "is_whole" "is_whole" (defArgs s_is_whole) (defBody s_is_whole) (defScope s_is_whole) .none kV2 dc2 pm2 an2 cd2 ct2), sl2⟩) (c2 : PySem.W.codeIn K cd2 "is_whole" = true) (k2 : PySem.W.keepIn K (.ref f2) = true)
    (a3 : PySem.W.nsIn K mainGlobals "is_within" = some (some (.ref f3))) (l3 : K.lookup f3 = some ⟨oc3, od3, .func (PySem.W.fnOf "is_within" "is_within" (defArgs s_is_within) (defBody s_is_within) (defScope s_is_within) .none kV3 dc3 pm3 an3 cd3 ct3), sl3⟩) (c3 : PySem.W.codeIn K cd3 "is_within" = true) (k3 : PySem.W.keepIn K (.ref f3) = true)
    (a4 : PySem.W.nsIn K mainGlobals "look_at_rooms" = some (some (.ref f4))) (l4 : K.lookup f4 = some ⟨oc4, od4, .func (PySem.W.fnOf "look_at_rooms" "look_at_rooms" (defArgs s_look_at_rooms) (defBody s_look_at_rooms) (defScope s_look_at_rooms) .none kV4 dc4 pm4 an4 cd4 ct4), sl4⟩) (c4 : PySem.W.codeIn K cd4 "look_at_rooms" = true) (k4 : PySem.W.keepIn K (.ref f4) = true)
    (a5 : PySem.W.nsIn K mainGlobals "is_step" = some (some (.ref f5))) (l5 : K.lookup f5 = some ⟨oc5, od5, .func (PySem.W.fnOf "is_step" "is_step" (defArgs s_is_step) (defBody s_is_step) (defScope s_is_step) .none kV5 dc5 pm5 an5 cd5 ct5), sl5⟩) (c5 : PySem.W.codeIn K cd5 "is_step" = true) (k5 : PySem.W.keepIn K (.ref f5) = true)
    (a6 : PySem.W.nsIn K mainGlobals "look_at_steps" = some (some (.ref f6))) (l6 : K.lookup f6 = some ⟨oc6, od6, .func (PySem.W.fnOf "look_at_steps" "look_at_steps" (defArgs s_look_at_steps) (defBody s_look_at_steps) (defScope s_look_at_steps) .none kV6 dc6 pm6 an6 cd6 ct6), sl6⟩) (c6 : PySem.W.codeIn K cd6 "look_at_steps" = true) (k6 : PySem.W.keepIn K (.ref f6) = true)
    (a7 : PySem.W.nsIn K mainGlobals "look_at" = some (some (.ref f7))) (l7 : K.lookup f7 = some ⟨oc7, od7, .func (PySem.W.fnOf "look_at" "look_at" (defArgs s_look_at) (defBody s_look_at) (defScope s_look_at) .none kV7 dc7 pm7 an7 cd7 ct7), sl7⟩) (c7 : PySem.W.codeIn K cd7 "look_at" = true) (k7 : PySem.W.keepIn K (.ref f7) = true)
    (a8 : PySem.W.nsIn K mainGlobals "look_at_room" = some (some (.ref f8))) (l8 : K.lookup f8 = some ⟨oc8, od8, .func (PySem.W.fnOf "look_at_room" "look_at_room" (defArgs s_look_at_room) (defBody s_look_at_room) (defScope s_look_at_room) .none kV8 dc8 pm8 an8 cd8 ct8), sl8⟩) (c8 : PySem.W.codeIn K cd8 "look_at_room" = true) (k8 : PySem.W.keepIn K (.ref f8) = true)
    (a9 : PySem.W.nsIn K mainGlobals "look_at_word" = some (some (.ref f9))) (l9 : K.lookup f9 = some ⟨oc9, od9, .func (PySem.W.fnOf "look_at_word" "look_at_word" (defArgs s_look_at_word) (defBody s_look_at_word) (defScope s_look_at_word) .none kV9 dc9 pm9 an9 cd9 ct9), sl9⟩) (c9 : PySem.W.codeIn K cd9 "look_at_word" = true) (k9 : PySem.W.keepIn K (.ref f9) = true)
    (a10 : PySem.W.nsIn K mainGlobals "alone_at" = some (some (.ref f10))) (l10 : K.lookup f10 = some ⟨oc10, od10, .func (PySem.W.fnOf "alone_at" "alone_at" (defArgs s_alone_at) (defBody s_alone_at) (defScope s_alone_at) .none kV10 dc10 pm10 an10 cd10 ct10), sl10⟩) (c10 : PySem.W.codeIn K cd10 "alone_at" = true) (k10 : PySem.W.keepIn K (.ref f10) = true)
    (a11 : PySem.W.nsIn K mainGlobals "moved" = some (some (.ref f11))) (l11 : K.lookup f11 = some ⟨oc11, od11, .func (PySem.W.fnOf "moved" "moved" (defArgs s_moved) (defBody s_moved) (defScope s_moved) .none kV11 dc11 pm11 an11 cd11 ct11), sl11⟩) (c11 : PySem.W.codeIn K cd11 "moved" = true) (k11 : PySem.W.keepIn K (.ref f11) = true)
    (a12 : PySem.W.nsIn K mainGlobals "moved_by" = some (some (.ref f12))) (l12 : K.lookup f12 = some ⟨oc12, od12, .func (PySem.W.fnOf "moved_by" "moved_by" (defArgs s_moved_by) (defBody s_moved_by) (defScope s_moved_by) .none kV12 dc12 pm12 an12 cd12 ct12), sl12⟩) (c12 : PySem.W.codeIn K cd12 "moved_by" = true) (k12 : PySem.W.keepIn K (.ref f12) = true)
    (a13 : PySem.W.nsIn K mainGlobals "sum_at" = some (some (.ref f13))) (l13 : K.lookup f13 = some ⟨oc13, od13, .func (PySem.W.fnOf "sum_at" "sum_at" (defArgs s_sum_at) (defBody s_sum_at) (defScope s_sum_at) .none kV13 dc13 pm13 an13 cd13 ct13), sl13⟩) (c13 : PySem.W.codeIn K cd13 "sum_at" = true) (k13 : PySem.W.keepIn K (.ref f13) = true)
    (a14 : PySem.W.nsIn K mainGlobals "ways" = some (some (.ref f14))) (l14 : K.lookup f14 = some ⟨oc14, od14, .func (PySem.W.fnOf "ways" "ways" (defArgs s_ways) (defBody s_ways) (defScope s_ways) (.ref T14) kV14 dc14 pm14 an14 cd14 ct14), sl14⟩) (c14 : PySem.W.codeIn K cd14 "ways" = true) (k14 : PySem.W.keepIn K (.ref f14) = true)
    (lt14 : K.lookup T14 = some ⟨tc14, td14, .seq #[.none, .none] tn14, ts14⟩)
    (a15 : PySem.W.nsIn K mainGlobals "weighed" = some (some (.ref f15))) (l15 : K.lookup f15 = some ⟨oc15, od15, .func (PySem.W.fnOf "weighed" "weighed" (defArgs s_weighed) (defBody s_weighed) (defScope s_weighed) .none kV15 dc15 pm15 an15 cd15 ct15), sl15⟩) (c15 : PySem.W.codeIn K cd15 "weighed" = true) (k15 : PySem.W.keepIn K (.ref f15) = true)
    (a16 : PySem.W.nsIn K mainGlobals "_law_hand" = some (some (.ref f16))) (l16 : K.lookup f16 = some ⟨oc16, od16, .func (PySem.W.fnOf "_law_hand" "_law_hand" (defArgs s__law_hand) (defBody s__law_hand) (defScope s__law_hand) .none kV16 dc16 pm16 an16 cd16 ct16), sl16⟩) (c16 : PySem.W.codeIn K cd16 "_law_hand" = true) (k16 : PySem.W.keepIn K (.ref f16) = true)
    (a17 : PySem.W.nsIn K mainGlobals "_law_draw" = some (some (.ref f17))) (l17 : K.lookup f17 = some ⟨oc17, od17, .func (PySem.W.fnOf "_law_draw" "_law_draw" (defArgs s__law_draw) (defBody s__law_draw) (defScope s__law_draw) .none kV17 dc17 pm17 an17 cd17 ct17), sl17⟩) (c17 : PySem.W.codeIn K cd17 "_law_draw" = true) (k17 : PySem.W.keepIn K (.ref f17) = true)
    (a18 : PySem.W.nsIn K mainGlobals "_law_rooms" = some (some (.ref f18))) (l18 : K.lookup f18 = some ⟨oc18, od18, .func (PySem.W.fnOf "_law_rooms" "_law_rooms" (defArgs s__law_rooms) (defBody s__law_rooms) (defScope s__law_rooms) .none kV18 dc18 pm18 an18 cd18 ct18), sl18⟩) (c18 : PySem.W.codeIn K cd18 "_law_rooms" = true) (k18 : PySem.W.keepIn K (.ref f18) = true)
    (a19 : PySem.W.nsIn K mainGlobals "_law_letters" = some (some (.ref f19))) (l19 : K.lookup f19 = some ⟨oc19, od19, .func (PySem.W.fnOf "_law_letters" "_law_letters" (defArgs s__law_letters) (defBody s__law_letters) (defScope s__law_letters) .none kV19 dc19 pm19 an19 cd19 ct19), sl19⟩) (c19 : PySem.W.codeIn K cd19 "_law_letters" = true) (k19 : PySem.W.keepIn K (.ref f19) = true)
    (a20 : PySem.W.nsIn K mainGlobals "_law_machine" = some (some (.ref f20))) (l20 : K.lookup f20 = some ⟨oc20, od20, .func (PySem.W.fnOf "_law_machine" "_law_machine" (defArgs s__law_machine) (defBody s__law_machine) (defScope s__law_machine) .none kV20 dc20 pm20 an20 cd20 ct20), sl20⟩) (c20 : PySem.W.codeIn K cd20 "_law_machine" = true) (k20 : PySem.W.keepIn K (.ref f20) = true)
    (a21 : PySem.W.nsIn K mainGlobals "_law_word" = some (some (.ref f21))) (l21 : K.lookup f21 = some ⟨oc21, od21, .func (PySem.W.fnOf "_law_word" "_law_word" (defArgs s__law_word) (defBody s__law_word) (defScope s__law_word) .none kV21 dc21 pm21 an21 cd21 ct21), sl21⟩) (c21 : PySem.W.codeIn K cd21 "_law_word" = true) (k21 : PySem.W.keepIn K (.ref f21) = true)
    (a22 : PySem.W.nsIn K mainGlobals "_law_beginnings" = some (some (.ref f22))) (l22 : K.lookup f22 = some ⟨oc22, od22, .func (PySem.W.fnOf "_law_beginnings" "_law_beginnings" (defArgs s__law_beginnings) (defBody s__law_beginnings) (defScope s__law_beginnings) .none kV22 dc22 pm22 an22 cd22 ct22), sl22⟩) (c22 : PySem.W.codeIn K cd22 "_law_beginnings" = true) (k22 : PySem.W.keepIn K (.ref f22) = true)
    (a23 : PySem.W.nsIn K mainGlobals "_law_ways" = some (some (.ref f23))) (l23 : K.lookup f23 = some ⟨oc23, od23, .func (PySem.W.fnOf "_law_ways" "_law_ways" (defArgs s__law_ways) (defBody s__law_ways) (defScope s__law_ways) .none kV23 dc23 pm23 an23 cd23 ct23), sl23⟩) (c23 : PySem.W.codeIn K cd23 "_law_ways" = true) (k23 : PySem.W.keepIn K (.ref f23) = true)
    (a24 : PySem.W.nsIn K mainGlobals "_law_product" = some (some (.ref f24))) (l24 : K.lookup f24 = some ⟨oc24, od24, .func (PySem.W.fnOf "_law_product" "_law_product" (defArgs s__law_product) (defBody s__law_product) (defScope s__law_product) .none kV24 dc24 pm24 an24 cd24 ct24), sl24⟩) (c24 : PySem.W.codeIn K cd24 "_law_product" = true) (k24 : PySem.W.keepIn K (.ref f24) = true)
    (a25 : PySem.W.nsIn K mainGlobals "_law_right" = some (some (.ref f25))) (l25 : K.lookup f25 = some ⟨oc25, od25, .func (PySem.W.fnOf "_law_right" "_law_right" (defArgs s__law_right) (defBody s__law_right) (defScope s__law_right) .none kV25 dc25 pm25 an25 cd25 ct25), sl25⟩) (c25 : PySem.W.codeIn K cd25 "_law_right" = true) (k25 : PySem.W.keepIn K (.ref f25) = true)
    (a26 : PySem.W.nsIn K mainGlobals "_law_long" = some (some (.ref f26))) (l26 : K.lookup f26 = some ⟨oc26, od26, .func (PySem.W.fnOf "_law_long" "_law_long" (defArgs s__law_long) (defBody s__law_long) (defScope s__law_long) .none kV26 dc26 pm26 an26 (.ref 242) ct26), sl26⟩) (c26 : PySem.W.codeIn K (.ref 242) "_law_long" = true) (k26 : PySem.W.keepIn K (.ref f26) = true)
    (a27 : PySem.W.nsIn K mainGlobals "law" = some (some (.ref f27))) (l27 : K.lookup f27 = some ⟨oc27, od27, .func (PySem.W.fnOf "law" "law" (defArgs s_law) (defBody s_law) (defScope s_law) .none kV27 dc27 pm27 an27 (.ref 249) ct27), sl27⟩) (c27 : PySem.W.codeIn K (.ref 249) "law" = true) (k27 : PySem.W.keepIn K (.ref f27) = true)
    (z1 : PySem.W.nsIn K mainGlobals "bool" = some none)
    (z2 : PySem.W.nsIn K mainGlobals "enumerate" = some none)
    (z3 : PySem.W.nsIn K mainGlobals "int" = some none)
    (z4 : PySem.W.nsIn K mainGlobals "isinstance" = some none)
    (z5 : PySem.W.nsIn K mainGlobals "len" = some none)
    (z6 : PySem.W.nsIn K mainGlobals "list" = some none)
    (z7 : PySem.W.nsIn K mainGlobals "max" = some none)
    (z8 : PySem.W.nsIn K mainGlobals "min" = some none)
    (z9 : PySem.W.nsIn K mainGlobals "range" = some none)
    (z10 : PySem.W.nsIn K mainGlobals "repr" = some none)
    (z11 : PySem.W.nsIn K mainGlobals "str" = some none)
    (z12 : PySem.W.nsIn K mainGlobals "sum" = some none)
    (z13 : PySem.W.nsIn K mainGlobals "tuple" = some none)
    (y1 : PySem.W.nsIn K mainGlobals "LETTERS" = some (some (.str "abcdefghijklmnopqrstuvwxyz" t1)))
    (y2 : PySem.W.nsIn K mainGlobals "MOST_ROOMS" = some (some (.int 12 t2)))
    (y3 : PySem.W.nsIn K mainGlobals "MOST_STEPS" = some (some (.int 200 t3)))
    (y4 : PySem.W.nsIn K mainGlobals "MOST_WORD" = some (some (.int 400 t4)))
    : ∃ fd : FuncData, (∀ (s : Shared) (v : Value), BindsTo s fd ⟨[v], []⟩ [("_law_script", v)]) ∧ ∀ base : Heap, K.In base → base.Ns mainGlobals mg → (∀ p ∈ ([(242, 238), (249, 245)] : List (Addr × Addr)), LamX.TabB base mg p.1 p.2) → Fn ⟨l.prog, w, K, mg, base⟩ 8 fa fd ["_law_script"] (up (rLawT [((242, 238), "_law_long.<locals>.<lambda>"), ((249, 245), "law.<locals>.<lambda>")])) := by
  have e := hfa.symm.trans (PySem.W.mg_of X G a27)
  cases e
  have T : Txt mg := ⟨PySem.W.mg_none_of X G z1, PySem.W.mg_none_of X G z2, PySem.W.mg_none_of X G z3, PySem.W.mg_none_of X G z4, PySem.W.mg_none_of X G z5, PySem.W.mg_none_of X G z6, PySem.W.mg_none_of X G z7, PySem.W.mg_none_of X G z8, PySem.W.mg_none_of X G z9, PySem.W.mg_none_of X G z10, PySem.W.mg_none_of X G z11, PySem.W.mg_none_of X G z12, PySem.W.mg_none_of X G z13, ⟨t1, PySem.W.mg_of X G y1⟩, ⟨t2, PySem.W.mg_of X G y2⟩, ⟨t3, PySem.W.mg_of X G y3⟩, ⟨t4, PySem.W.mg_of X G y4⟩⟩
  refine ⟨PySem.W.fnOf "law" "law" (defArgs s_law) (defBody s_law) (defScope s_law) .none kV27 dc27 pm27 an27 (.ref 249) ct27, fun s v => .of_eq rfl, fun base _ _ hTB => ?_⟩
  have F1 := fun_mk (st := s_is_sign) l1 c1 k1
  have E_is_sign : D_is_sign ⟨l.prog, w, K, mg, base⟩ := defA (ok_is_sign F1 T) (PySem.W.mg_of X G a1) k1 (F1.binds (ps := P_is_sign) fun _ _ _ _ _ _ us hl => match us, hl with | [_], _ => rfl)
  have F2 := fun_mk (st := s_is_whole) l2 c2 k2
  have E_is_whole : D_is_whole ⟨l.prog, w, K, mg, base⟩ := defA (ok_is_whole F2 T) (PySem.W.mg_of X G a2) k2 (F2.binds (ps := P_is_whole) fun _ _ _ _ _ _ us hl => match us, hl with | [_], _ => rfl)
  have F3 := fun_mk (st := s_is_within) l3 c3 k3
  have E_is_within : D_is_within ⟨l.prog, w, K, mg, base⟩ := defA (ok_is_within F3 T E_is_whole) (PySem.W.mg_of X G a3) k3 (F3.binds (ps := P_is_within) fun _ _ _ _ _ _ us hl => match us, hl with | [_, _, _], _ => rfl)
  have F4 := fun_mk (st := s_look_at_rooms) l4 c4 k4
  have E_look_at_rooms : D_look_at_rooms ⟨l.prog, w, K, mg, base⟩ := defA (ok_look_at_rooms F4 T E_is_within) (PySem.W.mg_of X G a4) k4 (F4.binds (ps := P_look_at_rooms) fun _ _ _ _ _ _ us hl => match us, hl with | [_, _, _], _ => rfl)
  have F5 := fun_mk (st := s_is_step) l5 c5 k5
  have E_is_step : D_is_step ⟨l.prog, w, K, mg, base⟩ := defA (ok_is_step F5 T E_is_sign E_is_within) (PySem.W.mg_of X G a5) k5 (F5.binds (ps := P_is_step) fun _ _ _ _ _ _ us hl => match us, hl with | [_, _], _ => rfl)
  have F6 := fun_mk (st := s_look_at_steps) l6 c6 k6
  have E_look_at_steps : D_look_at_steps ⟨l.prog, w, K, mg, base⟩ := defA (ok_look_at_steps F6 T E_is_step) (PySem.W.mg_of X G a6) k6 (F6.binds (ps := P_look_at_steps) fun _ _ _ _ _ _ us hl => match us, hl with | [_, _], _ => rfl)
  have F7 := fun_mk (st := s_look_at) l7 c7 k7
  have E_look_at : D_look_at ⟨l.prog, w, K, mg, base⟩ := defA (ok_look_at F7 T E_is_within E_look_at_rooms E_look_at_steps) (PySem.W.mg_of X G a7) k7 (F7.binds (ps := P_look_at) fun _ _ _ _ _ _ us hl => match us, hl with | [_], _ => rfl)
  have F8 := fun_mk (st := s_look_at_room) l8 c8 k8
  have E_look_at_room : D_look_at_room ⟨l.prog, w, K, mg, base⟩ := defA (ok_look_at_room F8 T E_is_within) (PySem.W.mg_of X G a8) k8 (F8.binds (ps := P_look_at_room) fun _ _ _ _ _ _ us hl => match us, hl with | [_, _], _ => rfl)
  have F9 := fun_mk (st := s_look_at_word) l9 c9 k9
  have E_look_at_word : D_look_at_word ⟨l.prog, w, K, mg, base⟩ := defA (ok_look_at_word F9 T E_is_sign) (PySem.W.mg_of X G a9) k9 (F9.binds (ps := P_look_at_word) fun _ _ _ _ _ _ us hl => match us, hl with | [_], _ => rfl)
  have F10 := fun_mk (st := s_alone_at) l10 c10 k10
  have E_alone_at : D_alone_at ⟨l.prog, w, K, mg, base⟩ := defA (ok_alone_at F10 T) (PySem.W.mg_of X G a10) k10 (F10.binds (ps := P_alone_at) fun _ _ _ _ _ _ us hl => match us, hl with | [_, _], _ => rfl)
  have F11 := fun_mk (st := s_moved) l11 c11 k11
  have E_moved : D_moved ⟨l.prog, w, K, mg, base⟩ := defA (ok_moved F11 T) (PySem.W.mg_of X G a11) k11 (F11.binds (ps := P_moved) fun _ _ _ _ _ _ us hl => match us, hl with | [_, _, _], _ => rfl)
  have F12 := fun_mk (st := s_moved_by) l12 c12 k12
  have E_moved_by : D_moved_by ⟨l.prog, w, K, mg, base⟩ := defA (ok_moved_by F12 T E_moved) (PySem.W.mg_of X G a12) k12 (F12.binds (ps := P_moved_by) fun _ _ _ _ _ _ us hl => match us, hl with | [_, _, _], _ => rfl)
  have F13 := fun_mk (st := s_sum_at) l13 c13 k13
  have E_sum_at : D_sum_at ⟨l.prog, w, K, mg, base⟩ := defA (ok_sum_at F13 T) (PySem.W.mg_of X G a13) k13 (F13.binds (ps := P_sum_at) fun _ _ _ _ _ _ us hl => match us, hl with | [_, _], _ => rfl)
  have F14 : FunD K "ways" "ways" (defArgs s_ways) (defBody s_ways) (defScope s_ways) [.non, .non] [] f14 _ := ⟨⟨oc14, od14, .ref T14, kV14, dc14, pm14, an14, cd14, ct14, sl14, rfl, l14, c14, .inr ⟨by simp, T14, _, [.none, .none], _, rfl, lt14, rfl, .cons rfl (.cons rfl .nil)⟩, .inl rfl⟩, k14⟩
  have G14 := ok_ways (P := l.prog) (w := w) (base := base) F14 T E_look_at E_look_at_word E_look_at_room E_sum_at E_moved_by E_alone_at
  have E_ways : D_ways ⟨l.prog, w, K, mg, base⟩ := by
    obtain ⟨ds, h1, h2⟩ := F14.binds1 (ps := P_ways) 2 0 (by simp) rfl (fun T kV doc pm an cdv ct us its hu hi => match us, its, hu, hi with | [_, _], [_, _], _, _ => ⟨_, rfl, rfl⟩)
    exact ⟨_, _, ds, [.non, .non], G14, PySem.W.mg_of X G a14, k14, h2, h1, fun _ _ _ => .cons (show RPV _ _ _ pN V.non from Dq.non) (.cons (show RPV _ _ _ pN V.non from Dq.non) .nil)⟩
  have F15 := fun_mk (st := s_weighed) l15 c15 k15
  have E_weighed : ∀ Rn, DefC ⟨l.prog, w, K, mg, base⟩ 1 3 Rn 6 "weighed" P_weighed (rWeighed Rn) := fun Rn => ⟨f15, _, ok_weighed F15 T E_look_at E_look_at_word E_alone_at E_sum_at, PySem.W.mg_of X G a15, k15, (F15.binds (ps := P_weighed) fun _ _ _ _ _ _ us hl => match us, hl with | [_, _, _], _ => rfl)⟩
  have F16 := fun_mk (st := s__law_hand) l16 c16 k16
  have E__law_hand : D__law_hand ⟨l.prog, w, K, mg, base⟩ := defA (ok__law_hand F16 T) (PySem.W.mg_of X G a16) k16 (F16.binds (ps := P__law_hand) fun _ _ _ _ _ _ us hl => match us, hl with | [_, _], _ => rfl)
  have F17 := fun_mk (st := s__law_draw) l17 c17 k17
  have E__law_draw : D__law_draw ⟨l.prog, w, K, mg, base⟩ := defA (ok__law_draw F17 T) (PySem.W.mg_of X G a17) k17 (F17.binds (ps := P__law_draw) fun _ _ _ _ _ _ us hl => match us, hl with | [_, _], _ => rfl)
  have F18 := fun_mk (st := s__law_rooms) l18 c18 k18
  have E__law_rooms : D__law_rooms ⟨l.prog, w, K, mg, base⟩ := defA (ok__law_rooms F18 T E__law_draw) (PySem.W.mg_of X G a18) k18 (F18.binds (ps := P__law_rooms) fun _ _ _ _ _ _ us hl => match us, hl with | [_, _], _ => rfl)
  have F19 := fun_mk (st := s__law_letters) l19 c19 k19
  have E__law_letters : D__law_letters ⟨l.prog, w, K, mg, base⟩ := defA (ok__law_letters F19 T E__law_draw) (PySem.W.mg_of X G a19) k19 (F19.binds (ps := P__law_letters) fun _ _ _ _ _ _ us hl => match us, hl with | [_], _ => rfl)
  have F20 := fun_mk (st := s__law_machine) l20 c20 k20
  have E__law_machine : D__law_machine ⟨l.prog, w, K, mg, base⟩ := defA (ok__law_machine F20 T E__law_draw E__law_rooms) (PySem.W.mg_of X G a20) k20 (F20.binds (ps := P__law_machine) fun _ _ _ _ _ _ us hl => match us, hl with | [_, _, _, _], _ => rfl)
  have F21 := fun_mk (st := s__law_word) l21 c21 k21
  have E__law_word : D__law_word ⟨l.prog, w, K, mg, base⟩ := defA (ok__law_word F21 T E__law_draw) (PySem.W.mg_of X G a21) k21 (F21.binds (ps := P__law_word) fun _ _ _ _ _ _ us hl => match us, hl with | [_, _, _], _ => rfl)
  have F22 := fun_mk (st := s__law_beginnings) l22 c22 k22
  have E__law_beginnings : D__law_beginnings ⟨l.prog, w, K, mg, base⟩ := defA (ok__law_beginnings F22 T) (PySem.W.mg_of X G a22) k22 (F22.binds (ps := P__law_beginnings) fun _ _ _ _ _ _ us hl => match us, hl with | [_, _], _ => rfl)
  have F23 := fun_mk (st := s__law_ways) l23 c23 k23
  have E__law_ways : D__law_ways ⟨l.prog, w, K, mg, base⟩ := defA (ok__law_ways F23 T E__law_beginnings) (PySem.W.mg_of X G a23) k23 (F23.binds (ps := P__law_ways) fun _ _ _ _ _ _ us hl => match us, hl with | [_, _], _ => rfl)
  have F24 := fun_mk (st := s__law_product) l24 c24 k24
  have E__law_product : ∀ Rn, DefC ⟨l.prog, w, K, mg, base⟩ 1 3 Rn 2 "_law_product" P__law_product (rProduct13 Rn) := fun Rn => ⟨f24, _, ok__law_product F24 T, PySem.W.mg_of X G a24, k24, (F24.binds (ps := P__law_product) fun _ _ _ _ _ _ us hl => match us, hl with | [_, _, _], _ => rfl)⟩
  have F25 := fun_mk (st := s__law_right) l25 c25 k25
  have E__law_right : ∀ Rn, DefC ⟨l.prog, w, K, mg, base⟩ 1 3 Rn 7 "_law_right" P__law_right (rRight13 Rn) := fun Rn => ⟨f25, _, ok__law_right F25 T E__law_product E__law_ways E_weighed, PySem.W.mg_of X G a25, k25, (F25.binds (ps := P__law_right) fun _ _ _ _ _ _ us hl => match us, hl with | [_, _, _], _ => rfl)⟩
  have F26 := fun_mk (st := s__law_long) l26 c26 k26
  have E__law_long : DefA ⟨l.prog, w, K, mg, base⟩ 7 "_law_long" P__law_long [] (up (rLong13 238 q_lamL)) := defA (ok__law_long F26 T rfl (hTB (242, 238) (by simp)) E_weighed) (PySem.W.mg_of X G a26) k26 (F26.binds (ps := P__law_long) fun _ _ _ _ _ _ us hl => match us, hl with | [], _ => rfl)
  have F27 := fun_mk (st := s_law) l27 c27 k27
  exact ok_law (cL := 242) F27 T rfl (hTB (249, 245) (by simp)) E__law_hand E__law_draw E__law_letters E__law_machine E__law_word E__law_long E__law_right E_weighed E_ways
end K13
open PySem PySem.W PyProof.Rows
set_option maxHeartbeats 0 in
theorem PySem.Challenge.cw_triesgrow_k13_ways_weighed_holds : PySem.Challenge.rw_triesgrow_k13_ways_weighed.Holds := by
  w_on; o_law; k_head; (case hw => w_witness2)
  k_fill
  refine Al.walk_ofAT (l := PySem.Challenge.rw_triesgrow_k13_ways_weighed) (n := 63) (k := 8) (x := "_law_script") (cs := [(242, 238), (249, 245)]) (R := Al.up (Al.rLawT [((242, 238), "_law_long.<locals>.<lambda>"), ((249, 245), "law.<locals>.<lambda>")])) rfl (by decide) rfl ⟨rfl, by decide, by decide⟩ (fun w h Y => km_in_of Y) ?hT ?nT ?hC ?F ?hS
  case hT =>
    intro w h Y p hp
    simp only [List.mem_cons, List.not_mem_nil, or_false] at hp
    rcases hp with rfl | rfl
    · exact km_tabs_of Y 238 (by simp)
    · exact km_tabs_of Y 245 (by simp)
  case nT =>
    intro w p hp
    simp only [List.mem_cons, List.not_mem_nil, or_false] at hp
    rcases hp with rfl | rfl <;> kernel_rfl
  case hC =>
    intro w p hp
    simp only [List.mem_cons, List.not_mem_nil, or_false] at hp
    rcases hp with rfl | rfl <;> kernel_rfl
  case hS => exact fun K mg H a ns hl hH hS => Al.law_spT [((242, 238), "_law_long.<locals>.<lambda>"), ((249, 245), "law.<locals>.<lambda>")] (by simp) K mg H a ns hl (fun p hp => hH p (by simpa using hp)) hS
  case F =>
    intro w mg fa h KX G hmg
    refine' K13.all_mk KX G hmg ?a1 ?l1 ?c1 ?k1 ?a2 ?l2 ?c2 ?k2 ?a3 ?l3 ?c3 ?k3 ?a4 ?l4 ?c4 ?k4 ?a5 ?l5 ?c5 ?k5 ?a6 ?l6 ?c6 ?k6 ?a7 ?l7 ?c7 ?k7 ?a8 ?l8 ?c8 ?k8 ?a9 ?l9 ?c9 ?k9 ?a10 ?l10 ?c10 ?k10 ?a11 ?l11 ?c11 ?k11 ?a12 ?l12 ?c12 ?k12 ?a13 ?l13 ?c13 ?k13 ?a14 ?l14 ?c14 ?k14 ?lt14 ?a15 ?l15 ?c15 ?k15 ?a16 ?l16 ?c16 ?k16 ?a17 ?l17 ?c17 ?k17 ?a18 ?l18 ?c18 ?k18 ?a19 ?l19 ?c19 ?k19 ?a20 ?l20 ?c20 ?k20 ?a21 ?l21 ?c21 ?k21 ?a22 ?l22 ?c22 ?k22 ?a23 ?l23 ?c23 ?k23 ?a24 ?l24 ?c24 ?k24 ?a25 ?l25 ?c25 ?k25 ?a26 ?l26 ?c26 ?k26 ?a27 ?l27 ?c27 ?k27 ?z1 ?z2 ?z3 ?z4 ?z5 ?z6 ?z7 ?z8 ?z9 ?z10 ?z11 ?z12 ?z13 ?y1 ?y2 ?y3 ?y4
    (case a1 => k_is)
    (case l1 => k_is)
    (case c1 => k_is)
    (case k1 => k_is)
    (case a2 => k_is)
    (case l2 => k_is)
    (case c2 => k_is)
    (case k2 => k_is)
    (case a3 => k_is)
    (case l3 => k_is)
    (case c3 => k_is)
    (case k3 => k_is)
    (case a4 => k_is)
    (case l4 => k_is)
    (case c4 => k_is)
    (case k4 => k_is)
    (case a5 => k_is)
    (case l5 => k_is)
    (case c5 => k_is)
    (case k5 => k_is)
    (case a6 => k_is)
    (case l6 => k_is)
    (case c6 => k_is)
    (case k6 => k_is)
    (case a7 => k_is)
    (case l7 => k_is)
    (case c7 => k_is)
    (case k7 => k_is)
    (case a8 => k_is)
    (case l8 => k_is)
    (case c8 => k_is)
    (case k8 => k_is)
    (case a9 => k_is)
    (case l9 => k_is)
    (case c9 => k_is)
    (case k9 => k_is)
    (case a10 => k_is)
    (case l10 => k_is)
    (case c10 => k_is)
    (case k10 => k_is)
    (case a11 => k_is)
    (case l11 => k_is)
    (case c11 => k_is)
    (case k11 => k_is)
    (case a12 => k_is)
    (case l12 => k_is)
    (case c12 => k_is)
    (case k12 => k_is)
    (case a13 => k_is)
    (case l13 => k_is)
    (case c13 => k_is)
    (case k13 => k_is)
    (case a14 => k_is)
    (case l14 => k_is)
    (case c14 => k_is)
    (case k14 => k_is)
    (case lt14 => k_is)
    (case a15 => k_is)
    (case l15 => k_is)
    (case c15 => k_is)
    (case k15 => k_is)
    (case a16 => k_is)
    (case l16 => k_is)
    (case c16 => k_is)
    (case k16 => k_is)
    (case a17 => k_is)
    (case l17 => k_is)
    (case c17 => k_is)
    (case k17 => k_is)
    (case a18 => k_is)
    (case l18 => k_is)
    (case c18 => k_is)
    (case k18 => k_is)
    (case a19 => k_is)
    (case l19 => k_is)
    (case c19 => k_is)
    (case k19 => k_is)
    (case a20 => k_is)
    (case l20 => k_is)
    (case c20 => k_is)
    (case k20 => k_is)
    (case a21 => k_is)
    (case l21 => k_is)
    (case c21 => k_is)
    (case k21 => k_is)
    (case a22 => k_is)
    (case l22 => k_is)
    (case c22 => k_is)
    (case k22 => k_is)
    (case a23 => k_is)
    (case l23 => k_is)
    (case c23 => k_is)
    (case k23 => k_is)
    (case a24 => k_is)
    (case l24 => k_is)
    (case c24 => k_is)
    (case k24 => k_is)
    (case a25 => k_is)
    (case l25 => k_is)
    (case c25 => k_is)
    (case k25 => k_is)
    (case a26 => k_is)
    (case l26 => k_is)
    (case c26 => k_is)
    (case k26 => k_is)
    (case a27 => k_is)
    (case l27 => k_is)
    (case c27 => k_is)
    (case k27 => k_is)
    (case z1 => k_is)
    (case z2 => k_is)
    (case z3 => k_is)
    (case z4 => k_is)
    (case z5 => k_is)
    (case z6 => k_is)
    (case z7 => k_is)
    (case z8 => k_is)
    (case z9 => k_is)
    (case z10 => k_is)
    (case z11 => k_is)
    (case z12 => k_is)
    (case z13 => k_is)
    (case y1 => k_is)
    (case y2 => k_is)
    (case y3 => k_is)
    (case y4 => k_is)
