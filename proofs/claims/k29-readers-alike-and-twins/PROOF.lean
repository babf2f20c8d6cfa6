import PyProof.Rows.All
import Wide.All
import OpenK.AllK
import Wide.FinOn
import HandS.ForMost
import HandS.IsInst
import HandS.Nested
import HandS.Defaults
import HandS.Exc
import HandS.Wide
import HandS.Deep
import HandS.TupAny
import HandS.Flow
import HandS.Small
import PyProof.Draws
import PyProof.EnumMake
import PyProof.ReprRoads
import HandS.ExcInit
import PyProof.InstStoreFacts
import HandS.SetFor
import HandS.More
import HandS.SortInts
import HandS.ExcIs
import HandS.Rev
import KE.KExcInit
import PyProof.ExcBaseAll.ValueError
import PyProof.ExcBaseAll.IndexError
import PyProof.ExcBaseAll.LookupError
import PyProof.ExcBaseAll.OverflowError
import PyProof.ExcBaseAll.ArithmeticError
import PyProof.ExcBaseAll.RuntimeError
import PyProof.FactsTree
import HandS.Conv
import HandS.Style
import KE.KRevSl
import HandS.WideBits
import KE.IntBitsLaws
import HandS.Strs
import OpenK.KOps
import HandS.FStr
import PyProof.InstEq
import HandS.OwnEq
import PySem.Challenge.RW_triesgrow_k29_readers_alike_and_twins
set_option Elab.async false
set_option linter.all false
set_option maxRecDepth 100000
set_option maxHeartbeats 4000000
/-! Al: an abstract layer: frozen data (PyData), owned objects by number; no addresses in a walk. -/
namespace Al
open PySem PySem.Spec L2
open PyProof.Rows hiding St
/-- an exception: its class's name, its fields -/
structure Ex where
  c : Str
  fs : List (Str × PyData)
/-- a lambda: its words, the cells that it captured, its code object -/
structure LF where
  qual : Str
  params : Arguments
  body : Expr
  scope : Scope
  cl : List (Str × Addr)
  c : Addr
/-- a function made in a def's body: a def's, a lambda -/
inductive CF where
  | nd (F : NdefX.NF) | lm (F : LF)
def CF.c : CF → Addr
  | .nd F => F.c
  | .lm F => F.c
def CF.qual : CF → Str
  | .nd F => F.qual
  | .lm F => F.qual
def LmO (f : Addr) (F : LF) : HO := .ext fun h => ∃ (pm ctv : Value), h.get? f = some (PySem.W.kla_obj "<lambda>" F.qual F.params F.body F.scope F.cl pm F.c ctv)
def CFO (f : Addr) : CF → HO
  | .nd F => NdefX.FnO f F
  | .lm F => LmO f F
/-- an abstract value: frozen data, an owned object's number, a plain value, the script, an exception that was caught -/
inductive PV where
  | d (x : PyData) | o (i : Nat) | v (x : V) | s (ns : List Int) | x (e : Ex) | p (x y : PV) | fn (G : CF)
/-- an owned object of another kind: what the heap holds there, told by frozen things alone -/
structure XR where
  rel : Hp → HO → Prop
  mono : ∀ {F F' : Hp} {h : HO}, Same F F' → rel F h → rel F' h
  isx : ∀ {F : Hp} {h : HO}, rel F h → ∃ φ, h = .ext φ
  nc : ∀ {F : Hp} {h : HO} (c : Addr) (q : Str), rel F h → h ≠ LamX.CodeO c q
/-- an owned object -/
inductive AO where
  | lst (xs : List PV) | tup (xs : List PV) | dK (kvs : List (Key × PV)) | dT (kvs : List (List Key × PV)) | ins (c : Str) (fs : List (Str × PV)) | gone | tbl (P : Addr) (q : Str) | xo (R : XR)
abbrev Own := List AO
abbrev Env1 := List (Option PV)
mutual
/-- v is the data x, all of it frozen -/
inductive Dq (F : Hp) : V → PyData → Prop
  | non : Dq F .non .none
  | bl (b : Bool) : Dq F (.bl b) (.bool b)
  | int (i : Int) : Dq F (.int i) (.int i)
  | str (x : Str) : Dq F (.str x) (.str x)
  | lst {a : Addr} {xs : List V} {ds : List PyData} : F a = some (.lst xs) → DqAll F xs ds → Dq F (.ref a) (.list ds)
  | tup {a : Addr} {xs : List V} {ds : List PyData} : F a = some (.tup xs) → DqAll F xs ds → Dq F (.ref a) (.tuple ds)
  | dct {a : Addr} : F a = some (.dK []) → Dq F (.ref a) (.dict [])
inductive DqAll (F : Hp) : List V → List PyData → Prop
  | nil : DqAll F [] []
  | cons {v : V} {vs : List V} {d : PyData} {ds : List PyData} : Dq F v d → DqAll F vs ds → DqAll F (v :: vs) (d :: ds)
end
theorem Dq_same {F F' : Hp} (e : Same F F') {v : V} {x : PyData} (h : Dq F v x) : Dq F' v x := by
  refine Dq.rec (motive_1 := fun v x _ => Dq F' v x) (motive_2 := fun vs xs _ => DqAll F' vs xs) .non .bl .int .str ?_ ?_ ?_ .nil ?_ h
  · intro a xs ds hs _ ih
    exact .lst (e _ _ hs) ih
  · intro a xs ds hs _ ih
    exact .tup (e _ _ hs) ih
  · intro a hs
    exact .dct (e _ _ hs)
  · intro v vs d ds _ _ h1 h2
    exact .cons h1 h2
theorem DqAll_same {F F' : Hp} (e : Same F F') : ∀ {vs : List V} {xs : List PyData}, DqAll F vs xs → DqAll F' vs xs
  | _, _, .nil => .nil
  | _, _, .cons h t => .cons (Dq_same e h) (DqAll_same e t)
theorem sh_cl {d : PyData} (h : SeqAt.shaped d = true) : PyData.canLay0 d = true := by
  unfold SeqAt.shaped at h
  rw [Bool.and_eq_true] at h
  exact h.1
theorem Dq.dp {K : PySem.W.Frag} {F : Hp} {v : V} {x : PyData} (h : Dq F v x) : PyData.canLay0 x = true → Dp K F v x := by
  refine Dq.rec (motive_1 := fun v x _ => PyData.canLay0 x = true → Dp K F v x) (motive_2 := fun vs xs _ => PyData.canLayAll0 xs = true → DpAll K F vs xs) (fun _ => .non) (fun b _ => .bl b) (fun b _ => .int b) (fun b _ => .str b) ?_ ?_ ?_ (fun _ => .nil) ?_ h
  · intro a xs ds hs _ ih hc
    exact .lst (SqL.of hs) (ih (by simpa [PyData.canLay0] using hc))
  · intro a xs ds hs _ ih hc
    exact .tup (SqT.of hs) (ih (by simpa [PyData.canLay0] using hc))
  · intro a hs hc
    simp [PyData.canLay0] at hc
  · intro v vs d ds _ _ h1 h2 hc
    rw [PyData.canLayAll0, Bool.and_eq_true] at hc
    exact .cons (h1 hc.1) (h2 hc.2)
theorem DqAll.len {F : Hp} : ∀ {vs : List V} {xs : List PyData}, DqAll F vs xs → vs.length = xs.length
  | _, _, .nil => rfl
  | _, _, .cons _ t => congrArg (· + 1) t.len
theorem DqAll.get {F : Hp} : ∀ {vs : List V} {xs : List PyData}, DqAll F vs xs → ∀ {i : Nat} {x : PyData}, xs[i]? = some x → ∃ v, vs[i]? = some v ∧ Dq F v x
  | _, _, .nil, _, _, e => by simp at e
  | _, _, .cons h _, 0, _, e => by cases e; exact ⟨_, rfl, h⟩
  | _, _, .cons _ t, i + 1, _, e => t.get (i := i) e
theorem DqAll.app {F : Hp} : ∀ {vs : List V} {xs : List PyData}, DqAll F vs xs → ∀ {vs' : List V} {xs' : List PyData}, DqAll F vs' xs' → DqAll F (vs ++ vs') (xs ++ xs')
  | _, _, .nil, _, _, h => h
  | _, _, .cons h t, _, _, h' => .cons h (t.app h')
theorem DqAll.drop {F : Hp} : ∀ (n : Nat) {vs : List V} {xs : List PyData}, DqAll F vs xs → DqAll F (vs.drop n) (xs.drop n)
  | 0, _, _, h => h
  | _ + 1, _, _, .nil => .nil
  | n + 1, _, _, .cons _ t => t.drop n
theorem DqAll.take {F : Hp} : ∀ (n : Nat) {vs : List V} {xs : List PyData}, DqAll F vs xs → DqAll F (vs.take n) (xs.take n)
  | 0, _, _, _ => .nil
  | _ + 1, _, _, .nil => .nil
  | n + 1, _, _, .cons h t => .cons h (t.take n)
def Gr (as as' : List Addr) : Prop := ∀ (i : Nat) (a : Addr), as[i]? = some a → as'[i]? = some a
theorem Gr.refl (as : List Addr) : Gr as as := fun _ _ h => h
theorem Gr.trans {a b c : List Addr} (h : Gr a b) (g : Gr b c) : Gr a c := fun i x e => g i x (h i x e)
theorem Gr.app (a b : List Addr) : Gr a (a ++ b) := fun i x e => by
  have hi : i < a.length := (List.getElem?_eq_some_iff.mp e).1
  rw [List.getElem?_append_left hi]
  exact e
/-- the written part, what the module's names hold, and the floor: what stood as the def was entered -/
structure KF where
  K : PySem.W.Frag
  mg : Str → Option Value
  a0 : List Addr
  F0 : Hp
/-- an exception's object: its class, its dict -/
def exz (a C : Addr) (d : Option Addr) : HO := .ext fun h => ∃ o vs, h.get? a = some o ∧ o.cls = .ref C ∧ o.dict = d ∧ o.data = .fields vs
/-- the exception's class and fields, as they lie -/
def XRel (K : KF) (F : Hp) (e : Ex) (cls : Value) (d : Option Addr) : Prop := ∃ C, K.mg e.c = some (.ref C) ∧ cls = .ref C ∧
  ((e.fs = [] ∧ d = none) ∨ ∃ dd ws, d = some dd ∧ F dd = some (.xd ws) ∧ ∀ f x, e.fs.lookup f = some x → ∃ v, ws.lookup f = some v ∧ Dq F v x)
theorem XRel.mono {K : KF} {F F' : Hp} (s : Same F F') {e : Ex} {cls : Value} {d : Option Addr} (h : XRel K F e cls d) : XRel K F' e cls d := by
  obtain ⟨C, h1, h2, h3⟩ := h
  refine ⟨C, h1, h2, ?_⟩
  rcases h3 with h3 | ⟨dd, ws, h4, h5, h6⟩
  · exact .inl h3
  · exact .inr ⟨dd, ws, h4, s _ _ h5, fun f x e => let ⟨v, a, b⟩ := h6 f x e; ⟨v, a, Dq_same s b⟩⟩
def RPV (K : KF) (F : Hp) (as : List Addr) : PV → V → Prop
  | .d x, v => Dq F v x
  | .o i, v => ∃ a, as[i]? = some a ∧ v = .ref a
  | .v x, v => v = x
  | .s ns, v => ∃ a, v = .ref a ∧ SqL K.K F a (ns.map V.int)
  | .x e, v => ∃ a C d, v = .ref a ∧ F a = some (exz a C d) ∧ XRel K F e (.ref C) d
  | .p x y, v => ∃ a u1 u2, v = .ref a ∧ F a = some (.tup [u1, u2]) ∧ RPV K F as x u1 ∧ RPV K F as y u2
  | .fn G, v => ∃ f, v = .ref f ∧ F f = some (CFO f G) ∧ F G.c = some (LamX.CodeO G.c G.qual)
abbrev RPs (K : KF) (F : Hp) (as : List Addr) : List PV → List V → Prop := Paired (RPV K F as)
theorem RPV.mono {K : KF} {F F' : Hp} {as as' : List Addr} (e : Same F F') (g : Gr as as') : ∀ {p : PV} {v : V}, RPV K F as p v → RPV K F' as' p v
  | .d x, v, h => Dq_same e h
  | .o i, v, ⟨a, h, z⟩ => ⟨a, g i a h, z⟩
  | .v x, v, h => h
  | .s ns, v, ⟨a, z, h⟩ => ⟨a, z, e.seq h⟩
  | .x _, v, ⟨a, C, d, z, h, q⟩ => ⟨a, C, d, z, e _ _ h, q.mono e⟩
  | .p _ _, v, ⟨a, u1, u2, z, h, q1, q2⟩ => ⟨a, u1, u2, z, e _ _ h, RPV.mono e g q1, RPV.mono e g q2⟩
  | .fn _, v, ⟨f, z, h1, h2⟩ => ⟨f, z, e _ _ h1, e _ _ h2⟩
theorem rpv_floor {K : KF} {a1 : List Addr} {F1 : Hp} {F : Hp} {as : List Addr} : ∀ {p : PV} {v : V}, RPV K F as p v → RPV ⟨K.K, K.mg, a1, F1⟩ F as p v
  | .d _, _, h => h
  | .o _, _, h => h
  | .v _, _, h => h
  | .s _, _, h => h
  | .x _, _, h => h
  | .p _ _, _, ⟨b, u1, u2, z, h, q1, q2⟩ => ⟨b, u1, u2, z, h, rpv_floor q1, rpv_floor q2⟩
  | .fn _, _, h => h
theorem RPs.mono {K : KF} {F F' : Hp} {as as' : List Addr} (e : Same F F') (g : Gr as as') : ∀ {p : List PV} {v : List V}, RPs K F as p v → RPs K F' as' p v
  | _, _, .nil => .nil
  | _, _, .cons h t => .cons (RPV.mono e g h) (RPs.mono e g t)
def ROb (K : KF) (F : Hp) (as : List Addr) : AO → HO → Prop
  | .lst xs, h => ∃ vs, h = .lst vs ∧ RPs K F as xs vs
  | .tup xs, h => ∃ vs, h = .tup vs ∧ RPs K F as xs vs
  | .dK kvs, h => ∃ ws, h = .dK ws ∧ Paired (fun (p : Key × PV) (q : Key × V) => p.1 = q.1 ∧ RPV K F as p.2 q.2) kvs ws
  | .dT kvs, h => ∃ ws, h = .dT ws ∧ Paired (fun (p : List Key × PV) (q : List Key × V) => p.1 = q.1 ∧ RPV K F as p.2 q.2) kvs ws
  | .ins c fs, h => ∃ C dx ws, K.mg c = some (.ref C) ∧ h = .ins C dx ws ∧ Paired (fun (p : Str × PV) (q : Str × V) => p.1 = q.1 ∧ RPV K F as p.2 q.2) fs ws
  | .gone, _ => True
  | .tbl _ _, _ => False
  | .xo R, h => R.rel F h
theorem ROb.mono {K : KF} {F F' : Hp} {as as' : List Addr} (e : Same F F') (g : Gr as as') : ∀ {p : AO} {h : HO}, ROb K F as p h → ROb K F' as' p h
  | .lst _, _, ⟨vs, h, r⟩ => ⟨vs, h, r.mono e g⟩
  | .tup _, _, ⟨vs, h, r⟩ => ⟨vs, h, r.mono e g⟩
  | .dK _, _, ⟨vs, h, r⟩ => ⟨vs, h, Paired.mapP r fun _ _ z => ⟨z.1, z.2.mono e g⟩⟩
  | .dT _, _, ⟨vs, h, r⟩ => ⟨vs, h, Paired.mapP r fun _ _ z => ⟨z.1, z.2.mono e g⟩⟩
  | .ins _ _, _, ⟨C, dx, ws, m, h, r⟩ => ⟨C, dx, ws, m, h, Paired.mapP r fun _ _ z => ⟨z.1, z.2.mono e g⟩⟩
  | .gone, _, _ => trivial
  | .tbl _ _, _, h => h
  | .xo R, _, h => R.mono e h
def OwnAt (K : KF) (F H : Hp) (as : List Addr) (a : Addr) : AO → Prop
  | .gone => ∃ h, H a = some h
  | .tbl P q => a = P ∧ F a = none ∧ ∃ ps : Array Value, H a = some (.tbl ps) ∧ TriplesOk ps.toList ∧ ∀ (pos : Pos) (cv : Value), codeAmong pos ps.toList = some cv → ∃ c, cv = .ref c ∧ F c = some (LamX.CodeO c q)
  | ob => F a = none ∧ ∃ h, H a = some h ∧ ROb K F as ob h
/-- the heap H holds the owned objects O (at as) and all that is frozen (F) -/
structure Wd (K : KF) (O : Own) (as : List Addr) (F H : Hp) : Prop where
  fa : Gr K.a0 as
  fF : Same K.F0 F
  len : as.length = O.length
  nd : as.Nodup
  ex : Same F H
  own : ∀ (i : Nat) (a : Addr) (ob : AO), O[i]? = some ob → as[i]? = some a → OwnAt K F H as a ob
theorem OwnAt.any {K : KF} {F H : Hp} {as : List Addr} {a : Addr} : ∀ {ob : AO}, OwnAt K F H as a ob → ∃ h, H a = some h
  | .gone, h => h
  | .tbl _ _, ⟨_, _, ps, h, _⟩ => ⟨_, h⟩
  | .xo _, ⟨_, h, e, _⟩ => ⟨h, e⟩
  | .lst _, ⟨_, h, e, _⟩ => ⟨h, e⟩
  | .tup _, ⟨_, h, e, _⟩ => ⟨h, e⟩
  | .dK _, ⟨_, h, e, _⟩ => ⟨h, e⟩
  | .dT _, ⟨_, h, e, _⟩ => ⟨h, e⟩
  | .ins _ _, ⟨_, h, e, _⟩ => ⟨h, e⟩
theorem OwnAt.step {K : KF} {F F' H H' : Hp} {as as' : List Addr} {a : Addr} (e : Same F F') (g : Gr as as') (hh : H' a = H a) (hf : F a = none → F' a = none) : ∀ {ob : AO}, OwnAt K F H as a ob → OwnAt K F' H' as' a ob
  | .gone, ⟨h, q⟩ => ⟨h, hh.trans q⟩
  | .tbl _ _, ⟨z, n, ps, h, t, q⟩ => ⟨z, hf n, ps, hh.trans h, t, fun pos cv hc => let ⟨c, e1, e2⟩ := q pos cv hc; ⟨c, e1, e _ _ e2⟩⟩
  | .lst _, ⟨n, h, q, r⟩ => ⟨hf n, h, hh.trans q, r.mono e g⟩
  | .tup _, ⟨n, h, q, r⟩ => ⟨hf n, h, hh.trans q, r.mono e g⟩
  | .dK _, ⟨n, h, q, r⟩ => ⟨hf n, h, hh.trans q, r.mono e g⟩
  | .dT _, ⟨n, h, q, r⟩ => ⟨hf n, h, hh.trans q, r.mono e g⟩
  | .ins _ _, ⟨n, h, q, r⟩ => ⟨hf n, h, hh.trans q, r.mono e g⟩
  | .xo R, ⟨n, h, q, r⟩ => ⟨hf n, h, hh.trans q, R.mono e r⟩
section
variable {K : KF} {O : Own} {as : List Addr} {F H : Hp}
theorem Wd.at_ (w : Wd K O as F H) {i : Nat} {ob : AO} (h : O[i]? = some ob) : ∃ a, as[i]? = some a ∧ OwnAt K F H as a ob := by
  have hi : i < O.length := (List.getElem?_eq_some_iff.mp h).1
  have hj : i < as.length := by rw [w.len]; exact hi
  exact ⟨as[i], List.getElem?_eq_getElem hj, w.own i _ ob h (List.getElem?_eq_getElem hj)⟩
theorem Wd.tracked (w : Wd K O as F H) {a : Addr} (h : a ∈ as) : ∃ o, H a = some o := by
  obtain ⟨i, hi, e⟩ := List.getElem_of_mem h
  have hj : i < O.length := by rw [← w.len]; exact hi
  exact (w.own i a O[i] (List.getElem?_eq_getElem hj) (by rw [List.getElem?_eq_getElem hi, e])).any
/-- a new owned object -/
theorem Wd.new (w : Wd K O as F H) {p : Addr} {ob : AO} {h : HO} (hp : H p = none) (r : ROb K F as ob h) (hg : ob ≠ .gone) : Wd K (O ++ [ob]) (as ++ [p]) F (upd H p h) := by
  have fp : F p = none := w.ex.free hp
  refine ⟨w.fa.trans (Gr.app _ _), w.fF, by simp [w.len], ?_, fun b o e => ?_, fun i a oc h1 h2 => ?_⟩
  · rw [List.nodup_append]
    refine ⟨w.nd, by simp, fun a ha b hb e => ?_⟩
    obtain ⟨o, ho⟩ := w.tracked ha
    have : b = p := by simpa using hb
    rw [e, this, hp] at ho
    cases ho
  · rw [upd_ne (ne_of_none e fp)]
    exact w.ex b o e
  · by_cases hi : i < O.length
    · rw [List.getElem?_append_left hi] at h1
      rw [List.getElem?_append_left (by rw [w.len]; exact hi)] at h2
      have q := w.own i a oc h1 h2
      obtain ⟨o, ho⟩ := q.any
      exact q.step (Same.refl _) (Gr.app _ _) (upd_ne (ne_of_none ho hp)) (fun z => z)
    · have hi2 : i = O.length := by
        have := (List.getElem?_eq_some_iff.mp h1).1
        simp at this
        omega
      subst hi2
      rw [List.getElem?_append_right (Nat.le_refl _)] at h1
      rw [List.getElem?_append_right (by rw [w.len]; exact Nat.le_refl _)] at h2
      have e1 : oc = ob := by simpa using h1.symm
      have e2 : a = p := by rw [w.len] at h2; simpa using h2.symm
      subst e1 e2
      have z : F a = none ∧ ∃ h', (upd H a h) a = some h' ∧ ROb K F (as ++ [a]) oc h' := ⟨fp, h, upd_same, r.mono (Same.refl _) (Gr.app _ _)⟩
      cases oc with
      | gone => exact absurd rfl hg
      | tbl _ _ => exact r.elim
      | lst _ => exact z
      | tup _ => exact z
      | dK _ => exact z
      | dT _ => exact z
      | ins _ _ => exact z
      | xo _ => exact z
theorem nodup_at {l : List Addr} (h : l.Nodup) {i j : Nat} {a : Addr} (h1 : l[i]? = some a) (h2 : l[j]? = some a) : i = j := by
  obtain ⟨p1, e1⟩ := List.getElem?_eq_some_iff.mp h1
  obtain ⟨p2, e2⟩ := List.getElem?_eq_some_iff.mp h2
  exact (List.getElem_inj h).mp (e1.trans e2.symm)
/-- an owned object changed -/
theorem Wd.set (w : Wd K O as F H) {i : Nat} {a : Addr} {ob : AO} {h : HO} (hi : as[i]? = some a) (fa : F a = none) (r : ROb K F as ob h) (hg : ob ≠ .gone) : Wd K (O.set i ob) as F (upd H a h) := by
  have hil : i < O.length := by rw [← w.len]; exact (List.getElem?_eq_some_iff.mp hi).1
  refine ⟨w.fa, w.fF, by simp [w.len], w.nd, fun b o e => ?_, fun j b oc h1 h2 => ?_⟩
  · rw [upd_ne (ne_of_none e fa)]
    exact w.ex b o e
  · by_cases hj : i = j
    · subst hj
      rw [List.getElem?_set_self hil] at h1
      have e1 : ob = oc := Option.some.inj h1
      rw [hi] at h2
      have e2 : a = b := Option.some.inj h2
      subst e1 e2
      have z : F a = none ∧ ∃ h', (upd H a h) a = some h' ∧ ROb K F as ob h' := ⟨fa, h, upd_same, r⟩
      cases ob with
      | gone => exact absurd rfl hg
      | tbl _ _ => exact r.elim
      | lst _ => exact z
      | tup _ => exact z
      | dK _ => exact z
      | dT _ => exact z
      | ins _ _ => exact z
      | xo _ => exact z
    · rw [List.getElem?_set_ne hj] at h1
      have hne : b ≠ a := fun e => hj (nodup_at w.nd hi (e ▸ h2))
      exact (w.own j b oc h1 h2).step (Same.refl _) (Gr.refl _) (upd_ne hne) (fun z => z)
/-- an object that nobody speaks of -/
theorem Wd.side (w : Wd K O as F H) {p : Addr} {h : HO} (hp : H p = none) : Wd K O as F (upd H p h) :=
  ⟨w.fa, w.fF, w.len, w.nd, fun b o e => by
    rw [upd_ne (ne_of_none e (w.ex.free hp))]
    exact w.ex b o e, fun i a ob h1 h2 => by
    have q := w.own i a ob h1 h2
    obtain ⟨o, ho⟩ := q.any
    exact q.step (Same.refl _) (Gr.refl _) (upd_ne (ne_of_none ho hp)) (fun z => z)⟩
/-- another floor -/
theorem Wd.floor (w : Wd K O as F H) {a1 : List Addr} {F1 : Hp} (g : Gr a1 as) (s : Same F1 F) : Wd ⟨K.K, K.mg, a1, F1⟩ O as F H := by
  refine ⟨g, s, w.len, w.nd, w.ex, fun i a ob h1 h2 => ?_⟩
  have q := w.own i a ob h1 h2
  cases ob with
  | gone => exact q
  | tbl _ _ => exact q
  | lst _ => obtain ⟨n, h, e, vs, z, r⟩ := q; exact ⟨n, h, e, vs, z, Paired.mapP r fun _ _ y => rpv_floor y⟩
  | tup _ => obtain ⟨n, h, e, vs, z, r⟩ := q; exact ⟨n, h, e, vs, z, Paired.mapP r fun _ _ y => rpv_floor y⟩
  | dK _ => obtain ⟨n, h, e, vs, z, r⟩ := q; exact ⟨n, h, e, vs, z, Paired.mapP r fun _ _ y => ⟨y.1, rpv_floor y.2⟩⟩
  | dT _ => obtain ⟨n, h, e, vs, z, r⟩ := q; exact ⟨n, h, e, vs, z, Paired.mapP r fun _ _ y => ⟨y.1, rpv_floor y.2⟩⟩
  | ins _ _ => obtain ⟨n, h, e, C, dx, ws, m, z, r⟩ := q; exact ⟨n, h, e, C, dx, ws, m, z, Paired.mapP r fun _ _ y => ⟨y.1, rpv_floor y.2⟩⟩
  | xo _ => exact q
/-- a new frozen object -/
theorem Wd.data (w : Wd K O as F H) {p : Addr} {h : HO} (hp : H p = none) : Wd K O as (upd F p h) (upd H p h) ∧ Same F (upd F p h) := by
  have fp : F p = none := w.ex.free hp
  have sm : Same F (upd F p h) := fun b o e => by rw [upd_ne (ne_of_none e fp)]; exact e
  refine ⟨⟨w.fa, w.fF.trans sm, w.len, w.nd, fun b o e => ?_, fun i a ob h1 h2 => ?_⟩, sm⟩
  · by_cases hb : b = p
    · subst hb; rw [upd_same] at e ⊢; exact e
    · rw [upd_ne hb] at e ⊢; exact w.ex b o e
  · have q := w.own i a ob h1 h2
    obtain ⟨o, ho⟩ := q.any
    have hne : a ≠ p := ne_of_none ho hp
    exact q.step sm (Gr.refl _) (upd_ne hne) (fun z => by rw [upd_ne hne]; exact z)
theorem rps_data : ∀ {ds : List PyData} {vs : List V}, RPs K F as (ds.map PV.d) vs → DqAll F vs ds
  | [], _, .nil => .nil
  | _ :: _, _, .cons h t => .cons h (rps_data t)
theorem data_rps : ∀ {ds : List PyData} {vs : List V}, DqAll F vs ds → RPs K F as (ds.map PV.d) vs
  | _, _, .nil => .nil
  | _, _, .cons h t => .cons h (data_rps t)
/-- an owned list is frozen -/
theorem Wd.freeze (w : Wd K O as F H) {i : Nat} {ds : List PyData} (hO : O[i]? = some (.lst (ds.map PV.d))) :
    ∃ a F', as[i]? = some a ∧ Wd K (O.set i .gone) as F' H ∧ Same F F' ∧ Dq F' (.ref a) (.list ds) := by
  obtain ⟨a, ha, fa, h, hh, vs, rfl, r⟩ := w.at_ hO
  have hil : i < O.length := (List.getElem?_eq_some_iff.mp hO).1
  have sm : Same F (upd F a (.lst vs)) := fun b o e => by rw [upd_ne (ne_of_none e fa)]; exact e
  refine ⟨a, upd F a (.lst vs), ha, ⟨w.fa, w.fF.trans sm, by simp [w.len], w.nd, fun b o e => ?_, fun j b oc h1 h2 => ?_⟩, sm, .lst upd_same (DqAll_same sm (rps_data r))⟩
  · by_cases hb : b = a
    · subst hb; rw [upd_same] at e; rw [hh]; exact e
    · rw [upd_ne hb] at e; exact w.ex b o e
  · by_cases hj : i = j
    · subst hj
      rw [List.getElem?_set_self hil] at h1
      have e1 : AO.gone = oc := Option.some.inj h1
      rw [ha] at h2
      have e2 : a = b := Option.some.inj h2
      subst e1 e2
      exact ⟨_, hh⟩
    · rw [List.getElem?_set_ne hj] at h1
      have hne : b ≠ a := fun e => hj (nodup_at w.nd ha (e ▸ h2))
      exact (w.own j b oc h1 h2).step sm (Gr.refl _) rfl (fun z => by rw [upd_ne hne]; exact z)
/-- an owned tuple is frozen -/
theorem Wd.freezeT (w : Wd K O as F H) {i : Nat} {ds : List PyData} (hO : O[i]? = some (.tup (ds.map PV.d))) :
    ∃ a F', as[i]? = some a ∧ Wd K (O.set i .gone) as F' H ∧ Same F F' ∧ Dq F' (.ref a) (.tuple ds) := by
  obtain ⟨a, ha, fa, h, hh, vs, rfl, r⟩ := w.at_ hO
  have hil : i < O.length := (List.getElem?_eq_some_iff.mp hO).1
  have sm : Same F (upd F a (.tup vs)) := fun b o e => by rw [upd_ne (ne_of_none e fa)]; exact e
  refine ⟨a, upd F a (.tup vs), ha, ⟨w.fa, w.fF.trans sm, by simp [w.len], w.nd, fun b o e => ?_, fun j b oc h1 h2 => ?_⟩, sm, .tup upd_same (DqAll_same sm (rps_data r))⟩
  · by_cases hb : b = a
    · subst hb; rw [upd_same] at e; rw [hh]; exact e
    · rw [upd_ne hb] at e; exact w.ex b o e
  · by_cases hj : i = j
    · subst hj
      rw [List.getElem?_set_self hil] at h1
      have e1 : AO.gone = oc := Option.some.inj h1
      rw [ha] at h2
      have e2 : a = b := Option.some.inj h2
      subst e1 e2
      exact ⟨_, hh⟩
    · rw [List.getElem?_set_ne hj] at h1
      have hne : b ≠ a := fun e => hj (nodup_at w.nd ha (e ▸ h2))
      exact (w.own j b oc h1 h2).step sm (Gr.refl _) rfl (fun z => by rw [upd_ne hne]; exact z)
end
/-! ### slots -/
def RS (K : KF) (F : Hp) (as : List Addr) : Env1 → St → Prop := Paired fun p q => ∀ pv, p = some pv → ∃ v, q = some v ∧ RPV K F as pv v
section
variable {K : KF} {as as' : List Addr} {F F' H : Hp}
theorem RS.mono (e : Same F F') (g : Gr as as') {ρ : Env1} {σ : St} (h : RS K F as ρ σ) : RS K F' as' ρ σ := Paired.mapP h fun _ _ z pv hp => let ⟨v, h1, h2⟩ := z pv hp; ⟨v, h1, h2.mono e g⟩
theorem RS.get : ∀ {ρ : Env1} {σ : St} {i : Nat} {pv : PV}, RS K F as ρ σ → ρ[i]? = some (some pv) → ∃ v, σ[i]? = some (some v) ∧ RPV K F as pv v
  | _, _, _, _, .nil, e => by simp at e
  | _, _, 0, _, .cons r _, e => by
    have e' := Option.some.inj e
    obtain ⟨v, h1, h2⟩ := r _ e'
    exact ⟨v, by rw [h1]; rfl, h2⟩
  | _, _, i + 1, _, .cons _ t, e => RS.get (i := i) t e
theorem RS.set {pv : PV} {v : V} (r : RPV K F as pv v) : ∀ {ρ : Env1} {σ : St} (i : Nat), RS K F as ρ σ → RS K F as (ρ.set i (some pv)) (σ.set i (some v))
  | _, _, _, .nil => .nil
  | _, _, 0, .cons _ t => .cons (fun pv' e => by cases e; exact ⟨v, rfl, r⟩) t
  | _, _, i + 1, .cons q t => .cons q (RS.set r i t)
theorem RS.unset : ∀ {ρ : Env1} {σ : St} (i : Nat) (q : Option V), RS K F as ρ σ → RS K F as (ρ.set i none) (σ.set i q)
  | _, _, _, _, .nil => .nil
  | _, _, 0, _, .cons _ t => .cons (fun pv' e => nomatch e) t
  | _, _, i + 1, q, .cons p t => .cons p (RS.unset i q t)
theorem RS.start (n : Nat) : ∀ {ps : List PV} {vs : List V}, RPs K F as ps vs → RS K F as (ps.map some ++ List.replicate n none) (vs.map some ++ List.replicate n none)
  | _, _, .nil => by
    induction n with
    | zero => exact .nil
    | succ n ih => exact .cons (fun pv e => nomatch e) ih
  | _, _, .cons h t => .cons (fun pv e => by cases e; exact ⟨_, rfl, h⟩) (RS.start n t)
end
/-! ### the abstract judgements -/
/-- what is wanted of a value -/
def PQ (K : KF) (as : List Addr) (F : Hp) (Φ : PV → Own → Prop) : VK := fun v H' => ∃ pv O' as' F', Wd K O' as' F' H' ∧ Gr as as' ∧ Same F F' ∧ RPV K F' as' pv v ∧ Φ pv O'
theorem PQ.back {K : KF} {as as1 : List Addr} {F F1 : Hp} {Φ : PV → Own → Prop} {v : V} {H : Hp} (g : Gr as as1) (e : Same F F1) (h : PQ K as1 F1 Φ v H) : PQ K as F Φ v H :=
  let ⟨pv, O', as', F', w, g', e', r, q⟩ := h
  ⟨pv, O', as', F', w, g.trans g', e.trans e', r, q⟩
theorem PQ.mk {K : KF} {as : List Addr} {F : Hp} {Φ : PV → Own → Prop} {v : V} {H : Hp} {pv : PV} {O : Own} (w : Wd K O as F H) (r : RPV K F as pv v) (h : Φ pv O) : PQ K as F Φ v H := ⟨pv, O, as, F, w, Gr.refl _, Same.refl _, r, h⟩
def PQs (K : KF) (as : List Addr) (F : Hp) (Φ : List PV → Own → Prop) : List V → Hp → Prop := fun v H' => ∃ pv O' as' F', Wd K O' as' F' H' ∧ Gr as as' ∧ Same F F' ∧ RPs K F' as' pv v ∧ Φ pv O'
theorem PQs.back {K : KF} {as as1 : List Addr} {F F1 : Hp} {Φ : List PV → Own → Prop} {v : List V} {H : Hp} (g : Gr as as1) (e : Same F F1) (h : PQs K as1 F1 Φ v H) : PQs K as F Φ v H :=
  let ⟨pv, O', as', F', w, g', e', r, q⟩ := h
  ⟨pv, O', as', F', w, g.trans g', e.trans e', r, q⟩
def PQb (K : KF) (as : List Addr) (F : Hp) (Φ : Bool → Own → Prop) : Bool → Hp → Prop := fun b H' => ∃ O' as' F', Wd K O' as' F' H' ∧ Gr as as' ∧ Same F F' ∧ Φ b O'
theorem PQb.back {K : KF} {as as1 : List Addr} {F F1 : Hp} {Φ : Bool → Own → Prop} {v : Bool} {H : Hp} (g : Gr as as1) (e : Same F F1) (h : PQb K as1 F1 Φ v H) : PQb K as F Φ v H :=
  let ⟨O', as', F', w, g', e', q⟩ := h
  ⟨O', as', F', w, g.trans g', e.trans e', q⟩
/-- the widest readings (shut: the elaborator is not to look into them) -/
@[irreducible] def tE (X : Cx) (e : Expr) : TE := fun σ H Q => ∀ pins s, Inv X pins σ H s → wpAny (model X.prog X.w) X.A (eval e X.env) (EP X pins σ Q) X.xe s
@[irreducible] def tT (X : Cx) (e : Expr) : TT := fun σ H Q => ∀ pins s, Inv X pins σ H s → wpAny (model X.prog X.w) X.A (isTrue e X.env (eval e X.env)) (TP X pins σ Q) X.xe s
@[irreducible] def tW (X : Cx) (e : Expr) : TT := fun σ H Q => ∀ whole pins s, Inv X pins σ H s → wpAny (model X.prog X.w) X.A (isTrue e X.env whole) (TP X pins σ Q) X.xe s
@[irreducible] def tA (X : Cx) (es : List Expr) : TA := fun σ H Q => ∀ pos pins s, Inv X pins σ H s → wpAny (model X.prog X.w) X.A (spliced (backTo pos (starEach es X.env))) (AP X pins σ Q) X.xe s
@[irreducible] def tS (X : Cx) (st : Stmt) : TS := fun D σ H => ∀ pins s, Inv X pins σ H s → wpAny (model X.prog X.w) X.A (exec st X.env) (SP X pins D) X.xe s
@[irreducible] def tSs (X : Cx) (st : List Stmt) : TS := fun D σ H => ∀ pins s, Inv X pins σ H s → wpAny (model X.prog X.w) X.A (execs st X.env) (SP X pins D) X.xe s
@[irreducible] def tG (X : Cx) (tg : Expr) : TG := fun v σ H Q => ∀ pins s u, Inv X pins σ H s → RelV v u → wpAny (model X.prog X.w) X.A (assign tg X.env u) (fun _ s' => ∃ σ' H', Inv X pins σ' H' s' ∧ Q σ' H') X.xe s
section
variable {X : Cx} {e : Expr} {es : List Expr} {st : Stmt} {sts : List Stmt} {σ : L2.St} {H : Hp}
theorem pe_tE : PE X e (tE X e) := ⟨fun pins s _ _ _ I h => by unfold tE at h; exact h pins s I⟩
theorem pt_tT : PT X e (tT X e) := ⟨fun pins s _ _ _ I h => by unfold tT at h; exact h pins s I⟩
theorem pw_tW : PW X e (tW X e) := ⟨fun wh pins s _ _ _ I h => by unfold tW at h; exact h wh pins s I⟩
theorem pa_tA : PA X es (tA X es) := ⟨fun pos pins s _ _ _ I h => by unfold tA at h; exact h pos pins s I⟩
theorem ps_tS : PS X st (tS X st) := ⟨fun pins s _ _ _ I h => by unfold tS at h; exact h pins s I⟩
theorem pss_tSs : PSs X sts (tSs X sts) := ⟨fun pins s _ _ _ I h => by unfold tSs at h; exact h pins s I⟩
theorem pg_tG : PG X e (tG X e) := ⟨fun pins s _ _ _ u _ I r h => by unfold tG at h; exact h pins s u I r⟩
theorem tE_of {t : TE} {Q : VK} (h : PE X e t) (q : t σ H Q) : tE X e σ H Q := by unfold tE; exact fun pins s I => h.run pins s σ H Q I q
theorem tT_of {t : TT} {Q : Bool → Hp → Prop} (h : PT X e t) (q : t σ H Q) : tT X e σ H Q := by unfold tT; exact fun pins s I => h.run pins s σ H Q I q
theorem tW_of {t : TT} {Q : Bool → Hp → Prop} (h : PW X e t) (q : t σ H Q) : tW X e σ H Q := by unfold tW; exact fun wh pins s I => h.run wh pins s σ H Q I q
theorem tA_of {t : TA} {Q : List V → Hp → Prop} (h : PA X es t) (q : t σ H Q) : tA X es σ H Q := by unfold tA; exact fun pos pins s I => h.run pos pins s σ H Q I q
theorem tS_of {t : TS} {D : Ends} (h : PS X st t) (q : t D σ H) : tS X st D σ H := by unfold tS; exact fun pins s I => h.run pins s σ H D I q
theorem tSs_of {t : TS} {D : Ends} (h : PSs X sts t) (q : t D σ H) : tSs X sts D σ H := by unfold tSs; exact fun pins s I => h.run pins s σ H D I q
theorem tG_of {t : TG} {v : V} {Q : L2.St → Hp → Prop} (h : PG X e t) (q : t v σ H Q) : tG X e v σ H Q := by unfold tG; exact fun pins s u I r => h.run pins s σ H v u Q I r q
theorem tE_mono {Q Q' : VK} (h : tE X e σ H Q) (q : ∀ v H', Q v H' → Q' v H') : tE X e σ H Q' := by
  unfold tE at h ⊢
  exact fun pins s I => thn (h pins s I) fun _ _ ⟨v, H', I', r, z⟩ => ⟨v, H', I', r, q v H' z⟩
theorem tT_mono {Q Q' : Bool → Hp → Prop} (h : tT X e σ H Q) (q : ∀ v H', Q v H' → Q' v H') : tT X e σ H Q' := by
  unfold tT at h ⊢
  exact fun pins s I => thn (h pins s I) fun _ _ ⟨H', I', z⟩ => ⟨H', I', q _ H' z⟩
theorem tW_mono {Q Q' : Bool → Hp → Prop} (h : tW X e σ H Q) (q : ∀ v H', Q v H' → Q' v H') : tW X e σ H Q' := by
  unfold tW at h ⊢
  exact fun wh pins s I => thn (h wh pins s I) fun _ _ ⟨H', I', z⟩ => ⟨H', I', q _ H' z⟩
theorem tA_mono {Q Q' : List V → Hp → Prop} (h : tA X es σ H Q) (q : ∀ v H', Q v H' → Q' v H') : tA X es σ H Q' := by
  unfold tA at h ⊢
  exact fun pos pins s I => thn (h pos pins s I) fun _ _ ⟨v, H', I', r, z⟩ => ⟨v, H', I', r, q v H' z⟩
theorem tG_mono {v : V} {Q Q' : L2.St → Hp → Prop} (h : tG X e v σ H Q) (q : ∀ σ' H', Q σ' H' → Q' σ' H') : tG X e v σ H Q' := by
  unfold tG at h ⊢
  exact fun pins s u I r => thn (h pins s u I r) fun _ _ ⟨σ', H', I', z⟩ => ⟨σ', H', I', q σ' H' z⟩
structure Ends.Le (D D' : Ends) : Prop where
  nx : ∀ σ H, D.nx σ H → D'.nx σ H
  rt : ∀ v H, D.rt v H → D'.rt v H
  bk : ∀ σ H, D.bk σ H → D'.bk σ H
  ct : ∀ σ H, D.ct σ H → D'.ct σ H
theorem SP_mono {pins : List (Addr × Obj)} {D D' : Ends} (l : Ends.Le D D') {f : Flow} {s : Shared} (h : SP X pins D f s) : SP X pins D' f s := by
  cases f with
  | next => obtain ⟨σ', H', I, q⟩ := h; exact ⟨σ', H', I, l.nx _ _ q⟩
  | brk => obtain ⟨σ', H', I, q⟩ := h; exact ⟨σ', H', I, l.bk _ _ q⟩
  | cont => obtain ⟨σ', H', I, q⟩ := h; exact ⟨σ', H', I, l.ct _ _ q⟩
  | ret u => obtain ⟨v, σ', H', I, r, q⟩ := h; exact ⟨v, σ', H', I, r, l.rt _ _ q⟩
theorem tS_mono {D D' : Ends} (l : Ends.Le D D') (h : tS X st D σ H) : tS X st D' σ H := by
  unfold tS at h ⊢
  exact fun pins s I => thn (h pins s I) fun _ _ z => SP_mono l z
theorem tSs_mono {D D' : Ends} (l : Ends.Le D D') (h : tSs X sts D σ H) : tSs X sts D' σ H := by
  unfold tSs at h ⊢
  exact fun pins s I => thn (h pins s I) fun _ _ z => SP_mono l z
end
/-- where one stands, and the floor -/
structure Ax where
  c : Cx
  a0 : List Addr
  F0 : Hp
abbrev Ax.K (X : Ax) : PySem.W.Frag := X.c.K
abbrev Ax.mg (X : Ax) : Str → Option Value := X.c.mg
abbrev Ax.k (X : Ax) : KF := ⟨X.c.K, X.c.mg, X.a0, X.F0⟩
abbrev Ax.A (X : Ax) : Around := X.c.A
abbrev Ax.N (X : Ax) : List Str := X.c.N
abbrev Ax.env (X : Ax) : Env := X.c.env
abbrev Ax.fn (X : Ax) : Str → Bool := X.c.fn
abbrev Ax.calm (X : Ax) : Bool := X.c.calm
abbrev Ax.prog (X : Ax) : Program := X.c.prog
abbrev Ax.w (X : Ax) : World := X.c.w
abbrev Ax.base (X : Ax) : Heap := X.c.base
/-- e, in the slots ρ and the owned objects O, comes to a value and owned objects of which Φ holds -/
def AE (X : Ax) (e : Expr) (ρ : Env1) (O : Own) (Φ : PV → Own → Prop) : Prop := ∀ as F σ H, Wd X.k O as F H → RS X.k F as ρ σ → tE X.c e σ H (PQ X.k as F Φ)
def AT (X : Ax) (e : Expr) (ρ : Env1) (O : Own) (Φ : Bool → Own → Prop) : Prop := ∀ as F σ H, Wd X.k O as F H → RS X.k F as ρ σ → tT X.c e σ H (PQb X.k as F Φ)
def AW (X : Ax) (e : Expr) (ρ : Env1) (O : Own) (Φ : Bool → Own → Prop) : Prop := ∀ as F σ H, Wd X.k O as F H → RS X.k F as ρ σ → tW X.c e σ H (PQb X.k as F Φ)
def AA (X : Ax) (es : List Expr) (ρ : Env1) (O : Own) (Φ : List PV → Own → Prop) : Prop := ∀ as F σ H, Wd X.k O as F H → RS X.k F as ρ σ → tA X.c es σ H (PQs X.k as F Φ)
structure AEnds where
  nx : Env1 → Own → Prop
  rt : PV → Own → Prop
  bk : Env1 → Own → Prop := fun _ _ => False
  ct : Env1 → Own → Prop := fun _ _ => False
def SQ (K : KF) (as : List Addr) (F : Hp) (Φ : Env1 → Own → Prop) : St → Hp → Prop := fun σ H' => ∃ ρ O' as' F', Wd K O' as' F' H' ∧ Gr as as' ∧ Same F F' ∧ RS K F' as' ρ σ ∧ Φ ρ O'
theorem SQ.back {K : KF} {as as1 : List Addr} {F F1 : Hp} {Φ : Env1 → Own → Prop} {v : St} {H : Hp} (g : Gr as as1) (e : Same F F1) (h : SQ K as1 F1 Φ v H) : SQ K as F Φ v H :=
  let ⟨pv, O', as', F', w, g', e', r, q⟩ := h
  ⟨pv, O', as', F', w, g.trans g', e.trans e', r, q⟩
def AEnds.ends (D : AEnds) (K : KF) (as : List Addr) (F : Hp) : Ends := { nx := SQ K as F D.nx, rt := PQ K as F D.rt, bk := SQ K as F D.bk, ct := SQ K as F D.ct }
theorem AEnds.back {D : AEnds} {K : KF} {as as1 : List Addr} {F F1 : Hp} (g : Gr as as1) (e : Same F F1) : Ends.Le (D.ends K as1 F1) (D.ends K as F) := ⟨fun _ _ h => h.back g e, fun _ _ h => h.back g e, fun _ _ h => h.back g e, fun _ _ h => h.back g e⟩
def AS (X : Ax) (st : Stmt) (ρ : Env1) (O : Own) (D : AEnds) : Prop := ∀ as F σ H, Wd X.k O as F H → RS X.k F as ρ σ → tS X.c st (D.ends X.k as F) σ H
def ASs (X : Ax) (sts : List Stmt) (ρ : Env1) (O : Own) (D : AEnds) : Prop := ∀ as F σ H, Wd X.k O as F H → RS X.k F as ρ σ → tSs X.c sts (D.ends X.k as F) σ H
def AG (X : Ax) (tg : Expr) (x : PV) (ρ : Env1) (O : Own) (Φ : Env1 → Own → Prop) : Prop := ∀ as F σ H v, Wd X.k O as F H → RS X.k F as ρ σ → RPV X.k F as x v → tG X.c tg v σ H (SQ X.k as F Φ)
end Al
namespace Al
open PySem PySem.Spec L2
open PyProof.Rows hiding St
section
variable {X : Ax} {e a b c : Expr} {es : List Expr} {ρ : Env1} {O : Own} {Φ : PV → Own → Prop} {as : List Addr} {F H : Hp} {σ : L2.St} {pos p p2 : Pos}
theorem AE.run (h : AE X e ρ O Φ) (w : Wd X.k O as F H) (r : RS X.k F as ρ σ) {Q : VK}
    (k : ∀ pv O1 as1 F1 v H1, Wd X.k O1 as1 F1 H1 → Gr as as1 → Same F F1 → RPV X.k F1 as1 pv v → RS X.k F1 as1 ρ σ → Φ pv O1 → Q v H1) : tE X.c e σ H Q :=
  tE_mono (h as F σ H w r) fun v H' ⟨pv, O1, as1, F1, w1, g, e1, rp, q⟩ => k pv O1 as1 F1 v H' w1 g e1 rp (r.mono e1 g) q
theorem AT.run {Φ : Bool → Own → Prop} (h : AT X e ρ O Φ) (w : Wd X.k O as F H) (r : RS X.k F as ρ σ) {Q : Bool → Hp → Prop}
    (k : ∀ b O1 as1 F1 H1, Wd X.k O1 as1 F1 H1 → Gr as as1 → Same F F1 → RS X.k F1 as1 ρ σ → Φ b O1 → Q b H1) : tT X.c e σ H Q :=
  tT_mono (h as F σ H w r) fun v H' ⟨O1, as1, F1, w1, g, e1, q⟩ => k v O1 as1 F1 H' w1 g e1 (r.mono e1 g) q
theorem AW.run {Φ : Bool → Own → Prop} (h : AW X e ρ O Φ) (w : Wd X.k O as F H) (r : RS X.k F as ρ σ) {Q : Bool → Hp → Prop}
    (k : ∀ b O1 as1 F1 H1, Wd X.k O1 as1 F1 H1 → Gr as as1 → Same F F1 → RS X.k F1 as1 ρ σ → Φ b O1 → Q b H1) : tW X.c e σ H Q :=
  tW_mono (h as F σ H w r) fun v H' ⟨O1, as1, F1, w1, g, e1, q⟩ => k v O1 as1 F1 H' w1 g e1 (r.mono e1 g) q
theorem AA.run {Φ : List PV → Own → Prop} (h : AA X es ρ O Φ) (w : Wd X.k O as F H) (r : RS X.k F as ρ σ) {Q : List V → Hp → Prop}
    (k : ∀ pv O1 as1 F1 v H1, Wd X.k O1 as1 F1 H1 → Gr as as1 → Same F F1 → RPs X.k F1 as1 pv v → RS X.k F1 as1 ρ σ → Φ pv O1 → Q v H1) : tA X.c es σ H Q :=
  tA_mono (h as F σ H w r) fun v H' ⟨pv, O1, as1, F1, w1, g, e1, rp, q⟩ => k pv O1 as1 F1 v H' w1 g e1 rp (r.mono e1 g) q
theorem AE.mono {Φ' : PV → Own → Prop} (h : AE X e ρ O Φ) (k : ∀ pv O, Φ pv O → Φ' pv O) : AE X e ρ O Φ' := fun as F σ H w r =>
  tE_mono (h as F σ H w r) fun v H' ⟨pv, O1, as1, F1, w1, g, e1, rp, q⟩ => ⟨pv, O1, as1, F1, w1, g, e1, rp, k _ _ q⟩
/-! ### names, constants -/
theorem ae_var (i : Nat) {x : Str} {pv : PV} (h : ρ[i]? = some (some pv)) (k : Φ pv O) (hN : X.N[i]? = some x := by rfl) (hv : Vis X.env.scope x := by first | exact Or.inl rfl | exact Or.inr (Or.inl rfl) | exact Or.inr (Or.inr rfl)) (hd : (x == ("__debug__" : Str)) = false := by decide)
    (hcd : (x == ("__classdict__" : Str)) = false := by decide) : AE X (.Name x pos) ρ O Φ := fun as F σ H w r => by
  obtain ⟨v, e1, rp⟩ := r.get h
  exact tE_of (pe_var hN hv hd hcd) ⟨v, e1, PQ.mk w rp k⟩
theorem ae_int {i : Int} {j : Nat} (k : Φ (.d (.int i)) O) : AE X (.Constant (.int i) j pos) ρ O Φ := fun as F σ H w r => tE_of pe_int (PQ.mk (pv := .d (.int i)) w (.int i) k)
theorem ae_bl {i : Bool} {j : Nat} (k : Φ (.d (.bool i)) O) : AE X (.Constant (.bool i) j pos) ρ O Φ := fun as F σ H w r => tE_of pe_bl (PQ.mk (pv := .d (.bool i)) w (.bl i) k)
theorem ae_non {j : Nat} (k : Φ (.d .none) O) : AE X (.Constant .none j pos) ρ O Φ := fun as F σ H w r => tE_of pe_non (PQ.mk (pv := .d .none) w .non k)
theorem ae_str {i : Str} {j : Nat} (k : Φ (.d (.str i)) O) : AE X (.Constant (.str i) j pos) ρ O Φ := fun as F σ H w r => tE_of pe_str (PQ.mk (pv := .d (.str i)) w (.str i) k)
/-- a global of plain value: rel says what it is worth -/
theorem ae_glob {x : Str} {u : Value} {v : V} {pv : PV} (hg : Gl X.c x) (hm : X.mg x = some u) (r : RelV v u) (rp : ∀ F as, RPV X.k F as pv v) (k : Φ pv O) (hd : (x == ("__debug__" : Str)) = false := by decide) : AE X (.Name x pos) ρ O Φ := fun as F σ H w _ =>
  tE_of (pe_glob hg hm r hd) (PQ.mk w (rp _ _) k)
theorem ae_bltn {x : Str} {u : Value} {v : V} (hg : Gl X.c x) (hm : X.mg x = none) (hv : bootBuiltins x = some u) (r : RelV v u) (k : Φ (.v v) O) (hn : x ≠ "__name__" := by decide) (hd : (x == ("__debug__" : Str)) = false := by decide) : AE X (.Name x pos) ρ O Φ := fun as F σ H w _ =>
  tE_of (pe_bltn hg hm hv r hn hd) (PQ.mk (pv := .v v) w rfl k)
/-! ### operators by values -/
@[irreducible] def rB (X : Cx) (f : Value → Value → Sem Value) : R2 := fun vx vy H Q => ∀ pins s σ v u, Inv X pins σ H s → RelV vx v → RelV vy u → wpAny (model X.prog X.w) X.A (f v u) (EP X pins σ Q) X.xe s
theorem op_rB {f : Value → Value → Sem Value} : OpR X.c f (rB X.c f) := fun pins s σ _ _ _ v u _ I rx ry h => by unfold rB at h; exact h pins s σ v u I rx ry
theorem rB_of {f : Value → Value → Sem Value} {r : R2} {vx vy : V} {Q : VK} (h : OpR X.c f r) (k : r vx vy H Q) : rB X.c f vx vy H Q := by unfold rB; exact fun pins s σ v u I r1 r2 => h pins s σ H vx vy v u _ I r1 r2 k
theorem rB_mono {f : Value → Value → Sem Value} {vx vy : V} {Q Q' : VK} (h : rB X.c f vx vy H Q) (k : ∀ v H', Q v H' → Q' v H') : rB X.c f vx vy H Q' := by
  unfold rB at h ⊢
  exact fun pins s σ v u I r1 r2 => thn (h pins s σ v u I r1 r2) fun _ _ ⟨v3, H3, I3, r3, z⟩ => ⟨v3, H3, I3, r3, k _ _ z⟩
def BinA (X : Ax) (f : Value → Value → Sem Value) (x y : PV) (O : Own) (Φ : PV → Own → Prop) : Prop := ∀ as F H vx vy, Wd X.k O as F H → RPV X.k F as x vx → RPV X.k F as y vy → rB X.c f vx vy H (PQ X.k as F Φ)
theorem bina_of {f : Value → Value → Sem Value} {r : R2} {x y : PV} (h : OpR X.c f r) (k : ∀ as F H vx vy, Wd X.k O as F H → RPV X.k F as x vx → RPV X.k F as y vy → r vx vy H (PQ X.k as F Φ)) : BinA X f x y O Φ :=
  fun as F H vx vy w rx ry => rB_of h (k as F H vx vy w rx ry)
theorem ae_bin {op : Operator} (h : AE X a ρ O fun x O1 => AE X b ρ O1 fun y O2 => BinA X (binaryOp op) x y O2 Φ) : AE X (.BinOp a op b pos) ρ O Φ := fun as F σ H w r => by
  refine tE_of (pe_op op_rB pe_tE pe_tE) ?_
  refine h.run w r fun x O1 as1 F1 v1 H1 w1 g1 s1 rx r1 h1 => ?_
  refine h1.run w1 r1 fun y O2 as2 F2 v2 H2 w2 g2 s2 ry r2 h2 => ?_
  exact rB_mono (h2 as2 F2 H2 v1 v2 w2 (rx.mono s2 g2) ry) fun _ _ z => z.back (g1.trans g2) (s1.trans s2)
theorem ae_cmp {op : CmpOp} (h : AE X a ρ O fun x O1 => AE X b ρ O1 fun y O2 => BinA X (compareOp op) x y O2 Φ) (hm : behindInMarks op b = false := by first | exact nobehind _ (by decide) (by decide) | rfl) : AE X (.Compare a [op] [b] pos) ρ O Φ := fun as F σ H w r => by
  refine tE_of (pe_cmpR op_rB pe_tE pe_tE hm) ?_
  refine h.run w r fun x O1 as1 F1 v1 H1 w1 g1 s1 rx r1 h1 => ?_
  refine h1.run w1 r1 fun y O2 as2 F2 v2 H2 w2 g2 s2 ry r2 h2 => ?_
  exact rB_mono (h2 as2 F2 H2 v1 v2 w2 (rx.mono s2 g2) ry) fun _ _ z => z.back (g1.trans g2) (s1.trans s2)
/-- an answer that is a bool -/
def IsB (Φ : Bool → Own → Prop) : PV → Own → Prop := fun x O => ∃ k, x = .d (.bool k) ∧ Φ k O
theorem chain_reads {op op' : CmpOp} {Q : VK} (h : AE X a ρ O fun x O1 => AE X b ρ O1 fun y O2 => BinA X (compareOp op) x y O2 (IsB fun k O3 => if k = true then AE X c ρ O3 fun z O4 => BinA X (compareOp op') y z O4 Φ else Φ (.d (.bool false)) O3))
    (w : Wd X.k O as F H) (r : RS X.k F as ρ σ) (hQ : ∀ v H', PQ X.k as F Φ v H' → Q v H') : tChain (rB X.c (compareOp op)) (rB X.c (compareOp op')) (tE X.c a) (tE X.c b) (tE X.c c) σ H Q := by
  refine h.run w r fun x O1 as1 F1 v1 H1 w1 g1 s1 rx r1 h1 => ?_
  refine h1.run w1 r1 fun y O2 as2 F2 v2 H2 w2 g2 s2 ry r2 h2 => ?_
  refine rB_mono (h2 as2 F2 H2 v1 v2 w2 (rx.mono s2 g2) ry) fun v3 H3 ⟨pv, O3, as3, F3, w3, g3, s3, rp, k, e1, z⟩ => ?_
  subst e1
  cases (show Dq F3 v3 (.bool k) from rp)
  refine ⟨k, rfl, ?_⟩
  have r3' := r2.mono s3 g3
  cases k with
  | false =>
    simp only [Bool.false_eq_true, if_false] at z ⊢
    exact hQ _ _ ⟨.d (.bool false), O3, as3, F3, w3, (g1.trans g2).trans g3, (s1.trans s2).trans s3, .bl false, z⟩
  | true =>
    simp only [if_true] at z ⊢
    refine z.run w3 r3' fun t O4 as4 F4 v4 H4 w4 g4 s4 rt r4 h4 => ?_
    exact rB_mono (h4 as4 F4 H4 v2 v4 w4 (ry.mono (s3.trans s4) (g3.trans g4)) rt) fun _ _ z => hQ _ _ (z.back (((g1.trans g2).trans g3).trans g4) (((s1.trans s2).trans s3).trans s4))
theorem ae_chain {op op' : CmpOp} (h : AE X a ρ O fun x O1 => AE X b ρ O1 fun y O2 => BinA X (compareOp op) x y O2 (IsB fun k O3 => if k = true then AE X c ρ O3 fun z O4 => BinA X (compareOp op') y z O4 Φ else Φ (.d (.bool false)) O3))
    (hm : lastMarks [op, op'] [b, c] = false := by with_unfolding_all rfl) : AE X (.Compare a [op, op'] [b, c] pos) ρ O Φ := fun as F σ H w r =>
  tE_of (pe_chain op_rB op_rB pe_tE pe_tE pe_tE hm) (chain_reads h w r fun _ _ z => z)
theorem at_chain {op op' : CmpOp} {Ψ : Bool → Own → Prop} (h : AE X a ρ O fun x O1 => AE X b ρ O1 fun y O2 => BinA X (compareOp op) x y O2 (IsB fun k O3 => if k = true then AE X c ρ O3 fun z O4 => BinA X (compareOp op') y z O4 (IsB Ψ) else Ψ false O3))
    (hm : lastMarks [op, op'] [b, c] = false := by with_unfolding_all rfl) : AT X (.Compare a [op, op'] [b, c] pos) ρ O Ψ := fun as F σ H w r => by
  refine tT_of (pt_chain op_rB op_rB pe_tE pe_tE pe_tE hm) (chain_reads (Φ := IsB Ψ) (h.mono fun x O1 h1 => h1.mono fun y O2 h2 => ?_) w r fun v H' z => ?_)
  · intro as F H vx vy w rx ry
    refine rB_mono (h2 as F H vx vy w rx ry) fun v3 H3 ⟨pv, O3, as3, F3, w3, g3, s3, rp, k, e1, z⟩ => ⟨pv, O3, as3, F3, w3, g3, s3, rp, k, e1, ?_⟩
    cases k with
    | true => exact z
    | false => exact ⟨false, rfl, z⟩
  · obtain ⟨pv, O', as', F', w', g', s', rp, k, e, q⟩ := z
    subst e
    cases (show Dq F' v (.bool k) from rp)
    exact ⟨k, rfl, O', as', F', w', g', s', q⟩
@[irreducible] def rU1 (X : Cx) (f : Value → Sem Value) : V → Hp → VK → Prop := fun vx H Q => ∀ pins s σ v, Inv X pins σ H s → RelV vx v → wpAny (model X.prog X.w) X.A (f v) (EP X pins σ Q) X.xe s
def UnA (X : Ax) (f : Value → Sem Value) (x : PV) (O : Own) (Φ : PV → Own → Prop) : Prop := ∀ as F H vx, Wd X.k O as F H → RPV X.k F as x vx → rU1 X.c f vx H (PQ X.k as F Φ)
theorem ae_un {op : UnaryOp} (h : AE X a ρ O fun x O1 => UnA X (unaryOp op) x O1 Φ) : AE X (.UnaryOp op a pos) ρ O Φ := fun as F σ H w r => by
  refine tE_of (pe_un (r := rU1 X.c (unaryOp op)) (fun pins s σ _ _ v _ I rx h => by unfold rU1 at h; exact h pins s σ v I rx) pe_tE) ?_
  refine h.run w r fun x O1 as1 F1 v1 H1 w1 g1 s1 rx r1 h1 => ?_
  have z1 := h1 as1 F1 H1 v1 w1 rx
  unfold rU1 at z1 ⊢
  exact fun pins s σ' v I q1 => thn (z1 pins s σ' v I q1) fun _ _ ⟨v3, H3, I3, r3, z⟩ => ⟨v3, H3, I3, r3, z.back g1 s1⟩
/-! ### and, or, not, if, as values -/
theorem ae_one {op : BoolOp} (h : AE X a ρ O Φ) : AE X (.BoolOp op [a] pos) ρ O Φ := fun as F σ H w r => tE_of (pe_one pe_tE) (h as F σ H w r)
theorem ae_and {rest : List Expr} (h : AE X a ρ O (IsB fun k O1 => if k = true then AE X (.BoolOp .And (b :: rest) pos) ρ O1 Φ else Φ (.d (.bool false)) O1)) : AE X (.BoolOp .And (a :: b :: rest) pos) ρ O Φ := fun as F σ H w r => by
  refine tE_of (pe_and pe_tE pe_tE) ?_
  refine h.run w r fun x O1 as1 F1 v1 H1 w1 g1 s1 rx r1 ⟨k, e1, z⟩ => ?_
  subst e1
  cases (show Dq F1 v1 (.bool k) from rx)
  refine ⟨k, rfl, ?_⟩
  cases k with
  | false =>
    simp only [Bool.false_eq_true, if_false] at z ⊢
    exact ⟨.d (.bool false), O1, as1, F1, w1, g1, s1, .bl false, z⟩
  | true =>
    simp only [if_true] at z ⊢
    exact tE_mono (z as1 F1 σ H1 w1 r1) fun _ _ q => q.back g1 s1
theorem ae_or {rest : List Expr} (h : AE X a ρ O (IsB fun k O1 => if k = true then Φ (.d (.bool true)) O1 else AE X (.BoolOp .Or (b :: rest) pos) ρ O1 Φ)) : AE X (.BoolOp .Or (a :: b :: rest) pos) ρ O Φ := fun as F σ H w r => by
  refine tE_of (pe_or pe_tE pe_tE) ?_
  refine h.run w r fun x O1 as1 F1 v1 H1 w1 g1 s1 rx r1 ⟨k, e1, z⟩ => ?_
  subst e1
  cases (show Dq F1 v1 (.bool k) from rx)
  refine ⟨k, rfl, ?_⟩
  cases k with
  | true =>
    simp only [if_true] at z ⊢
    exact ⟨.d (.bool true), O1, as1, F1, w1, g1, s1, .bl true, z⟩
  | false =>
    simp only [Bool.false_eq_true, if_false] at z ⊢
    exact tE_mono (z as1 F1 σ H1 w1 r1) fun _ _ q => q.back g1 s1
theorem ae_not (h : AE X a ρ O (IsB fun k O1 => Φ (.d (.bool (!k))) O1)) : AE X (.UnaryOp .Not a pos) ρ O Φ := fun as F σ H w r => by
  refine tE_of (pe_not pe_tE) ?_
  refine h.run w r fun x O1 as1 F1 v1 H1 w1 g1 s1 rx r1 ⟨k, e1, z⟩ => ?_
  subst e1
  cases (show Dq F1 v1 (.bool k) from rx)
  exact ⟨k, rfl, .d (.bool (!k)), O1, as1, F1, w1, g1, s1, .bl (!k), z⟩
theorem ae_if (h : AT X c ρ O fun k O1 => if k = true then AE X a ρ O1 Φ else AE X b ρ O1 Φ) : AE X (.IfExp c a b pos) ρ O Φ := fun as F σ H w r => by
  refine tE_of (pe_ifExp pt_tT pe_tE pe_tE) ?_
  refine h.run w r fun k O1 as1 F1 H1 w1 g1 s1 r1 z => ?_
  cases k with
  | true =>
    simp only [if_true] at z ⊢
    exact tE_mono (z as1 F1 σ H1 w1 r1) fun _ _ q => q.back g1 s1
  | false =>
    simp only [Bool.false_eq_true, if_false] at z ⊢
    exact tE_mono (z as1 F1 σ H1 w1 r1) fun _ _ q => q.back g1 s1
/-! ### tests -/
variable {Ψ : Bool → Own → Prop}
theorem at_val (h : AE X e ρ O (IsB Ψ)) (he : ∀ whole, isTrue e X.env whole = (do let v ← whole; standAt e.pos; holding [v] (truthy v)) := by intro _; rfl) : AT X e ρ O Ψ := fun as F σ H w r => by
  refine tT_of (pt_val pe_tE he) ?_
  refine h.run w r fun x O1 as1 F1 v1 H1 w1 g1 s1 rx r1 ⟨k, e1, z⟩ => ?_
  subst e1
  cases (show Dq F1 v1 (.bool k) from rx)
  exact ⟨k, rfl, O1, as1, F1, w1, g1, s1, z⟩
theorem at_cmp {op : CmpOp} (h : AE X a ρ O fun x O1 => AE X b ρ O1 fun y O2 => BinA X (compareOp op) x y O2 (IsB Ψ)) (hm : behindInMarks op b = false := by first | exact nobehind _ (by decide) (by decide) | rfl) : AT X (.Compare a [op] [b] pos) ρ O Ψ := fun as F σ H w r => by
  refine tT_of (pt_cmpR op_rB pe_tE pe_tE hm) ?_
  refine h.run w r fun x O1 as1 F1 v1 H1 w1 g1 s1 rx r1 h1 => ?_
  refine h1.run w1 r1 fun y O2 as2 F2 v2 H2 w2 g2 s2 ry r2 h2 => ?_
  refine rB_mono (h2 as2 F2 H2 v1 v2 w2 (rx.mono s2 g2) ry) fun v3 H3 ⟨pv, O3, as3, F3, w3, g3, s3, rp, k, e1, z⟩ => ?_
  subst e1
  cases (show Dq F3 v3 (.bool k) from rp)
  exact ⟨k, rfl, O3, as3, F3, w3, (g1.trans g2).trans g3, (s1.trans s2).trans s3, z⟩
theorem at_w (h : AW X e ρ O Ψ) : AT X e ρ O Ψ := fun as F σ H w r => tT_of (pw_tW.pt) (h as F σ H w r)
theorem aw_and1 (h : AT X a ρ O Ψ) : AW X (.BoolOp .And [a] pos) ρ O Ψ := fun as F σ H w r => tW_of (pw_and1 pt_tT) (h as F σ H w r)
theorem aw_or1 (h : AT X a ρ O Ψ) : AW X (.BoolOp .Or [a] pos) ρ O Ψ := fun as F σ H w r => tW_of (pw_or1 pt_tT) (h as F σ H w r)
theorem aw_and {rest : List Expr} (h : AT X a ρ O fun k O1 => if k = true then AW X (.BoolOp .And (b :: rest) pos) ρ O1 Ψ else Ψ false O1) : AW X (.BoolOp .And (a :: b :: rest) pos) ρ O Ψ := fun as F σ H w r => by
  refine tW_of (pw_and pt_tT pw_tW) ?_
  refine h.run w r fun k O1 as1 F1 H1 w1 g1 s1 r1 z => ?_
  cases k with
  | true =>
    simp only [if_true] at z ⊢
    exact tW_mono (z as1 F1 σ H1 w1 r1) fun _ _ q => q.back g1 s1
  | false =>
    simp only [Bool.false_eq_true, if_false] at z ⊢
    exact ⟨O1, as1, F1, w1, g1, s1, z⟩
theorem aw_or {rest : List Expr} (h : AT X a ρ O fun k O1 => if k = true then Ψ true O1 else AW X (.BoolOp .Or (b :: rest) pos) ρ O1 Ψ) : AW X (.BoolOp .Or (a :: b :: rest) pos) ρ O Ψ := fun as F σ H w r => by
  refine tW_of (pw_or pt_tT pw_tW) ?_
  refine h.run w r fun k O1 as1 F1 H1 w1 g1 s1 r1 z => ?_
  cases k with
  | false =>
    simp only [Bool.false_eq_true, if_false] at z ⊢
    exact tW_mono (z as1 F1 σ H1 w1 r1) fun _ _ q => q.back g1 s1
  | true =>
    simp only [if_true] at z ⊢
    exact ⟨O1, as1, F1, w1, g1, s1, z⟩
theorem at_not (h : AT X a ρ O fun k O1 => Ψ (!k) O1) : AT X (.UnaryOp .Not a pos) ρ O Ψ := fun as F σ H w r => tT_of (pt_not pt_tT) (h as F σ H w r)
/-! ### arguments, displays -/
theorem aa_nil {Φ : List PV → Own → Prop} (k : Φ [] O) : AA X [] ρ O Φ := fun as F σ H w r => tA_of pa_nil ⟨[], O, as, F, w, Gr.refl _, Same.refl _, .nil, k⟩
theorem aa_cons {Φ : List PV → Own → Prop} (h : AE X e ρ O fun x O1 => AA X es ρ O1 fun xs O2 => Φ (x :: xs) O2) (hs : starEach (e :: es) X.env = (false, eval e X.env) :: starEach es X.env := by rfl) : AA X (e :: es) ρ O Φ := fun as F σ H w r => by
  refine tA_of (pa_cons pe_tE pa_tA hs) ?_
  refine h.run w r fun x O1 as1 F1 v1 H1 w1 g1 s1 rx r1 h1 => ?_
  refine h1.run w1 r1 fun xs O2 as2 F2 v2 H2 w2 g2 s2 ry r2 h2 => ?_
  exact ⟨x :: xs, O2, as2, F2, w2, g1.trans g2, s1.trans s2, .cons (rx.mono s2 g2) ry, h2⟩
theorem RPs.len {K : KF} {F : Hp} {as : List Addr} {xs : List PV} {vs : List V} (h : RPs K F as xs vs) : xs.length = vs.length := Paired.length h
/-- a display of data: frozen at once -/
theorem ae_tupD {x1 : Nat} (h : AA X es ρ O fun xs O1 => ∃ ds, xs = ds.map PV.d ∧ ds.length ≤ 16000000 ∧ Φ (.d (.tuple ds)) O1) : AE X (.Tuple es x1 pos) ρ O Φ := fun as F σ H w r => by
  refine tE_of (pe_tup pa_tA) ?_
  refine h.run w r fun xs O1 as1 F1 vs H1 w1 g1 s1 rx r1 ⟨ds, e1, hl, q⟩ => ?_
  subst e1
  have l := rx.len
  rw [List.length_map] at l
  refine ⟨by rw [← l, sizeLine_eq]; omega, fun p hp => ?_⟩
  obtain ⟨w2, s2⟩ := w1.data (h := .tup vs) hp
  exact ⟨.d (.tuple ds), O1, as1, _, w2, g1, s1.trans s2, .tup upd_same (DqAll_same s2 (rps_data rx)), q⟩
theorem ae_lstD (h : AA X es ρ O fun xs O1 => ∃ ds, xs = ds.map PV.d ∧ ds.length ≤ 16000000 ∧ Φ (.d (.list ds)) O1) : AE X (.List es pos) ρ O Φ := fun as F σ H w r => by
  refine tE_of (pe_lst pa_tA) ?_
  refine h.run w r fun xs O1 as1 F1 vs H1 w1 g1 s1 rx r1 ⟨ds, e1, hl, q⟩ => ?_
  subst e1
  have l := rx.len
  rw [List.length_map] at l
  refine ⟨by rw [← l, sizeLine_eq]; omega, fun p hp => ?_⟩
  obtain ⟨w2, s2⟩ := w1.data (h := .lst vs) hp
  exact ⟨.d (.list ds), O1, as1, _, w2, g1, s1.trans s2, .lst upd_same (DqAll_same s2 (rps_data rx)), q⟩
theorem Wd.at_new {K : KF} (w : Wd K O as F H) (p : Addr) : (as ++ [p])[O.length]? = some p := by
  rw [List.getElem?_append_right (by rw [w.len]; exact Nat.le_refl _), w.len]
  simp
/-- a display, owned -/
theorem ae_lstO (h : AA X es ρ O fun xs O1 => xs.length ≤ 16000000 ∧ Φ (.o O1.length) (O1 ++ [.lst xs])) : AE X (.List es pos) ρ O Φ := fun as F σ H w r => by
  refine tE_of (pe_lst pa_tA) ?_
  refine h.run w r fun xs O1 as1 F1 vs H1 w1 g1 s1 rx r1 ⟨hl, q⟩ => ?_
  have l := rx.len
  refine ⟨by rw [← l, sizeLine_eq]; omega, fun p hp => ?_⟩
  have w2 := w1.new (ob := .lst xs) (h := .lst vs) hp ⟨vs, rfl, rx⟩ (fun z => nomatch z)
  exact ⟨.o O1.length, _, _, F1, w2, g1.trans (Gr.app _ _), s1, ⟨p, w1.at_new p, rfl⟩, q⟩
theorem ae_tupO {x1 : Nat} (h : AA X es ρ O fun xs O1 => xs.length ≤ 16000000 ∧ Φ (.o O1.length) (O1 ++ [.tup xs])) : AE X (.Tuple es x1 pos) ρ O Φ := fun as F σ H w r => by
  refine tE_of (pe_tup pa_tA) ?_
  refine h.run w r fun xs O1 as1 F1 vs H1 w1 g1 s1 rx r1 ⟨hl, q⟩ => ?_
  have l := rx.len
  refine ⟨by rw [← l, sizeLine_eq]; omega, fun p hp => ?_⟩
  have w2 := w1.new (ob := .tup xs) (h := .tup vs) hp ⟨vs, rfl, rx⟩ (fun z => nomatch z)
  exact ⟨.o O1.length, _, _, F1, w2, g1.trans (Gr.app _ _), s1, ⟨p, w1.at_new p, rfl⟩, q⟩
/-! ### subscripts, slices -/
@[irreducible] def rIxX (X : Cx) : R2 := fun vx vy H Q => ∀ value slice pins s σ v u, Inv X pins σ H s → RelV vx v → RelV vy u → subscripted slice false v u = operate [v, u] (getItem v u) → wpAny (model X.prog X.w) X.A (subscriptTail value slice v u) (EP X pins σ Q) X.xe s
theorem ix_rIxX : IxR X.c (rIxX X.c) := fun value slice pins s σ _ _ _ v u _ I rx ry h hs => by unfold rIxX at h; exact h value slice pins s σ v u I rx ry hs
def IxA (X : Ax) (x y : PV) (O : Own) (Φ : PV → Own → Prop) : Prop := ∀ as F H vx vy, Wd X.k O as F H → RPV X.k F as x vx → RPV X.k F as y vy → rIxX X.c vx vy H (PQ X.k as F Φ)
theorem ixa_of {r : R2} {x y : PV} (h : IxR X.c r) (k : ∀ as F H vx vy, Wd X.k O as F H → RPV X.k F as x vx → RPV X.k F as y vy → r vx vy H (PQ X.k as F Φ)) : IxA X x y O Φ :=
  fun as F H vx vy w rx ry => by unfold rIxX; exact fun value slice pins s σ v u I r1 r2 hs => h value slice pins s σ H vx vy v u _ I r1 r2 (k as F H vx vy w rx ry) hs
theorem ae_ix (h : AE X a ρ O fun x O1 => AE X b ρ O1 fun y O2 => IxA X x y O2 Φ) (hs : PlainIx b := by exact fun _ _ => rfl) : AE X (.Subscript a b pos) ρ O Φ := fun as F σ H w r => by
  refine tE_of (pe_ix ix_rIxX pe_tE pe_tE hs) ?_
  refine h.run w r fun x O1 as1 F1 v1 H1 w1 g1 s1 rx r1 h1 => ?_
  refine h1.run w1 r1 fun y O2 as2 F2 v2 H2 w2 g2 s2 ry r2 h2 => ?_
  have z1 := h2 as2 F2 H2 v1 v2 w2 (rx.mono s2 g2) ry
  unfold rIxX at z1 ⊢
  exact fun value slice pins s σ' v u I q1 q2 hp => thn (z1 value slice pins s σ' v u I q1 q2 hp) fun _ _ ⟨v3, H3, I3, r3, z⟩ => ⟨v3, H3, I3, r3, z.back (g1.trans g2) (s1.trans s2)⟩
def AO1 (X : Ax) (e : Option Expr) (ρ : Env1) (O : Own) (Φ : Option Int → Own → Prop) : Prop := match e with
  | none => Φ none O
  | some e => AE X e ρ O fun x O1 => ∃ i, x = .d (.int i) ∧ Φ (some i) O1
def tOp1 (X : Cx) (e : Option Expr) : TO := match e with
  | none => tNoPart
  | some e => tPart (tE X e)
theorem po_tOp1 {e : Option Expr} : PO X.c e (tOp1 X.c e) := by
  cases e with
  | none => exact po_none
  | some e => exact po_some pe_tE
/-- the slice's rule is fixed by the sliced thing's form; kr: which -/
theorem ae_slice {lo hi : Option Expr} {R : V → Option Int → Option Int → Hp → VK → Prop} (hr : SlR X.c R) (hm : ∀ v i j H Q Q', R v i j H Q → (∀ z H', Q z H' → Q' z H') → R v i j H Q')
    (h : AE X e ρ O fun x O1 => AO1 X lo ρ O1 fun i O2 => AO1 X hi ρ O2 fun j O3 => ∀ as F H vx, Wd X.k O3 as F H → RPV X.k F as x vx → R vx i j H (PQ X.k as F Φ)) : AE X (.Subscript e (.Slice lo hi none p2) pos) ρ O Φ := fun as F σ H w r => by
  refine tE_of (pe_slice hr pe_tE po_tOp1 po_tOp1) ?_
  refine h.run w r fun x O1 as1 F1 v1 H1 w1 g1 s1 rx r1 h1 => ?_
  have two : ∀ (i : Option Int) (O2 : Own) (as2 : List Addr) (F2 H2 : Hp), Wd X.k O2 as2 F2 H2 → Gr as1 as2 → Same F1 F2 → RS X.k F2 as2 ρ σ → (AO1 X hi ρ O2 fun j O3 => ∀ as F H vx, Wd X.k O3 as F H → RPV X.k F as x vx → R vx i j H (PQ X.k as F Φ)) →
      tOp1 X.c hi σ H2 fun j H3 => R v1 i j H3 (PQ X.k as F Φ) := fun i O2 as2 F2 H2 w2 g2 s2 r2 h2 => by
    cases hi with
    | none => exact hm _ _ _ _ _ _ (h2 as2 F2 H2 v1 w2 (rx.mono s2 g2)) fun _ _ z => PQ.back (g1.trans g2) (s1.trans s2) z
    | some hi =>
      refine AE.run h2 w2 r2 fun y O3 as3 F3 v3 H3 w3 g3 s3 ry r3 ⟨j, e3, h3⟩ => ?_
      subst e3
      cases (show Dq F3 v3 (.int j) from ry)
      exact ⟨j, rfl, hm _ _ _ _ _ _ (h3 as3 F3 H3 v1 w3 (rx.mono (s2.trans s3) (g2.trans g3))) fun _ _ z => PQ.back ((g1.trans g2).trans g3) ((s1.trans s2).trans s3) z⟩
  cases lo with
  | none => exact two none O1 as1 F1 H1 w1 (Gr.refl _) (Same.refl _) r1 h1
  | some lo =>
    refine AE.run h1 w1 r1 fun y O2 as2 F2 v2 H2 w2 g2 s2 ry r2 ⟨i, e2, h2⟩ => ?_
    subst e2
    cases (show Dq F2 v2 (.int i) from ry)
    exact ⟨i, rfl, two (some i) O2 as2 F2 H2 w2 g2 s2 r2 h2⟩
/-! ### calls of built-ins -/
@[irreducible] def rCX (X : Cx) (f : Value) : List V → Hp → VK → Prop := fun xs H Q => ∀ pins s σ us, Inv X pins σ H s → Vals xs us → wpAny (model X.prog X.w) X.A (call f us) (EP X pins σ Q) X.xe s
theorem cr_rCX {f : Value} : CallR X.c f (rCX X.c f) := fun pins s σ _ _ us _ I r h => by unfold rCX at h; exact h pins s σ us I r
def CallA (X : Ax) (f : Value) (xs : List PV) (O : Own) (Φ : PV → Own → Prop) : Prop := ∀ as F H vs, Wd X.k O as F H → RPs X.k F as xs vs → rCX X.c f vs H (PQ X.k as F Φ)
theorem calla_of {f : Value} {r : List V → Hp → VK → Prop} {xs : List PV} (h : CallR X.c f r) (k : ∀ as F H vs, Wd X.k O as F H → RPs X.k F as xs vs → r vs H (PQ X.k as F Φ)) : CallA X f xs O Φ :=
  fun as F H vs w rx => by unfold rCX; exact fun pins s σ us I r1 => h pins s σ H vs us _ I r1 (k as F H vs w rx)
theorem ae_callB {x : Str} {id : String} (hg : Gl X.c x) (hm : X.mg x = none) (hv : bootBuiltins x = some (.builtin id)) (h : AA X (e :: es) ρ O fun xs O1 => CallA X (.builtin id) xs O1 Φ) (hn : x ≠ "__name__" := by decide) (hdb : (x == ("__debug__" : Str)) = false := by decide)
    (he : starEach (e :: es) X.env = (false, eval e X.env) :: starEach es X.env := by rfl) (hpl : (backTo pos (starEach es X.env)).any (·.1) = false := by rfl) : AE X (.Call (.Name x p) (e :: es) [] pos) ρ O Φ := fun as F σ H w r => by
  refine tE_of (pe_callB cr_rCX hg hm hv pa_tA hn hdb he hpl) ?_
  refine h.run w r fun xs O1 as1 F1 v1 H1 w1 g1 s1 rx r1 h1 => ?_
  have z1 := h1 as1 F1 H1 v1 w1 rx
  unfold rCX at z1 ⊢
  exact fun pins s σ' us I q1 => thn (z1 pins s σ' us I q1) fun _ _ ⟨v3, H3, I3, r3, z⟩ => ⟨v3, H3, I3, r3, z.back g1 s1⟩
theorem ae_callTy {x : Str} {T : String} (hg : Gl X.c x) (hm : X.mg x = none) (hv : bootBuiltins x = some (.type T)) (h : AA X (e :: es) ρ O fun xs O1 => CallA X (.type T) xs O1 Φ) (hn : x ≠ "__name__" := by decide) (hdb : (x == ("__debug__" : Str)) = false := by decide)
    (he : starEach (e :: es) X.env = (false, eval e X.env) :: starEach es X.env := by rfl) (hpl : (backTo pos (starEach es X.env)).any (·.1) = false := by rfl) : AE X (.Call (.Name x p) (e :: es) [] pos) ρ O Φ := fun as F σ H w r => by
  refine tE_of (pe_callTy cr_rCX hg hm hv pa_tA hn hdb he hpl) ?_
  refine h.run w r fun xs O1 as1 F1 v1 H1 w1 g1 s1 rx r1 h1 => ?_
  have z1 := h1 as1 F1 H1 v1 w1 rx
  unfold rCX at z1 ⊢
  exact fun pins s σ' us I q1 => thn (z1 pins s σ' us I q1) fun _ _ ⟨v3, H3, I3, r3, z⟩ => ⟨v3, H3, I3, r3, z.back g1 s1⟩
/-! ### methods of built-in types -/
@[irreducible] def rMX (X : Cx) (id : String) : V → List V → Hp → VK → Prop := fun x xs H Q => ∀ pins s σ v us, Inv X pins σ H s → RelV x v → Vals xs us → wpAny (model X.prog X.w) X.A (call (.builtin id) (v :: us)) (EP X pins σ Q) X.xe s
theorem mt_rMX {id : String} : MtR X.c id (rMX X.c id) := fun pins s σ _ _ _ v us _ I rx r h => by unfold rMX at h; exact h pins s σ v us I rx r
theorem rMX_mono {id : String} {x : V} {xs : List V} {Q Q' : VK} (h : rMX X.c id x xs H Q) (k : ∀ v H', Q v H' → Q' v H') : rMX X.c id x xs H Q' := by
  unfold rMX at h ⊢
  exact fun pins s σ v us I q1 q2 => thn (h pins s σ v us I q1 q2) fun _ _ ⟨v3, H3, I3, r3, z⟩ => ⟨v3, H3, I3, r3, k _ _ z⟩
def TyA (X : Ax) (T : String) (x : PV) (O : Own) : Prop := ∀ as F H v, Wd X.k O as F H → RPV X.k F as x v → tyV X.K T v H
def MtA (X : Ax) (id : String) (x : PV) (xs : List PV) (O : Own) (Φ : PV → Own → Prop) : Prop := ∀ as F H v vs, Wd X.k O as F H → RPV X.k F as x v → RPs X.k F as xs vs → rMX X.c id v vs H (PQ X.k as F Φ)
theorem mta_of {id : String} {r : V → List V → Hp → VK → Prop} {x : PV} {xs : List PV} (h : MtR X.c id r) (k : ∀ as F H v vs, Wd X.k O as F H → RPV X.k F as x v → RPs X.k F as xs vs → r v vs H (PQ X.k as F Φ)) : MtA X id x xs O Φ :=
  fun as F H v vs w rx rxs => by unfold rMX; exact fun pins s σ u us I r1 r2 => h pins s σ H v vs u us _ I r1 r2 (k as F H v vs w rx rxs)
theorem ae_bm {o : Expr} {T id : String} {name : Str} {apos : Pos} (pa : PlainAttrs T) (slot : Slot T name id) (hty : typeOf (.builtin id) = pure (.type "method_descriptor")) (h : AE X o ρ O fun x O1 => TyA X T x O1 ∧ AA X (e :: es) ρ O1 fun xs O2 => MtA X id x xs O2 Φ)
    (hbase : attributeBase o name X.env (eval o X.env) = eval o X.env := by rfl)
    (hfew : ((backTo pos (starEach (e :: es) X.env)).all (fun x => !x.1) && (backToKw pos (keywordEach [] X.env)).all (fun x => x.1.isSome)
      && decide ((e :: es).length + ([] : List Keyword).length + (if ([] : List Keyword).isEmpty then 0 else 1) < 30)) = true := by rfl)
    (hline : (apos.endLine == pos.line) = true := by rfl) (hs : starEach (e :: es) X.env = (false, eval e X.env) :: starEach es X.env := by rfl) (hplain : (backTo pos (starEach es X.env)).any (·.1) = false := by rfl) : AE X (.Call (.Attribute o name apos) (e :: es) [] pos) ρ O Φ := fun as F σ H w r => by
  refine tE_of (pe_bm pa slot hty mt_rMX pe_tE pa_tA hbase hfew hline hs hplain) ?_
  refine h.run w r fun x O1 as1 F1 v1 H1 w1 g1 s1 rx r1 ⟨ty, h1⟩ => ?_
  refine ⟨ty as1 F1 H1 v1 w1 rx, h1.run w1 r1 fun xs O2 as2 F2 v2 H2 w2 g2 s2 ry r2 h2 => ?_⟩
  exact rMX_mono (h2 as2 F2 H2 v1 v2 w2 (rx.mono s2 g2) ry) fun _ _ z => z.back (g1.trans g2) (s1.trans s2)
end
end Al
namespace Al
open PySem PySem.Spec L2
open PyProof.Rows hiding St
/-! ### ghosts: freezing, letting go -/
def PV.blw (m : Nat) : PV → Bool
  | .o i => decide (i < m)
  | .p y z => y.blw m && z.blw m
  | _ => true
def AO.below (m : Nat) : AO → Bool
  | .lst xs => xs.all (PV.blw m)
  | .tup xs => xs.all (PV.blw m)
  | .dK kvs => kvs.all fun p => p.2.blw m
  | .dT kvs => kvs.all fun p => p.2.blw m
  | .ins _ fs => fs.all fun p => p.2.blw m
  | .gone => true
  | .tbl _ _ => true
  | .xo _ => true
def PV.frz (i : Nat) (x : PyData) : PV → PV
  | .o j => if j = i then .d x else .o j
  | .p y z => .p (y.frz i x) (z.frz i x)
  | q => q
def AO.frz (i : Nat) (x : PyData) : AO → AO
  | .lst xs => .lst (xs.map (PV.frz i x))
  | .tup xs => .tup (xs.map (PV.frz i x))
  | .dK kvs => .dK (kvs.map fun p => (p.1, p.2.frz i x))
  | .dT kvs => .dT (kvs.map fun p => (p.1, p.2.frz i x))
  | .ins c fs => .ins c (fs.map fun p => (p.1, p.2.frz i x))
  | .gone => .gone
  | .tbl P q => .tbl P q
  | .xo R => .xo R
def frzO (i : Nat) (x : PyData) (O : Own) : Own := (O.set i .gone).map (AO.frz i x)
def frzE (i : Nat) (x : PyData) (ρ : Env1) : Env1 := ρ.map fun q => q.map (PV.frz i x)
section
variable {K : KF} {O : Own} {as : List Addr} {F H : Hp}
theorem RPV.frz {i : Nat} {x : PyData} {a : Addr} (ha : as[i]? = some a) (hd : Dq F (.ref a) x) : ∀ {p : PV} {v : V}, RPV K F as p v → RPV K F as (p.frz i x) v
  | .p _ _, _, ⟨b, u1, u2, z, h, q1, q2⟩ => ⟨b, u1, u2, z, h, RPV.frz ha hd q1, RPV.frz ha hd q2⟩
  | .d _, _, h => h
  | .x _, _, h => h
  | .v _, _, h => h
  | .s _, _, h => h
  | .fn _, _, h => h
  | .o j, v, ⟨b, h, z⟩ => by
    show RPV K F as (if j = i then PV.d x else PV.o j) v
    by_cases e : j = i
    · rw [if_pos e]
      subst e
      rw [ha] at h
      cases h
      rw [z]
      exact hd
    · rw [if_neg e]
      exact ⟨b, h, z⟩
theorem paired_map {α β γ : Type} {R : α → β → Prop} {S : γ → β → Prop} {f : α → γ} (h : ∀ a b, R a b → S (f a) b) : ∀ {l : List α} {m : List β}, Paired R l m → Paired S (l.map f) m
  | _, _, .nil => .nil
  | _, _, .cons r t => .cons (h _ _ r) (paired_map h t)
theorem ROb.frz {i : Nat} {x : PyData} {a : Addr} (ha : as[i]? = some a) (hd : Dq F (.ref a) x) : ∀ {p : AO} {h : HO}, ROb K F as p h → ROb K F as (p.frz i x) h
  | .lst _, _, ⟨vs, h, r⟩ => ⟨vs, h, paired_map (fun _ _ z => RPV.frz ha hd z) r⟩
  | .tup _, _, ⟨vs, h, r⟩ => ⟨vs, h, paired_map (fun _ _ z => RPV.frz ha hd z) r⟩
  | .dK _, _, ⟨vs, h, r⟩ => ⟨vs, h, paired_map (fun _ _ z => ⟨z.1, RPV.frz ha hd z.2⟩) r⟩
  | .dT _, _, ⟨vs, h, r⟩ => ⟨vs, h, paired_map (fun _ _ z => ⟨z.1, RPV.frz ha hd z.2⟩) r⟩
  | .ins _ _, _, ⟨C, dx, ws, m, h, r⟩ => ⟨C, dx, ws, m, h, paired_map (fun _ _ z => ⟨z.1, RPV.frz ha hd z.2⟩) r⟩
  | .gone, _, _ => trivial
  | .tbl _ _, _, h => h
  | .xo _, _, h => h
theorem OwnAt.frz {i : Nat} {x : PyData} {a b : Addr} (ha : as[i]? = some a) (hd : Dq F (.ref a) x) : ∀ {p : AO}, OwnAt K F H as b p → OwnAt K F H as b (p.frz i x)
  | .lst _, ⟨n, h, e, r⟩ => ⟨n, h, e, ROb.frz ha hd r⟩
  | .tup _, ⟨n, h, e, r⟩ => ⟨n, h, e, ROb.frz ha hd r⟩
  | .dK _, ⟨n, h, e, r⟩ => ⟨n, h, e, ROb.frz ha hd r⟩
  | .dT _, ⟨n, h, e, r⟩ => ⟨n, h, e, ROb.frz ha hd r⟩
  | .ins _ _, ⟨n, h, e, r⟩ => ⟨n, h, e, ROb.frz ha hd r⟩
  | .gone, h => h
  | .tbl _ _, h => h
  | .xo _, h => h
theorem Wd.frz (w : Wd K O as F H) {i : Nat} {x : PyData} {a : Addr} (ha : as[i]? = some a) (hd : Dq F (.ref a) x) : Wd K (O.map (AO.frz i x)) as F H :=
  ⟨w.fa, w.fF, by simp [w.len], w.nd, w.ex, fun j b ob h1 h2 => by
    rw [List.getElem?_map, Option.map_eq_some_iff] at h1
    obtain ⟨o, h3, rfl⟩ := h1
    exact OwnAt.frz ha hd (w.own j b o h3 h2)⟩
theorem Wd.frzL (w : Wd K O as F H) {i : Nat} {ds : List PyData} (hO : O[i]? = some (.lst (ds.map PV.d))) :
    ∃ a F', as[i]? = some a ∧ Wd K (frzO i (.list ds) O) as F' H ∧ Same F F' ∧ Dq F' (.ref a) (.list ds) := by
  obtain ⟨a, F', h1, h2, h3, h4⟩ := w.freeze hO
  exact ⟨a, F', h1, h2.frz h1 h4, h3, h4⟩
theorem Wd.frzT (w : Wd K O as F H) {i : Nat} {ds : List PyData} (hO : O[i]? = some (.tup (ds.map PV.d))) :
    ∃ a F', as[i]? = some a ∧ Wd K (frzO i (.tuple ds) O) as F' H ∧ Same F F' ∧ Dq F' (.ref a) (.tuple ds) := by
  obtain ⟨a, F', h1, h2, h3, h4⟩ := w.freezeT hO
  exact ⟨a, F', h1, h2.frz h1 h4, h3, h4⟩
theorem RS.frz {i : Nat} {x : PyData} {a : Addr} (ha : as[i]? = some a) (hd : Dq F (.ref a) x) {ρ : Env1} {σ : L2.St} (r : RS K F as ρ σ) : RS K F as (frzE i x ρ) σ :=
  paired_map (fun p q z pv e => by
    cases p with
    | none => cases e
    | some p =>
      cases e
      obtain ⟨v, h1, h2⟩ := z p rfl
      exact ⟨v, h1, RPV.frz ha hd h2⟩) r
theorem RPV.take {m : Nat} : ∀ {p : PV} {v : V}, p.blw m = true → RPV K F as p v → RPV K F (as.take m) p v
  | .p _ _, _, hb, ⟨b, u1, u2, z, h, q1, q2⟩ => by
    have hb' := Bool.and_eq_true_iff.mp hb
    exact ⟨b, u1, u2, z, h, RPV.take hb'.1 q1, RPV.take hb'.2 q2⟩
  | .d _, _, _, h => h
  | .x _, _, _, h => h
  | .v _, _, _, h => h
  | .s _, _, _, h => h
  | .fn _, _, _, h => h
  | .o j, v, hb, ⟨b, h, z⟩ => ⟨b, by rw [List.getElem?_take_of_lt (of_decide_eq_true hb)]; exact h, z⟩
theorem RPs.take {m : Nat} : ∀ {p : List PV} {v : List V}, p.all (PV.blw m) = true → RPs K F as p v → RPs K F (as.take m) p v
  | _, _, _, .nil => .nil
  | _, _, hb, .cons h t => by
    rw [List.all_cons, Bool.and_eq_true] at hb
    exact .cons (RPV.take hb.1 h) (RPs.take hb.2 t)
theorem kv_take {κ : Type} {m : Nat} : ∀ {p : List (κ × PV)} {v : List (κ × V)}, (p.all fun q => q.2.blw m) = true → Paired (fun (p : κ × PV) (q : κ × V) => p.1 = q.1 ∧ RPV K F as p.2 q.2) p v → Paired (fun (p : κ × PV) (q : κ × V) => p.1 = q.1 ∧ RPV K F (as.take m) p.2 q.2) p v
  | _, _, _, .nil => .nil
  | _, _, hb, .cons h t => by
    rw [List.all_cons, Bool.and_eq_true] at hb
    exact .cons ⟨h.1, RPV.take hb.1 h.2⟩ (kv_take hb.2 t)
theorem OwnAt.take {m : Nat} {b : Addr} : ∀ {p : AO}, p.below m = true → OwnAt K F H as b p → OwnAt K F H (as.take m) b p
  | .lst _, hb, ⟨n, h, e, vs, z, r⟩ => ⟨n, h, e, vs, z, RPs.take hb r⟩
  | .tup _, hb, ⟨n, h, e, vs, z, r⟩ => ⟨n, h, e, vs, z, RPs.take hb r⟩
  | .dK _, hb, ⟨n, h, e, vs, z, r⟩ => ⟨n, h, e, vs, z, kv_take hb r⟩
  | .dT _, hb, ⟨n, h, e, vs, z, r⟩ => ⟨n, h, e, vs, z, kv_take hb r⟩
  | .ins _ _, hb, ⟨n, h, e, C, dx, ws, g, z, r⟩ => ⟨n, h, e, C, dx, ws, g, z, kv_take hb r⟩
  | .gone, _, h => h
  | .tbl _ _, _, h => h
  | .xo _, _, h => h
theorem Gr.take {as0 : List Addr} {m : Nat} (g : Gr as0 as) (h : as0.length ≤ m) : Gr as0 (as.take m) := fun i a e => by
  have := (List.getElem?_eq_some_iff.mp e).1
  rw [List.getElem?_take_of_lt (by omega)]
  exact g i a e
theorem Gr.le {as0 : List Addr} (g : Gr as0 as) : as0.length ≤ as.length := by
  refine Decidable.byContradiction fun h => ?_
  have h1 : as.length < as0.length := by omega
  have := g as.length _ (List.getElem?_eq_getElem h1)
  rw [List.getElem?_eq_none (Nat.le_refl _)] at this
  cases this
theorem Wd.take (w : Wd K O as F H) {m : Nat} (hm0 : K.a0.length ≤ m) (hb : (O.take m).all (AO.below m) = true) : Wd K (O.take m) (as.take m) F H := by
  refine ⟨w.fa.take hm0, w.fF, by simp [w.len], w.nd.sublist (List.take_sublist _ _), w.ex, fun i a ob h1 h2 => ?_⟩
  have hm : ob ∈ O.take m := List.mem_of_getElem? h1
  have hi : i < m := by
    have := (List.getElem?_eq_some_iff.mp h1).1
    rw [List.length_take] at this
    omega
  rw [List.getElem?_take_of_lt hi] at h1 h2
  exact OwnAt.take (List.all_eq_true.mp hb ob hm) (w.own i a ob h1 h2)
end
/-- the object n + 1 takes the number n -/
def PV.ren (n : Nat) : PV → PV
  | .o j => if j = n + 1 then .o n else .o j
  | .p y z => .p (y.ren n) (z.ren n)
  | q => q
/-- it does not speak of the object n -/
def PV.miss (n : Nat) : PV → Bool
  | .o j => decide (j < n) || decide (j = n + 1)
  | .p y z => y.miss n && z.miss n
  | _ => true
section
variable {K : KF} {as : List Addr} {F H : Hp} {n : Nat} {p q : Addr}
theorem RPV.ren (hl : as.length = n) : ∀ {x : PV} {v : V}, x.miss n = true → RPV K F (as ++ [p, q]) x v → RPV K F (as ++ [q]) (x.ren n) v
  | .d _, _, _, h => h
  | .v _, _, _, h => h
  | .s _, _, _, h => h
  | .fn _, _, _, h => h
  | .x _, _, _, h => h
  | .p _ _, _, hm, ⟨b, u1, u2, z, h, q1, q2⟩ => by
    have hm' := Bool.and_eq_true_iff.mp hm
    exact ⟨b, u1, u2, z, h, RPV.ren hl hm'.1 q1, RPV.ren hl hm'.2 q2⟩
  | .o j, v, hm, ⟨b, h, z⟩ => by
    have hm' : j < n ∨ j = n + 1 := by simpa [PV.miss] using hm
    show RPV K F (as ++ [q]) (if j = n + 1 then PV.o n else PV.o j) v
    rcases hm' with h1 | h1
    · rw [if_neg (by omega)]
      refine ⟨b, ?_, z⟩
      rw [List.getElem?_append_left (by omega)] at h ⊢
      exact h
    · rw [if_pos h1]
      refine ⟨b, ?_, z⟩
      rw [List.getElem?_append_right (by omega)] at h ⊢
      rw [hl, Nat.sub_self]
      rw [hl, show j - n = 1 by omega] at h
      exact h
theorem Wd.slide {O : Own} {x y : AO} (w : Wd K (O ++ [x, y]) as F H) (h0 : K.a0.length ≤ O.length) (hO : O.all (AO.below O.length) = true) (hy : y.below O.length = true) : ∃ as1 p q, as = as1 ++ [p, q] ∧ as1.length = O.length ∧ Wd K (O ++ [y]) (as1 ++ [q]) F H := by
  have hl := w.len
  rw [List.length_append] at hl
  have e1 : as = as.take O.length ++ as.drop O.length := (List.take_append_drop _ _).symm
  have hd : (as.drop O.length).length = 2 := by rw [List.length_drop, hl]; simp
  obtain ⟨p, q, e2⟩ : ∃ p q, as.drop O.length = [p, q] := by
    match as.drop O.length, hd with
    | [p, q], _ => exact ⟨p, q, rfl⟩
  rw [e2] at e1
  have l1 : (as.take O.length).length = O.length := by rw [List.length_take, hl]; omega
  refine ⟨as.take O.length, p, q, e1, l1, ?_⟩
  have g0 : Gr (as.take O.length) as := fun i a e => by
    have := (List.getElem?_eq_some_iff.mp e).1
    rw [List.getElem?_take_of_lt (by omega)] at e
    exact e
  have nd := w.nd
  rw [e1] at nd
  refine ⟨(w.fa.take h0).trans (Gr.app _ _), w.fF, by simp [l1], ?_, w.ex, fun i a ob h1 h2 => ?_⟩
  · rw [List.nodup_append] at nd ⊢
    exact ⟨nd.1, by simp, fun a ha b hb e => nd.2.2 a ha b (by rw [List.mem_singleton.mp hb]; simp) e⟩
  · have fin : ∀ {ob : AO} {a : Addr}, ob.below O.length = true → OwnAt K F H as a ob → OwnAt K F H (as.take O.length ++ [q]) a ob := fun hb z => (OwnAt.take hb z).step (Same.refl _) (Gr.app _ _) rfl (fun z => z)
    by_cases hi : i < O.length
    · rw [List.getElem?_append_left hi] at h1
      rw [List.getElem?_append_left (by omega)] at h2
      exact fin (List.all_eq_true.mp hO ob (List.mem_of_getElem? h1)) (w.own i a ob (by rw [List.getElem?_append_left hi]; exact h1) (g0 _ _ h2))
    · have hi2 : i = O.length := by
        have := (List.getElem?_eq_some_iff.mp h1).1
        simp at this
        omega
      subst hi2
      rw [List.getElem?_append_right (Nat.le_refl _), Nat.sub_self] at h1
      rw [List.getElem?_append_right (by omega), l1, Nat.sub_self] at h2
      have e3 : ob = y := by simpa using h1.symm
      have e4 : a = q := by simpa using h2.symm
      subst e3 e4
      refine fin hy (w.own (O.length + 1) a ob (by rw [List.getElem?_append_right (by omega)]; simp) ?_)
      rw [e1, List.getElem?_append_right (by rw [l1]; omega), l1]
      simp
end
inductive Gh (b : Nat) (Φ : PV → Own → Prop) : PV → Own → Prop
  | keep {pv : PV} {O : Own} : Φ pv O → Gh b Φ pv O
  | frL {pv : PV} {O : Own} (i : Nat) {ds : List PyData} : O[i]? = some (.lst (ds.map PV.d)) → Gh b Φ (pv.frz i (.list ds)) (frzO i (.list ds) O) → Gh b Φ pv O
  | frT {pv : PV} {O : Own} (i : Nat) {ds : List PyData} : O[i]? = some (.tup (ds.map PV.d)) → Gh b Φ (pv.frz i (.tuple ds)) (frzO i (.tuple ds) O) → Gh b Φ pv O
  | drop {pv : PV} {O : Own} (m : Nat) : b ≤ m → pv.blw m = true → (O.take m).all (AO.below m) = true → Gh b Φ pv (O.take m) → Gh b Φ pv O
  | slide {pv : PV} {O : Own} {x y : AO} : b ≤ O.length → pv.miss O.length = true → O.all (AO.below O.length) = true → y.below O.length = true → Gh b Φ (pv.ren O.length) (O ++ [y]) → Gh b Φ pv (O ++ [x, y])
theorem gr_cut {as0 as1 : List Addr} {p q : Addr} (g : Gr as0 (as1 ++ [p, q])) (h : as0.length ≤ as1.length) : Gr as0 (as1 ++ [q]) := fun i a e => by
  have := (List.getElem?_eq_some_iff.mp e).1
  have z := g i a e
  rw [List.getElem?_append_left (by omega)] at z ⊢
  exact z
theorem Gh.sound {K : KF} {as0 : List Addr} {F0 : Hp} {b : Nat} {Φ : PV → Own → Prop} (hb : as0.length ≤ b) (hf : K.a0.length ≤ as0.length) {pv : PV} {O : Own} (h : Gh b Φ pv O) : ∀ {as : List Addr} {F H : Hp} {v : V}, Wd K O as F H → Gr as0 as → Same F0 F → RPV K F as pv v → PQ K as0 F0 Φ v H := by
  induction h with
  | keep q => intro as F H v w g s r; exact ⟨_, _, as, F, w, g, s, r, q⟩
  | frL i e _ ih =>
    intro as F H v w g s r
    obtain ⟨a, F', h1, h2, h3, h4⟩ := w.frzL e
    exact ih h2 g (s.trans h3) (RPV.frz h1 h4 (r.mono h3 (Gr.refl _)))
  | frT i e _ ih =>
    intro as F H v w g s r
    obtain ⟨a, F', h1, h2, h3, h4⟩ := w.frzT e
    exact ih h2 g (s.trans h3) (RPV.frz h1 h4 (r.mono h3 (Gr.refl _)))
  | drop m e1 e2 e3 _ ih =>
    intro as F H v w g s r
    exact ih (w.take (Nat.le_trans hf (Nat.le_trans hb e1)) e3) (g.take (Nat.le_trans hb e1)) s (RPV.take e2 r)
  | slide e1 e2 e3 e4 _ ih =>
    intro as F H v w g s r
    obtain ⟨as1, p, q, rfl, l1, w'⟩ := w.slide (Nat.le_trans hf (Nat.le_trans hb e1)) e3 e4
    exact ih w' (gr_cut g (by omega)) s (RPV.ren l1 e2 r)
theorem PQ.gh {K : KF} {as : List Addr} {F : Hp} {b : Nat} {Φ : PV → Own → Prop} {v : V} {H : Hp} (hb : as.length ≤ b) (hf : K.a0.length ≤ as.length) (h : PQ K as F (Gh b Φ) v H) : PQ K as F Φ v H :=
  let ⟨_, _, _, _, w, g, e, r, q⟩ := h
  q.sound hb hf w g e r
inductive SGh (b : Nat) (Ψ : Env1 → Own → Prop) : Env1 → Own → Prop
  | keep {ρ : Env1} {O : Own} : Ψ ρ O → SGh b Ψ ρ O
  | frL {ρ : Env1} {O : Own} (i : Nat) {ds : List PyData} : O[i]? = some (.lst (ds.map PV.d)) → SGh b Ψ (frzE i (.list ds) ρ) (frzO i (.list ds) O) → SGh b Ψ ρ O
  | frT {ρ : Env1} {O : Own} (i : Nat) {ds : List PyData} : O[i]? = some (.tup (ds.map PV.d)) → SGh b Ψ (frzE i (.tuple ds) ρ) (frzO i (.tuple ds) O) → SGh b Ψ ρ O
  | unset {ρ : Env1} {O : Own} (i : Nat) : SGh b Ψ (ρ.set i none) O → SGh b Ψ ρ O
  | drop {ρ : Env1} {O : Own} (m : Nat) : b ≤ m → (ρ.all fun q => q.all (PV.blw m)) = true → (O.take m).all (AO.below m) = true → SGh b Ψ ρ (O.take m) → SGh b Ψ ρ O
  | slide {ρ : Env1} {O : Own} {x y : AO} : b ≤ O.length → (ρ.all fun q => q.all (PV.miss O.length)) = true → O.all (AO.below O.length) = true → y.below O.length = true → SGh b Ψ (ρ.map fun q => q.map (PV.ren O.length)) (O ++ [y]) → SGh b Ψ ρ (O ++ [x, y])
theorem RS.ren {K : KF} {F : Hp} {as : List Addr} {n : Nat} {p q : Addr} (hl : as.length = n) : ∀ {ρ : Env1} {σ : L2.St}, (ρ.all fun q => q.all (PV.miss n)) = true → RS K F (as ++ [p, q]) ρ σ → RS K F (as ++ [q]) (ρ.map fun q => q.map (PV.ren n)) σ
  | _, _, _, .nil => .nil
  | x :: _, _, hb, .cons h t => by
    rw [List.all_cons, Bool.and_eq_true] at hb
    refine .cons (fun pv e => ?_) (RS.ren hl hb.2 t)
    cases x with
    | none => cases e
    | some y =>
      cases e
      obtain ⟨v, h1, h2⟩ := h y rfl
      exact ⟨v, h1, RPV.ren hl hb.1 h2⟩
theorem RS.take {K : KF} {F : Hp} {as : List Addr} {m : Nat} : ∀ {ρ : Env1} {σ : L2.St}, (ρ.all fun q => q.all (PV.blw m)) = true → RS K F as ρ σ → RS K F (as.take m) ρ σ
  | _, _, _, .nil => .nil
  | p :: _, _, hb, .cons h t => by
    rw [List.all_cons, Bool.and_eq_true] at hb
    refine .cons (fun pv e => ?_) (RS.take hb.2 t)
    subst e
    obtain ⟨v, h1, h2⟩ := h pv rfl
    exact ⟨v, h1, RPV.take hb.1 h2⟩
theorem RS.unset1 {K : KF} {as : List Addr} {F : Hp} : ∀ {ρ : Env1} {σ : L2.St} (i : Nat), RS K F as ρ σ → RS K F as (ρ.set i none) σ
  | _, _, _, .nil => .nil
  | _, _, 0, .cons _ t => .cons (fun pv' e => nomatch e) t
  | _, _, i + 1, .cons p t => .cons p (RS.unset1 i t)
theorem SGh.sound {K : KF} {as0 : List Addr} {F0 : Hp} {b : Nat} {Ψ : Env1 → Own → Prop} (hb : as0.length ≤ b) (hf : K.a0.length ≤ as0.length) {ρ : Env1} {O : Own} (h : SGh b Ψ ρ O) : ∀ {as : List Addr} {F H : Hp} {σ : L2.St}, Wd K O as F H → Gr as0 as → Same F0 F → RS K F as ρ σ → SQ K as0 F0 Ψ σ H := by
  induction h with
  | keep q => intro as F H v w g s r; exact ⟨_, _, as, F, w, g, s, r, q⟩
  | frL i e _ ih =>
    intro as F H v w g s r
    obtain ⟨a, F', h1, h2, h3, h4⟩ := w.frzL e
    exact ih h2 g (s.trans h3) (RS.frz h1 h4 (r.mono h3 (Gr.refl _)))
  | frT i e _ ih =>
    intro as F H v w g s r
    obtain ⟨a, F', h1, h2, h3, h4⟩ := w.frzT e
    exact ih h2 g (s.trans h3) (RS.frz h1 h4 (r.mono h3 (Gr.refl _)))
  | unset i _ ih => intro as F H v w g s r; exact ih w g s (RS.unset1 i r)
  | drop m e1 e2 e3 _ ih =>
    intro as F H v w g s r
    exact ih (w.take (Nat.le_trans hf (Nat.le_trans hb e1)) e3) (g.take (Nat.le_trans hb e1)) s (RS.take e2 r)
  | slide e1 e2 e3 e4 _ ih =>
    intro as F H v w g s r
    obtain ⟨as1, p, q, rfl, l1, w'⟩ := w.slide (Nat.le_trans hf (Nat.le_trans hb e1)) e3 e4
    exact ih w' (gr_cut g (by omega)) s (RS.ren l1 e2 r)
theorem SQ.gh {K : KF} {as : List Addr} {F : Hp} {b : Nat} {Ψ : Env1 → Own → Prop} {σ : L2.St} {H : Hp} (hb : as.length ≤ b) (hf : K.a0.length ≤ as.length) (h : SQ K as F (SGh b Ψ) σ H) : SQ K as F Ψ σ H :=
  let ⟨_, _, _, _, w, g, e, r, q⟩ := h
  q.sound hb hf w g e r
theorem rps1 {K : KF} {F : Hp} {as : List Addr} {x : PV} {vs : List V} (h : RPs K F as [x] vs) : ∃ v, vs = [v] ∧ RPV K F as x v := by
  cases h with
  | cons h t => cases t; exact ⟨_, rfl, h⟩
theorem rps2 {K : KF} {F : Hp} {as : List Addr} {x y : PV} {vs : List V} (h : RPs K F as [x, y] vs) : ∃ v u, vs = [v, u] ∧ RPV K F as x v ∧ RPV K F as y u := by
  cases h with
  | cons h t =>
    obtain ⟨u, rfl, r⟩ := rps1 t
    exact ⟨_, _, rfl, h, r⟩
theorem tS_le {X : Ax} {st : Stmt} {D D' : Ends} {σ : L2.St} {H : Hp} (h : tS X.c st D σ H) (l : Ends.Le D D') : tS X.c st D' σ H := tS_mono l h
theorem tSs_le {X : Ax} {st : List Stmt} {D D' : Ends} {σ : L2.St} {H : Hp} (h : tSs X.c st D σ H) (l : Ends.Le D D') : tSs X.c st D' σ H := tSs_mono l h
section
variable {X : Ax} {e a b c : Expr} {es : List Expr} {ρ : Env1} {O : Own} {Φ : PV → Own → Prop} {as : List Addr} {F H : Hp} {σ : L2.St} {pos p p2 : Pos} {st : Stmt} {sts rest : List Stmt} {D : AEnds}
theorem AE.gh (h : AE X e ρ O (Gh O.length Φ)) : AE X e ρ O Φ := fun as F σ H w r => tE_mono (h as F σ H w r) fun _ _ z => z.gh (by rw [w.len]; exact Nat.le_refl _) w.fa.le
/-! ### statements -/
theorem as_nil (k : D.nx ρ O) : ASs X [] ρ O D := fun as F σ H w r => tSs_of pss_nil ⟨ρ, O, as, F, w, Gr.refl _, Same.refl _, r, k⟩
theorem as_cons (h : AS X st ρ O { D with nx := fun ρ' O' => ASs X rest ρ' O' D }) : ASs X (st :: rest) ρ O D := fun as F σ H w r => by
  refine tSs_of (pss_cons ps_tS pss_tSs) ?_
  refine tS_le (h as F σ H w r) ⟨fun σ' H' z => ?_, fun _ _ z => z, fun _ _ z => z, fun _ _ z => z⟩
  obtain ⟨ρ', O', as', F', w', g, s, r', q⟩ := z
  exact tSs_mono (AEnds.back g s) (q as' F' σ' H' w' r')
theorem as_expr (h : AE X e ρ O fun _ O1 => D.nx ρ O1) (hs : swapsWith e none pos.line X.env = pure false := by rfl) : AS X (.Expr e pos) ρ O D := fun as F σ H w r => by
  refine tS_of (ps_expr pe_tE hs) ?_
  exact h.run w r fun pv O1 as1 F1 v H1 w1 g s _ r1 q => ⟨ρ, O1, as1, F1, w1, g, s, r1, q⟩
theorem as_ret (h : AE X e ρ O D.rt) : AS X (.Return (some e) pos) ρ O D := fun as F σ H w r => tS_of (ps_ret pe_tE) (h as F σ H w r)
theorem as_if {s1 s2 : List Stmt} (h : AT X c ρ O fun k O1 => if k = true then ASs X s1 ρ O1 D else ASs X s2 ρ O1 D) : AS X (.If c s1 s2 pos) ρ O D := fun as F σ H w r => by
  refine tS_of (ps_if pt_tT pss_tSs pss_tSs) ?_
  refine h.run w r fun k O1 as1 F1 H1 w1 g1 s1 r1 z => ?_
  cases k with
  | true =>
    simp only [if_true] at z ⊢
    exact tSs_mono (AEnds.back g1 s1) (z as1 F1 σ H1 w1 r1)
  | false =>
    simp only [Bool.false_eq_true, if_false] at z ⊢
    exact tSs_mono (AEnds.back g1 s1) (z as1 F1 σ H1 w1 r1)
theorem as_set (i : Nat) {x : Str} {pos' : Pos} (hN : X.N.Nodup) (h : AE X e ρ O fun v O1 => D.nx (ρ.set i (some v)) O1) (hi : X.N[i]? = some x := by rfl) (hx : Loc X.env.scope x := by first | exact Or.inl rfl | exact Or.inr rfl)
    (hs : swapsWith e (some (.Name x pos')) pos.line X.env = pure false := by rfl) (hf : X.fn x = true ∨ X.env.scope.names.lookup x = some .local := by first | exact .inl rfl | exact .inr rfl | assumption) : AS X (.Assign [.Name x pos'] e pos) ρ O D := fun as F σ H w r => by
  refine tS_of (ps_set hN hi hx pe_tE hs hf) ?_
  exact h.run w r fun pv O1 as1 F1 v H1 w1 g s rv r1 q => ⟨_, O1, as1, F1, w1, g, s, r1.set rv i, q⟩
theorem as_asg {tg : Expr} (h : AE X e ρ O fun v O1 => AG X tg v ρ O1 D.nx) (hs : swapsWithSole [tg] e pos.line X.env = pure false := by rfl) (hw : swappedStores [tg] e X.env = pure none := by rfl)
    (h1 : (assignEach [tg] X.env).map (·.2) = [assign tg X.env] := by rfl) : AS X (.Assign [tg] e pos) ρ O D := fun as F σ H w r => by
  refine tS_of (ps_asg pe_tE pg_tG hs hw h1) ?_
  refine h.run w r fun pv O1 as1 F1 v H1 w1 g s rv r1 q => ?_
  exact tG_mono (q as1 F1 σ H1 v w1 r1 rv) fun _ _ z => z.back g s
/-! ### targets -/
variable {Ψ : Env1 → Own → Prop} {x : PV}
theorem ag_name (i : Nat) {n : Str} (hN : X.N.Nodup) (k : Ψ (ρ.set i (some x)) O) (hi : X.N[i]? = some n := by rfl) (hx : Loc X.env.scope n := by first | exact Or.inl rfl | exact Or.inr rfl) (hf : X.fn n = true ∨ X.env.scope.names.lookup n = some .local := by first | exact .inl rfl | exact .inr rfl | assumption) : AG X (.Name n pos) x ρ O Ψ :=
  fun as F σ H v w r rv => tG_of (pg_name hN hi hx hf) ⟨_, O, as, F, w, Gr.refl _, Same.refl _, r.set rv i, k⟩
@[irreducible] def tGs (X : Cx) (ts : List Expr) : TGs := fun vs σ H Q => ∀ pins s us, Inv X pins σ H s → Vals vs us → wpAny (model X.prog X.w) X.A (assignInOrder ((assignEach ts X.env).map (·.2)) us) (fun _ s' => ∃ σ' H', Inv X pins σ' H' s' ∧ Q σ' H') X.xe s
theorem pgs_tGs {ts : List Expr} : PGs X.c ts (tGs X.c ts) := ⟨fun pins s _ _ _ us _ I r h => by unfold tGs at h; exact h pins s us I r⟩
def AGs (X : Ax) (ts : List Expr) (xs : List PV) (ρ : Env1) (O : Own) (Ψ : Env1 → Own → Prop) : Prop := ∀ as F σ H vs, Wd X.k O as F H → RS X.k F as ρ σ → RPs X.k F as xs vs → tGs X.c ts vs σ H (SQ X.k as F Ψ)
theorem tGs_of {ts : List Expr} {t : TGs} {vs : List V} {Q : L2.St → Hp → Prop} (h : PGs X.c ts t) (q : t vs σ H Q) : tGs X.c ts vs σ H Q := by unfold tGs; exact fun pins s us I r => h.run pins s σ H vs us Q I r q
theorem tGs_mono {ts : List Expr} {vs : List V} {Q Q' : L2.St → Hp → Prop} (h : tGs X.c ts vs σ H Q) (q : ∀ σ' H', Q σ' H' → Q' σ' H') : tGs X.c ts vs σ H Q' := by
  unfold tGs at h ⊢
  exact fun pins s us I r => thn (h pins s us I r) fun _ _ ⟨σ', H', I', z⟩ => ⟨σ', H', I', q σ' H' z⟩
theorem ags_nil (k : Ψ ρ O) : AGs X [] [] ρ O Ψ := fun as F σ H vs w r rv => by
  cases rv
  exact tGs_of pgs_nil ⟨rfl, ρ, O, as, F, w, Gr.refl _, Same.refl _, r, k⟩
theorem ags_cons {xs : List PV} (h : AG X e x ρ O fun ρ1 O1 => AGs X es xs ρ1 O1 Ψ) (hs : (assignEach (e :: es) X.env).map (·.2) = assign e X.env :: (assignEach es X.env).map (·.2) := by rfl) : AGs X (e :: es) (x :: xs) ρ O Ψ := fun as F σ H vs w r rv => by
  cases rv with
  | cons r1 rs =>
    refine tGs_of (pgs_cons pg_tG pgs_tGs hs) ?_
    refine ⟨_, _, rfl, tG_mono (h as F σ H _ w r r1) fun σ' H' ⟨ρ1, O1, as1, F1, w1, g1, s1, r2, q⟩ => ?_⟩
    exact tGs_mono (q as1 F1 σ' H' _ w1 r2 (RPs.mono s1 g1 rs)) fun _ _ z => z.back g1 s1
/-- a, b, .. = a tuple of data -/
theorem ag_tup {k : Nat} {ds : List PyData} (hc : X.calm = true) (h : AGs X es (ds.map PV.d) ρ O Ψ) (hn : (assignEach es X.env).length = ds.length := by rfl) (hst : (assignEach es X.env).findIdx? (·.1) = none := by rfl) : AG X (.Tuple es k pos) (.d (.tuple ds)) ρ O Ψ := fun as F σ H v w r rv => by
  refine tG_of (pg_tup hc pgs_tGs hn hst) ?_
  cases (show Dq F v (.tuple ds) from rv) with
  | tup hs ha => exact ⟨_, _, rfl, SqT.of (w.ex _ _ hs), ha.len, h as F σ H _ w r (data_rps ha)⟩
theorem Wd.rd {K : KF} (w : Wd K O as F H) {a : Addr} {u : HO} (h : F a = some u) : H a = some u := w.ex _ _ h
/-- an owned list's item stored -/
theorem ag_subL {o i : Expr} {x : PV} (h : AE X o ρ O fun po O1 => AE X i ρ O1 fun pi O2 => ∃ n k j xs, po = .o n ∧ pi = .d (.int k) ∧ O2[n]? = some (.lst xs) ∧ ixN xs.length k = some j ∧ Ψ ρ (O2.set n (.lst (xs.set j x))))
    (ha : ∀ v, assign (.Subscript o i pos) X.env v = (do
      let ov ← holding [v] (eval o X.env)
      let iv ← holding [v, ov] (eval i X.env)
      standAt pos
      holding [v, ov, iv] (setItem ov iv v)
      release [v, ov, iv] []) := by intro _; rfl) : AG X (.Subscript o i pos) x ρ O Ψ := fun as F σ H v w r rv => by
  refine tG_of (pg_sub pe_tE pe_tE set_list ha) ?_
  refine h.run w r fun po O1 as1 F1 v1 H1 w1 g1 s1 r1 rr1 h1 => ?_
  refine h1.run w1 rr1 fun pi O2 as2 F2 v2 H2 w2 g2 s2 r2 rr2 ⟨n, k, j, xs, e1, e2, e3, e4, q⟩ => ?_
  subst e1; subst e2
  obtain ⟨a, fa, ea⟩ := r1
  subst ea
  cases (show Dq F2 v2 (.int k) from r2)
  obtain ⟨a', h1', fn, ho, hh, vs, e5, rvs⟩ := w2.at_ e3
  have e6 : a' = a := Option.some.inj (h1'.symm.trans (g2 n a fa))
  subst e6; subst e5
  refine ⟨a', vs, k, j, rfl, rfl, hh, by rw [← rvs.len]; exact e4, ?_⟩
  have rset : ∀ {ps : List PV} {vs : List V} (j : Nat), RPs X.k F2 as2 ps vs → RPs X.k F2 as2 (ps.set j x) (vs.set j v) := by
    intro ps vs j h
    induction h generalizing j with
    | nil => exact .nil
    | cons h t ih =>
      cases j with
      | zero => exact .cons (rv.mono (s1.trans s2) (g1.trans g2)) t
      | succ j => exact .cons h (ih j)
  exact ⟨ρ, _, as2, F2, w2.set (ob := .lst (xs.set j x)) (h := .lst (vs.set j v)) h1' fn ⟨_, rfl, rset j rvs⟩ (fun z => nomatch z), g1.trans g2, s1.trans s2, rr2, q⟩
/-! ### while -/
/-! ### what is walked: the items, told ahead -/
@[irreducible] def tI (X : Cx) (tg iter : Expr) : TI := fun σ H R => ∀ pins s, Inv X pins σ H s → wpAny (model X.prog X.w) X.A (eval iter X.env) (fun v s1 => wpAny (model X.prog X.w) X.A (pyIter v) (PIE X pins σ tg R) X.xe s1) X.xe s
theorem pi_tI {tg iter : Expr} : PI X.c tg iter (tI X.c tg iter) := ⟨fun pins s _ _ _ I h => by unfold tI at h; exact h pins s I⟩
theorem tI_of {tg iter : Expr} {wi : TI} {R : It → Hp → Prop} (h : PI X.c tg iter wi) (q : wi σ H R) : tI X.c tg iter σ H R := by unfold tI; exact fun pins s I => h.run pins s σ H R I q
/-- J gives the items, one by one, as long as G holds of the owned objects -/
def JOk (K : KF) (J : It) (items : List PV) (G : Own → Prop) (as0 : List Addr) (F0 : Hp) : Prop := ∀ O as F H, Wd K O as F H → Gr as0 as → Same F0 F → G O →
  (∀ i, items.length ≤ i → J.stop i H) ∧ (∀ i x, items[i]? = some x → J.go i H ∧ ∀ v H', J.yld i H v H' → ∃ F', Wd K O as F' H' ∧ Same F F' ∧ RPV K F' as x v)
def AI (X : Ax) (tg iter : Expr) (ρ : Env1) (O : Own) (Ψ : List PV → (Own → Prop) → Own → Prop) : Prop := ∀ as F σ H, Wd X.k O as F H → RS X.k F as ρ σ → ∀ R : It → Hp → Prop,
  (∀ J H1 items G O1 as1 F1, Wd X.k O1 as1 F1 H1 → Gr as as1 → Same F F1 → JOk X.k J items G as1 F1 → Ψ items G O1 → R J H1) → tI X.c tg iter σ H R
theorem ai_list {tg iter : Expr} {Ψ : List PV → (Own → Prop) → Own → Prop} (h : AE X iter ρ O fun x O1 => ∃ ds, x = .d (.list ds) ∧ Ψ (ds.map PV.d) (fun _ => True) O1) : AI X tg iter ρ O Ψ := fun as F σ H w r R k => by
  refine tI_of (pi_list pe_tE) ?_
  refine h.run w r fun x O1 as1 F1 v1 H1 w1 g1 s1 rx r1 ⟨ds, e1, q⟩ => ?_
  subst e1
  cases (show Dq F1 v1 (.list ds) from rx) with
  | @lst a xs ds hs ha =>
    refine ⟨a, rfl, ⟨xs, SqL.of (w1.rd hs)⟩, k _ H1 _ _ O1 as1 F1 w1 g1 s1 (fun O' as' F' H' w' g' s' _ => ?_) q⟩
    have hq : SqL X.K H' a xs := SqL.of (w'.rd (s' _ _ hs))
    refine ⟨fun i hi => ⟨xs, hq, by rw [List.length_map, ← ha.len] at hi; exact hi⟩, fun i x hx => ?_⟩
    rw [List.getElem?_map, Option.map_eq_some_iff] at hx
    obtain ⟨d, hd, rfl⟩ := hx
    obtain ⟨v, hv, hdv⟩ := ha.get hd
    refine ⟨⟨xs, v, hq, hv⟩, fun v' H2 hy => ?_⟩
    obtain ⟨e2, hy⟩ := hy
    subst e2
    have e3 : v = v' := Option.some.inj (hv.symm.trans (hy xs hq))
    subst e3
    exact ⟨F', w', Same.refl _, Dq_same s' hdv⟩
/-- an owned list that the loop leaves as it is -/
theorem ai_listO {tg iter : Expr} {Ψ : List PV → (Own → Prop) → Own → Prop} (h : AE X iter ρ O fun x O1 => ∃ n xs, x = .o n ∧ O1[n]? = some (.lst xs) ∧ Ψ xs (fun O => O[n]? = some (.lst xs)) O1) : AI X tg iter ρ O Ψ := fun as F σ H w r R k => by
  refine tI_of (pi_list pe_tE) ?_
  refine h.run w r fun x O1 as1 F1 v1 H1 w1 g1 s1 rx r1 ⟨n, xs, e1, e2, q⟩ => ?_
  subst e1
  obtain ⟨a, fa, ea⟩ := rx
  subst ea
  have look : ∀ {O' as' F' H'}, Wd X.k O' as' F' H' → Gr as1 as' → O'[n]? = some (.lst xs) → ∃ vs, SqL X.K H' a vs ∧ RPs X.k F' as' xs vs := fun {O' as' F' H'} w' g' eo => by
    obtain ⟨a', h1', fn, ho, hh, vs, e5, rvs⟩ := w'.at_ eo
    have e6 : a' = a := Option.some.inj (h1'.symm.trans (g' n a fa))
    subst e6; subst e5
    exact ⟨vs, SqL.of hh, rvs⟩
  obtain ⟨vs1, hq1, _⟩ := look w1 (Gr.refl _) e2
  refine ⟨a, rfl, ⟨vs1, hq1⟩, k _ H1 _ _ O1 as1 F1 w1 g1 s1 (fun O' as' F' H' w' g' s' hG => ?_) q⟩
  obtain ⟨vs, hq, rvs⟩ := look w' g' hG
  refine ⟨fun i hi => ⟨vs, hq, by rw [← rvs.len]; exact hi⟩, fun i x hx => ?_⟩
  have rget : ∀ {ps : List PV} {vs : List V} {i : Nat} {x : PV}, RPs X.k F' as' ps vs → ps[i]? = some x → ∃ v, vs[i]? = some v ∧ RPV X.k F' as' x v := by
    intro ps vs i x h
    induction h generalizing i with
    | nil => intro e; simp at e
    | cons h t ih =>
      intro e
      cases i with
      | zero => cases e; exact ⟨_, rfl, h⟩
      | succ i => exact ih e
  obtain ⟨v, hv, hdv⟩ := rget rvs hx
  refine ⟨⟨vs, v, hq, hv⟩, fun v' H2 hy => ?_⟩
  obtain ⟨e2, hy⟩ := hy
  subst e2
  have e3 : v = v' := Option.some.inj (hv.symm.trans (hy vs hq))
  subst e3
  exact ⟨F', w', Same.refl _, hdv⟩
def rngP (lo : Int) (n : Nat) : List PV := (List.range n).map fun i => PV.d (.int (lo + (i : Nat)))
theorem jok_rng {K : KF} {lo : Int} {n : Nat} {as0 : List Addr} {F0 : Hp} : JOk K (Itr lo n) (rngP lo n) (fun _ => True) as0 F0 := fun O as F H w _ _ _ => by
  refine ⟨fun i hi => by unfold rngP at hi; rw [List.length_map, List.length_range] at hi; exact hi, fun i x hx => ?_⟩
  unfold rngP at hx
  rw [List.getElem?_map, Option.map_eq_some_iff] at hx
  obtain ⟨d, hd, rfl⟩ := hx
  have hi := (List.getElem?_eq_some_iff.mp hd).1
  rw [List.length_range] at hi
  rw [List.getElem?_range hi] at hd
  have e0 : i = d := Option.some.inj hd
  subst e0
  refine ⟨hi, fun v' H2 hy => ?_⟩
  obtain ⟨e2, hy⟩ := hy
  subst e2 hy
  exact ⟨F, w, Same.refl _, .int _⟩
theorem ai_range1 {tg : Expr} {Ψ : List PV → (Own → Prop) → Own → Prop} (hg : Gl X.c "range") (hm : X.mg "range" = none) (h : AA X [a] ρ O fun xs O1 => ∃ j : Int, xs = [.d (.int j)] ∧ -(2 ^ 62) ≤ j ∧ j < 2 ^ 62 ∧ Ψ (rngP 0 j.toNat) (fun _ => True) O1) (hs : starEach [a] X.env = [(false, eval a X.env)] := by rfl) :
    AI X tg (.Call (.Name "range" p) [a] [] pos) ρ O Ψ := fun as F σ H w r R k => by
  refine tI_of (pi_range1 hg hm pa_tA hs) ?_
  refine h.run w r fun xs O1 as1 F1 v1 H1 w1 g1 s1 rx r1 ⟨j, e1, h1, h2, q⟩ => ?_
  subst e1
  obtain ⟨va, rfl, ra⟩ := rps1 rx
  cases (show Dq F1 va (.int j) from ra)
  exact ⟨j, rfl, h1, h2, k _ H1 _ _ O1 as1 F1 w1 g1 s1 jok_rng q⟩
def chrP (z : Str) : List PV := z.cps.toList.map fun c => PV.d (.str ⟨#[c]⟩)
theorem ai_str {tg iter : Expr} {Ψ : List PV → (Own → Prop) → Own → Prop} (h : AE X iter ρ O fun x O1 => ∃ z, x = .d (.str z) ∧ Ψ (chrP z) (fun _ => True) O1) : AI X tg iter ρ O Ψ := fun as F σ H w r R k => by
  refine tI_of (pi_str pe_tE) ?_
  refine h.run w r fun x O1 as1 F1 v1 H1 w1 g1 s1 rx r1 ⟨z, e1, q⟩ => ?_
  subst e1
  cases (show Dq F1 v1 (.str z) from rx)
  refine ⟨z, rfl, k _ H1 _ _ O1 as1 F1 w1 g1 s1 (fun O' as' F' H' w' g' s' _ => ?_) q⟩
  unfold chrP
  refine ⟨fun i hi => by rw [List.length_map, Array.length_toList] at hi; exact hi, fun i x hx => ?_⟩
  rw [List.getElem?_map, Option.map_eq_some_iff] at hx
  obtain ⟨c, hc, rfl⟩ := hx
  rw [Array.getElem?_toList] at hc
  refine ⟨(Array.getElem?_eq_some_iff.mp hc).1, fun v' H2 hy => ?_⟩
  obtain ⟨e2, c', hc', e3⟩ := hy
  subst e2; subst e3
  have e4 : c = c' := Option.some.inj (hc.symm.trans hc')
  subst e4
  exact ⟨F', w', Same.refl _, .str _⟩
/-! ### for -/
theorem as_for {tg iter : Expr} {body : List Stmt} (hp : PassesOwn (model X.prog X.w) X.A X.env X.c.xe) (hc : X.calm = true) (h : AI X tg iter ρ O fun items G O1 => ∃ I : Nat → Env1 → Own → Prop, I 0 ρ O1 ∧ (∀ i ρ O, I i ρ O → G O) ∧
      (∀ i x ρ O, items[i]? = some x → I i ρ O → AG X tg x ρ O fun ρ' O' => ASs X body ρ' O' { D with nx := SGh O1.length (I (i + 1)), ct := SGh O1.length (I (i + 1)), bk := D.nx }) ∧ (∀ ρ O, I items.length ρ O → D.nx ρ O))
    (hs : ∀ x, foldedSetIterable iter X.env x = pure x := by intro _; rfl) : AS X (.For tg iter body [] pos) ρ O D := fun as F σ H w r => by
  refine tS_of (ps_for hp hc pi_tI pg_tG pss_tSs hs) ?_
  refine h as F σ H w r _ fun J H1 items G O1 as1 F1 w1 g1 s1 jok ⟨I, i0, iG, step, done⟩ => ?_
  refine ⟨fun i m σ H => m + i = items.length ∧ SQ X.k as1 F1 (I i) σ H, ⟨items.length, by omega, ρ, O1, as1, F1, w1, Gr.refl _, Same.refl _, r.mono s1 g1, i0⟩, ?_⟩
  rintro i m σ2 H2 ⟨hm, ρ2, O2, as2, F2, w2, g2, s2, r2, q2⟩
  obtain ⟨j1, j2⟩ := jok O2 as2 F2 H2 w2 g2 s2 (iG _ _ _ q2)
  by_cases hi : i < items.length
  · obtain ⟨hgo, hy⟩ := j2 i items[i] (List.getElem?_eq_getElem hi)
    refine .inr ⟨hgo, SQ X.k as1 F1 (I (i + 1)), fun σ' H' z => ⟨m - 1, by omega, by omega, z⟩, fun v H' hyl => ?_⟩
    obtain ⟨F3, w3, s3, rv⟩ := hy v H' hyl
    refine tG_mono (step i _ ρ2 O2 (List.getElem?_eq_getElem hi) q2 as2 F3 σ2 H' v w3 (r2.mono s3 (Gr.refl _)) rv) fun σ4 H4 ⟨ρ4, O4, as4, F4, w4, g4, s4, r4, q4⟩ => ?_
    have nxt : ∀ {σ' H'}, SQ X.k as4 F4 (SGh O1.length (I (i + 1))) σ' H' → SQ X.k as1 F1 (I (i + 1)) σ' H' := fun z => (z.back (g2.trans g4) ((s2.trans s3).trans s4)).gh (by rw [w1.len]; exact Nat.le_refl _) w1.fa.le
    exact tSs_le (q4 as4 F4 σ4 H4 w4 r4) ⟨fun _ _ z => nxt z, fun _ _ z => PQ.back (g1.trans (g2.trans g4)) (s1.trans ((s2.trans s3).trans s4)) z, fun _ _ z => SQ.back (g1.trans (g2.trans g4)) (s1.trans ((s2.trans s3).trans s4)) z, fun _ _ z => nxt z⟩
  · have e : i = items.length := by omega
    subst e
    exact .inl ⟨j1 _ (Nat.le_refl _), ρ2, O2, as2, F2, w2, g1.trans g2, s1.trans s2, r2, done _ _ q2⟩
end
end Al
namespace Al
open PySem PySem.Spec L2
open PyProof.Rows hiding St
/-! ### comprehensions -/
def wipeA (ρ : Env1) : List Nat → Env1
  | [] => ρ
  | v :: vs => (wipeA ρ vs).set v none
theorem RS.wipe {K : KF} {as : List Addr} {F : Hp} {ρ : Env1} {σ : L2.St} (r : RS K F as ρ σ) : ∀ vs : List Nat, RS K F as (wipeA ρ vs) (wipe σ vs)
  | [] => r
  | v :: vs => (RS.wipe r vs).unset v none
theorem wipe_set_mem {i : Nat} {x : Option V} : ∀ {vs : List Nat} {σ : L2.St}, i ∈ vs → wipe (σ.set i x) vs = wipe σ vs
  | v :: vs, σ, h => by
    show (wipe (σ.set i x) vs).set v none = (wipe σ vs).set v none
    by_cases hv : i ∈ vs
    · rw [wipe_set_mem hv]
    · have e : i = v := by
        rcases List.mem_cons.mp h with e | e
        · exact e
        · exact absurd e hv
      subst e
      have : ∀ {vs : List Nat} {σ : L2.St}, i ∉ vs → wipe (σ.set i x) vs = (wipe σ vs).set i x := by
        intro vs
        induction vs with
        | nil => intro σ _; rfl
        | cons u us ih =>
          intro σ hu
          simp only [List.mem_cons, not_or] at hu
          show (wipe (σ.set i x) us).set u none = ((wipe σ us).set u none).set i x
          rw [ih hu.2, List.set_comm _ _ hu.1]
      rw [this hv, List.set_set]
theorem wipe_wipe (σ : L2.St) : ∀ vs : List Nat, wipe (wipe σ vs) vs = wipe σ vs := by
  have gen : ∀ (us vs : List Nat) (σ : L2.St), (∀ u ∈ us, u ∈ vs) → wipe (wipe σ us) vs = wipe σ vs := by
    intro us
    induction us with
    | nil => intro vs σ _; rfl
    | cons u us ih =>
      intro vs σ h
      show wipe ((wipe σ us).set u none) vs = _
      rw [wipe_set_mem (h u (by simp)), ih vs σ (fun x hx => h x (List.mem_cons_of_mem _ hx))]
  exact fun vs => gen vs vs σ (fun _ h => h)
/-- a target that stores only at the places vs -/
def Wipes (vs : List Nat) (g : TG) : Prop := ∀ v σ H Q, g v σ H Q → g v σ H fun σ2 H2 => wipe σ2 vs = wipe σ vs ∧ Q σ2 H2
def WipesS (vs : List Nat) (g : TGs) : Prop := ∀ v σ H Q, g v σ H Q → g v σ H fun σ2 H2 => wipe σ2 vs = wipe σ vs ∧ Q σ2 H2
theorem wipes_name {vs : List Nat} {i : Nat} (h : i ∈ vs) : Wipes vs (gName i) := fun v σ H Q q => ⟨wipe_set_mem h, q⟩
theorem wipes_nil {vs : List Nat} : WipesS vs gNil := fun v σ H Q ⟨e, q⟩ => ⟨e, rfl, q⟩
def TGMono (g : TG) : Prop := ∀ v σ H Q Q', g v σ H Q → (∀ σ' H', Q σ' H' → Q' σ' H') → g v σ H Q'
def TGsMono (g : TGs) : Prop := ∀ v σ H Q Q', g v σ H Q → (∀ σ' H', Q σ' H' → Q' σ' H') → g v σ H Q'
theorem mono_name {i : Nat} : TGMono (gName i) := fun _ _ _ _ _ q k => k _ _ q
theorem mono_nil : TGsMono gNil := fun _ _ _ _ _ ⟨e, q⟩ k => ⟨e, k _ _ q⟩
theorem mono_cons {t : TG} {u : TGs} (h1 : TGMono t) (h2 : TGsMono u) : TGsMono (gCons t u) := fun v σ H Q Q' ⟨x, r, e, q⟩ k => ⟨x, r, e, h1 _ _ _ _ _ q fun σ' H' q' => h2 _ _ _ _ _ q' k⟩
theorem mono_tup {K : PySem.W.Frag} {n : Nat} {u : TGs} (h2 : TGsMono u) : TGMono (gTup K n u) := fun v σ H Q Q' ⟨a, xs, e, hs, hl, q⟩ k => ⟨a, xs, e, hs, hl, h2 _ _ _ _ _ q k⟩
theorem wipes_cons {vs : List Nat} {t : TG} {u : TGs} (m1 : TGMono t) (m2 : TGsMono u) (h1 : Wipes vs t) (h2 : WipesS vs u) : WipesS vs (gCons t u) := fun v σ H Q ⟨x, r, e, q⟩ =>
  ⟨x, r, e, m1 _ _ _ _ _ (h1 _ _ _ _ q) fun σ' H' ⟨e1, q'⟩ => m2 _ _ _ _ _ (h2 _ _ _ _ q') fun σ2 H2 ⟨e2, q2⟩ => ⟨e2.trans e1, q2⟩⟩
theorem wipes_tup {K : PySem.W.Frag} {vs : List Nat} {n : Nat} {u : TGs} (h2 : WipesS vs u) : Wipes vs (gTup K n u) := fun v σ H Q ⟨a, xs, e, hs, hl, q⟩ => ⟨a, xs, e, hs, hl, h2 _ _ _ _ q⟩
/-- an abstract reading of a target's reading -/
def AGr (K : KF) (g : TG) (x : PV) (ρ : Env1) (O : Own) (Ψ : Env1 → Own → Prop) : Prop := ∀ as F σ H v, Wd K O as F H → RS K F as ρ σ → RPV K F as x v → g v σ H (SQ K as F Ψ)
def AGrs (K : KF) (g : TGs) (xs : List PV) (ρ : Env1) (O : Own) (Ψ : Env1 → Own → Prop) : Prop := ∀ as F σ H vs, Wd K O as F H → RS K F as ρ σ → RPs K F as xs vs → g vs σ H (SQ K as F Ψ)
section
variable {K : KF} {x : PV} {xs : List PV} {ρ : Env1} {O : Own} {Ψ : Env1 → Own → Prop}
theorem agr_name {i : Nat} (k : Ψ (ρ.set i (some x)) O) : AGr K (gName i) x ρ O Ψ := fun as F σ H v w r rv => ⟨_, O, as, F, w, Gr.refl _, Same.refl _, r.set rv i, k⟩
theorem agrs_nil (k : Ψ ρ O) : AGrs K gNil [] ρ O Ψ := fun as F σ H vs w r rv => by
  cases rv
  exact ⟨rfl, ρ, O, as, F, w, Gr.refl _, Same.refl _, r, k⟩
theorem agrs_cons {i : Nat} {u : TGs} (h : AGrs K u xs (ρ.set i (some x)) O Ψ) : AGrs K (gCons (gName i) u) (x :: xs) ρ O Ψ := fun as F σ H vs w r rv => by
  cases rv with
  | cons r1 rs => exact ⟨_, _, rfl, h as F _ H _ w (r.set r1 i) rs⟩
theorem agr_tup {n : Nat} {u : TGs} {ds : List PyData} (hl : ds.length = n) (h : AGrs K u (ds.map PV.d) ρ O Ψ) : AGr K (gTup K.K n u) (.d (.tuple ds)) ρ O Ψ := fun as F σ H v w r rv => by
  cases (show Dq F v (.tuple ds) from rv) with
  | tup hs ha => exact ⟨_, _, rfl, SqT.of (w.ex _ _ hs), ha.len.trans hl, h as F σ H _ w r (data_rps ha)⟩
end
section
variable {X : Ax} {e a b c elt tg iter : Expr} {ifs es : List Expr} {ρ : Env1} {O : Own} {Φ : PV → Own → Prop} {as : List Addr} {F H : Hp} {σ : L2.St} {pos p p2 : Pos} {scope : Scope}
abbrev Ax.blk (X : Ax) (s : Shared) (H : Hp) (scope : Scope) (e : Env) (fp : List Addr) : Ax := ⟨X.c.blk s H scope e fp, X.a0, X.F0⟩
def AEb (X : Ax) (scope : Scope) (e : Expr) (ρ : Env1) (O : Own) (Φ : PV → Own → Prop) : Prop := ∀ (s : Shared) (H : Hp) (C : Addr) (cl : List (Str × Addr)) (fp : List Addr), AE (X.blk s H scope (compEnvC scope cl C X.env) fp) e ρ O Φ
@[irreducible] def tTs (X : Cx) (ifs : List Expr) : TT := fun σ H Q => ∀ pins s, Inv X pins σ H s → wpAny (model X.prog X.w) X.A (forIn ifs true fun c r => if r = true then do let ok ← isTrue c X.env (eval c X.env); pure (ForInStep.yield ok) else pure (ForInStep.yield r)) (TP X pins σ Q) X.xe s
def ATs (X : Ax) (ifs : List Expr) (ρ : Env1) (O : Own) (Φ : Bool → Own → Prop) : Prop := ∀ as F σ H, Wd X.k O as F H → RS X.k F as ρ σ → tTs X.c ifs σ H (PQb X.k as F Φ)
theorem pts_tTs : PTs X.c ifs (tTs X.c ifs) := ⟨fun pins s _ _ _ I h => by unfold tTs at h; exact h pins s I⟩
theorem tTs_of {t : TT} {Q : Bool → Hp → Prop} (h : PTs X.c ifs t) (q : t σ H Q) : tTs X.c ifs σ H Q := by unfold tTs; exact fun pins s I => h.run pins s σ H Q I q
theorem tTs_mono {Q Q' : Bool → Hp → Prop} (h : tTs X.c ifs σ H Q) (k : ∀ b H', Q b H' → Q' b H') : tTs X.c ifs σ H Q' := by
  unfold tTs at h ⊢
  exact fun pins s I => thn (h pins s I) fun _ _ ⟨H', I', z⟩ => ⟨H', I', k _ _ z⟩
theorem ats_nil {Φ : Bool → Own → Prop} (k : Φ true O) : ATs X [] ρ O Φ := fun as F σ H w r => tTs_of pts_nil ⟨O, as, F, w, Gr.refl _, Same.refl _, k⟩
theorem ats_one {Φ : Bool → Own → Prop} (h : AT X c ρ O Φ) : ATs X [c] ρ O Φ := fun as F σ H w r => tTs_of (pts_one pt_tT) (h as F σ H w r)
def ATb (X : Ax) (scope : Scope) (ifs : List Expr) (ρ : Env1) (O : Own) (Φ : Bool → Own → Prop) : Prop := ∀ (s : Shared) (H : Hp) (C : Addr) (cl : List (Str × Addr)) (fp : List Addr), ATs (X.blk s H scope (compEnvC scope cl C X.env) fp) ifs ρ O Φ
def teB (X : Ax) (scope : Scope) (e : Expr) : TE := fun σ H Q => ∀ (s0 : Shared) (H0 : Hp) (C : Addr) (cl : List (Str × Addr)) (fp : List Addr), tE (X.blk s0 H0 scope (compEnvC scope cl C X.env) fp).c e σ H Q
def ttB (X : Ax) (scope : Scope) (ifs : List Expr) : TT := fun σ H Q => ∀ (s0 : Shared) (H0 : Hp) (C : Addr) (cl : List (Str × Addr)) (fp : List Addr), tTs (X.blk s0 H0 scope (compEnvC scope cl C X.env) fp).c ifs σ H Q
/-- what is asked of a comprehension -/
def LcA (X : Ax) (scope : Scope) (elt tg iter : Expr) (ifs : List Expr) (g : TG) (vs : List Nat) (ρ : Env1) (O : Own) (Φ : PV → Own → Prop) : Prop := AI X tg iter ρ O fun items G O1 => ∃ I : Nat → List PV → Own → Prop, I 0 [] (O1 ++ [.lst []]) ∧
  (∀ i acc O, I i acc O → O[O1.length]? = some (.lst acc) ∧ G O) ∧
  (∀ i x acc O, items[i]? = some x → I i acc O → AGr X.k g x (wipeA ρ vs) O fun ρ2 O2 => ATb X scope ifs ρ2 O2 fun b O3 =>
    if b = true then AEb X scope elt ρ2 O3 fun y O4 => ∃ acc', O4[O1.length]? = some (.lst acc') ∧ acc'.length < 16000000 ∧ I (i + 1) (acc' ++ [y]) (O4.set O1.length (.lst (acc' ++ [y]))) else I (i + 1) acc O3) ∧
  (∀ acc O', I items.length acc O' → Gh O.length Φ (.o O1.length) O')
theorem lc_reads {g : TG} {vs : List Nat} {Q : VK} (wg : Wipes vs g) (mg : TGMono g) (h : LcA X scope elt tg iter ifs g vs ρ O Φ) (w : Wd X.k O as F H) (r : RS X.k F as ρ σ) (hQ : ∀ v H', PQ X.k as F Φ v H' → Q v H') :
    tLc (tI X.c tg iter) g (ttB X scope ifs) (teB X scope elt) vs σ H Q := by
  refine h as F σ H w r _ fun J H1 items G O1 as1 F1 w1 g1 s1 jok ⟨I, i0, iG, step, done⟩ => ?_
  intro D hD
  have wD := w1.new (ob := .lst []) (h := .lst []) hD ⟨[], rfl, .nil⟩ (fun z => nomatch z)
  have gD : Gr as1 (as1 ++ [D]) := Gr.app _ _
  have atD : (as1 ++ [D])[O1.length]? = some D := w1.at_new D
  refine ⟨fun i m H => m + i = items.length ∧ ∃ acc O2 as2 F2, Wd X.k O2 as2 F2 H ∧ Gr (as1 ++ [D]) as2 ∧ Same F1 F2 ∧ I i acc O2, ⟨items.length, by omega, [], _, _, F1, wD, Gr.refl _, Same.refl _, i0⟩, ?_⟩
  rintro i m H2 ⟨hm, acc, O2, as2, F2, w2, g2, s2, q2⟩
  obtain ⟨hacc, hGO⟩ := iG _ _ _ q2
  obtain ⟨j1, j2⟩ := jok O2 as2 F2 H2 w2 (gD.trans g2) s2 hGO
  by_cases hi : i < items.length
  · obtain ⟨hgo, hy⟩ := j2 i items[i] (List.getElem?_eq_getElem hi)
    refine .inr ⟨hgo, fun H => ∃ acc O2 as2 F2, Wd X.k O2 as2 F2 H ∧ Gr (as1 ++ [D]) as2 ∧ Same F1 F2 ∧ I (i + 1) acc O2, fun H' z => ⟨m - 1, by omega, by omega, z⟩, fun v H' hyl => ?_⟩
    obtain ⟨F3, w3, s3, rv⟩ := hy v H' hyl
    have r3 : RS X.k F3 as2 (wipeA ρ vs) (wipe σ vs) := (r.mono ((s1.trans s2).trans s3) ((g1.trans gD).trans g2)).wipe vs
    refine mg _ _ _ _ _ (wg _ _ _ _ (step i _ acc O2 (List.getElem?_eq_getElem hi) q2 as2 F3 (wipe σ vs) H' v w3 r3 rv)) fun σ4 H4 ⟨hw, ρ4, O4, as4, F4, w4, g4, s4, r4, q4⟩ => ?_
    refine ⟨hw.trans (wipe_wipe σ vs), fun s0 H0 C cl fp => tTs_mono (q4 s0 H0 C cl fp as4 F4 σ4 H4 w4 r4) fun b H5 ⟨O5, as5, F5, w5, g5, s5, q5⟩ => ?_⟩
    cases b with
    | false =>
      simp only [Bool.false_eq_true, if_false] at q5 ⊢
      exact ⟨acc, O5, as5, F5, w5, (g2.trans g4).trans g5, ((s2.trans s3).trans s4).trans s5, q5⟩
    | true =>
      simp only [if_true] at q5 ⊢
      intro s0 H0 C cl fp
      refine (q5 s0 H0 C cl fp).run w5 (r4.mono s5 g5) fun y O6 as6 F6 vy H6 w6 g6 s6 ry r6 ⟨acc', e6, l6, q6⟩ => ?_
      obtain ⟨aD, hD1, fD, hO, hh, vs', e7, rvs⟩ := w6.at_ e6
      have e8 : aD = D := Option.some.inj (hD1.symm.trans ((((g2.trans g4).trans g5).trans g6) _ _ atD))
      subst e8; subst e7
      refine ⟨vs', hh, by rw [← rvs.len, sizeLine_eq]; omega, acc' ++ [y], _, as6, F6, w6.set (ob := .lst (acc' ++ [y])) (h := .lst (vs' ++ [vy])) hD1 fD ⟨_, rfl, Paired.snoc rvs ry⟩ (fun z => nomatch z), ((g2.trans g4).trans g5).trans g6, (((s2.trans s3).trans s4).trans s5).trans s6, q6⟩
  · have e : i = items.length := by omega
    subst e
    refine .inl ⟨j1 _ (Nat.le_refl _), hQ _ _ ?_⟩
    exact (done _ _ q2).sound (by rw [w.len]; exact Nat.le_refl _) w.fa.le w2 ((g1.trans gD).trans g2) (s1.trans s2) ⟨D, g2 _ _ atD, rfl⟩
theorem ae_lc {own : List (Str × Nat)} {g : TG} (hc : X.calm = true) (hN : X.N.Nodup) (ok : BlkOk X.N X.env.scope scope own) (hg : ∀ (s : Shared) (H : Hp) (C : Addr) (cl : List (Str × Addr)) (fp : List Addr), PG (X.blk s H scope (compEnvC scope cl C X.env) fp).c tg g) (wg : Wipes (own.map (·.2)) g) (mg : TGMono g)
    (h : LcA X scope elt tg iter ifs g (own.map (·.2)) ρ O Φ) (hs : ∀ x, foldedSetIterable iter X.env x = pure x := by intro _; rfl) : AE X (.ListComp elt [⟨tg, iter, ifs, 0⟩] scope pos) ρ O Φ := fun as F σ H w r => by
  refine tE_of (pe_lc hc hN pi_tI ok hg (tt := ttB X scope ifs) (te := teB X scope elt) (fun s0 H0 C cl fp => ⟨fun pins s σ H Q I z => pts_tTs.run pins s σ H Q I (z s0 H0 C cl fp)⟩) (fun s0 H0 C cl fp => ⟨fun pins s σ H Q I z => pe_tE.run pins s σ H Q I (z s0 H0 C cl fp)⟩) hs) ?_
  exact lc_reads wg mg h w r fun _ _ z => z
theorem as_setLc {D : AEnds} (i : Nat) {y : Str} {py spos : Pos} {own : List (Str × Nat)} {g : TG} (hc : X.calm = true) (hN : X.N.Nodup) (ok : BlkOk X.N X.env.scope scope own) (hg : ∀ (s : Shared) (H : Hp) (C : Addr) (cl : List (Str × Addr)) (fp : List Addr), PG (X.blk s H scope (compEnvC scope cl C X.env) fp).c tg g) (wg : Wipes (own.map (·.2)) g) (mg : TGMono g)
    (h : LcA X scope elt tg iter ifs g (own.map (·.2)) ρ O fun v O1 => D.nx (ρ.set i (some v)) O1)
    (hsw : swapsWith (.ListComp elt [⟨tg, iter, ifs, 0⟩] scope pos) (some (.Name y py)) spos.line X.env = pure true) (hy : X.N[i]? = some y := by rfl) (hyl : X.env.scope.names.lookup y = some .local := by rfl)
    (hs : ∀ x, foldedSetIterable iter X.env x = pure x := by intro _; rfl) : AS X (.Assign [.Name y py] (.ListComp elt [⟨tg, iter, ifs, 0⟩] scope pos) spos) ρ O D := fun as F σ H w r => by
  refine tS_of (ps_setLc hc hN hy hyl hsw pi_tI ok hg (tt := ttB X scope ifs) (te := teB X scope elt) (fun s0 H0 C cl fp => ⟨fun pins s σ H Q I z => pts_tTs.run pins s σ H Q I (z s0 H0 C cl fp)⟩) (fun s0 H0 C cl fp => ⟨fun pins s σ H Q I z => pe_tE.run pins s σ H Q I (z s0 H0 C cl fp)⟩) hs) ?_
  refine lc_reads wg mg h w r fun v H' ⟨pv, O', as', F', w', g', s', rv, q⟩ => ?_
  exact ⟨_, O', as', F', w', g', s', (r.mono s' g').set rv i, q⟩
end
/-! ### rooms that know that nothing is being shown -/
structure RoomG (k : Nat) (A : Around) : Prop where
  r : Room k A
  g : A.guards = some []
theorem RoomG.mono {j k : Nat} {A : Around} (h : RoomG k A) (hj : j ≤ k) : RoomG j A := ⟨h.r.mono hj, h.g⟩
theorem RoomG.units {k : Nat} {A : Around} (h : RoomG k A) : A.units + 64 < cLine := h.r.units
theorem RoomG.units0 {k : Nat} {A : Around} (h : RoomG k A) : A.units < cLine := h.r.units0
theorem RoomG.un {k : Nat} {A : Around} (h : RoomG k A) : A.units + 16 * k + 200 < cLine := h.r.un
theorem hu65 {k : Nat} {A : Around} {e : Env} (h : RoomG k (A.deeper e)) : A.units + 3 + 65 < cLine := Nat.lt_of_le_of_lt (by show A.units + 3 + 65 ≤ (A.units + 3) + 16 * k + 200; omega) h.un
/-- the def at f keeps the promise sp -/
structure FnA (P : Program) (w : World) (K : PySem.W.Frag) (mg : Str → Option Value) (base : Heap) (CX : CXT) (k : Nat) (f : Addr) (fd : FuncData) (ps : List Str) (sp : Sp) : Prop where
  len : ∀ vs H Q E, sp vs H Q E → vs.length = ps.length
  run : ∀ (A : Around) (outer : List Env) (s : Shared) (H : Hp) (args : Args) (us : List Value) (vs : List V) (Q : VK) (E : XK), RoomG k A → Env0 P w K mg base A outer s H → BindsTo s fd args (ps.zip us) → Vals vs us → sp vs H Q E →
    codeAny (model P w) A (.call (.ref f) args) (CR CX outer P w H s Q E) s
theorem FnA.mono {P : Program} {w : World} {K : PySem.W.Frag} {mg : Str → Option Value} {base : Heap} {CX : CXT} {j k : Nat} {f : Addr} {fd : FuncData} {ps : List Str} {sp : Sp} (F : FnA P w K mg base CX j f fd ps sp) (h : j ≤ k) :
    FnA P w K mg base CX k f fd ps sp := ⟨F.len, fun A outer s H args us vs Q E hr => F.run A outer s H args us vs Q E (hr.mono h)⟩
theorem guards_deeper {A : Around} {e : Env} (h : A.guards = some []) : (A.deeper e).guards = some [] := h
theorem fnA_of {CX : CXT} {P : Program} {w : World} {K : PySem.W.Frag} {mg : Str → Option Value} {base : Heap} {k : Nat} {f : Addr} {name qual : Str} {params : Arguments} {body : List Stmt} {scope : Scope} {dV kV doc pm cdv ct oc : Value} {an od : Option Addr}
    {osl : Array (Option Value)} {N ps : List Str} {sp : Sp} (lk : K.lookup f = some ⟨oc, od, .func (PySem.W.fnOf name qual params body scope dV kV doc pm an cdv ct), osl⟩) (hcd : PySem.W.codeIn K cdv qual = true) (S : FnScope N ps scope)
    (len : ∀ vs H Q E, sp vs H Q E → vs.length = ps.length)
    (hbody : ∀ (A : Around) (outer : List Env) (s : Shared) (H : Hp) (vs : List V) (Q : VK) (E : XK), RoomG k (A.deeper (envOfC qual scope s.heap.objs.size f cdv)) → sp vs H Q E →
      ∃ t, PSs (cxOf CX P w K mg base N qual scope f cdv A outer s H E) body t ∧ t { nx := fun _ H' => Q .non H', rt := Q } (L2.start N vs) H) :
    FnA P w K mg base CX (k + 1) f (PySem.W.fnOf name qual params body scope dV kV doc pm an cdv ct) ps sp := by
  refine ⟨len, fun A outer s H args us vs Q E hr e0 hb r hsp => ?_⟩
  have hl := len _ _ _ _ hsp
  have KX : K.In s.heap := e0.mod.kin.keeps fun b o e => (e0.bs b o e).1
  have lim : s.heap.NoLimit := e0.mod.nolimit.keeps fun b o e => (e0.bs b o e).1
  have hkind : ∀ y ∈ ps.zip us, scope.names.lookup y.1 = some .local ∨ (scope.names.lookup y.1 = some .cell ∧ ((cellsFrom (s.heap.objs.size + 1) scope.names []).lookup y.1).isSome = true) := fun ⟨n, v⟩ hy => by
    rcases S.par n (List.of_mem_zip hy).1 with q | q
    · exact .inl q
    · exact .inr ⟨q, PySem.W.cellsFrom_some _ _ _ (.inl q)⟩
  refine codeAny_call_function hr.r.depth (KX _ _ lk) rfl S.co S.gen rfl (PySem.W.codeRec_of KX hcd) (hb _ _ _ _ ?_)
  refine wpAny_newFunctionEnv_cells S.kind hkind fun env he s1 x => ?_
  subst he
  refine ⟨lim.keeps x.toInCall.keep, codeAny_func ?_⟩
  obtain ⟨t, ht, hq⟩ := hbody A outer s H vs Q E ⟨hr.r.deeper _, guards_deeper hr.g⟩ hsp
  have I : Inv (cxOf CX P w K mg base N qual scope f cdv A outer s H E) [] (L2.start N vs) H s1 := inv_start S hr.r.hd e0 hl r x
  refine wpAny_mono (ht.run [] s1 (L2.start N vs) H _ I hq) (fun fl s' hs => ?_) fun e s' hs => hs
  have fin : ∀ {σ' : L2.St} {H' : Hp} {v : V} {u : Value}, Inv (cxOf CX P w K mg base N qual scope f cdv A outer s H E) [] σ' H' s' → RelV v u → Q v H' → CE outer P w H s Q u s' :=
    fun {σ' H' v u} J rv q => ⟨v, H', J.os, J.bare, J.base, J.hok, rv, q⟩
  cases fl with
  | ret u =>
    obtain ⟨v, σ', H', J, rv, q⟩ := hs
    exact fin J rv q
  | next =>
    obtain ⟨σ', H', J, q⟩ := hs
    exact fin (v := V.non) (u := Value.none) J rfl q
  | brk =>
    obtain ⟨_, _, _, q⟩ := hs
    exact False.elim q
  | cont =>
    obtain ⟨_, _, _, q⟩ := hs
    exact False.elim q
/-! ### promises -/
/-- what holds when an exception has left: Ξ -/
def XQ (K : KF) (as : List Addr) (F : Hp) (Ξ : Ex → Own → Prop) : XK := fun cls d H' => ∃ e O' as' F', Wd K O' as' F' H' ∧ Gr as as' ∧ Same F F' ∧ XRel K F' e cls d ∧ Ξ e O'
/-- an abstract promise: R args O Φ Ξ is what must hold so that the call comes to a value and owned objects of which Φ holds, or raises an exception of which Ξ holds -/
abbrev RX := List PV → Own → (PV → Own → Prop) → (Ex → Own → Prop) → Prop
/-- a promise of a def that raises nothing -/
abbrev RA := List PV → Own → (PV → Own → Prop) → Prop
abbrev up (R : RA) : RX := fun args O Φ _ => R args O Φ
def spA (K : PySem.W.Frag) (mg : Str → Option Value) (R : RX) : Sp := fun vs H Q E => ∃ O as F args Φ Ξ, Wd ⟨K, mg, as, F⟩ O as F H ∧ RPs ⟨K, mg, as, F⟩ F as args vs ∧ R args O Φ Ξ ∧ (∀ v H', PQ ⟨K, mg, as, F⟩ as F Φ v H' → Q v H') ∧ ∀ cls d H', XQ ⟨K, mg, as, F⟩ as F Ξ cls d H' → E cls d H'
theorem rps_app {K : KF} {F : Hp} {as : List Addr} : ∀ {ps : List PV} {vs : List V}, RPs K F as ps vs → ∀ {ps' : List PV} {vs' : List V}, RPs K F as ps' vs' → RPs K F as (ps ++ ps') (vs ++ vs')
  | _, _, .nil, _, _, h => h
  | _, _, .cons h t, _, _, h' => .cons h (rps_app t h')
theorem rps_floor {K : KF} {a1 : List Addr} {F1 : Hp} {F : Hp} {as : List Addr} : ∀ {p : List PV} {v : List V}, RPs K F as p v → RPs ⟨K.K, K.mg, a1, F1⟩ F as p v
  | _, _, .nil => .nil
  | _, _, .cons h t => .cons (rpv_floor h) (rps_floor t)
theorem PQ.lift {K : KF} {as : List Addr} {F : Hp} {a1 : List Addr} {F1 : Hp} {Φ : PV → Own → Prop} {v : V} {H : Hp} (g : Gr K.a0 as) (s : Same K.F0 F) (h : PQ ⟨K.K, K.mg, a1, F1⟩ as F Φ v H) : PQ K as F Φ v H := by
  obtain ⟨pv, O', as', F', w', g', s', r, q⟩ := h
  exact ⟨pv, O', as', F', w'.floor (g.trans g') (s.trans s'), g', s', rpv_floor (K := ⟨K.K, K.mg, a1, F1⟩) (a1 := K.a0) (F1 := K.F0) r, q⟩
theorem XQ.lift {K : KF} {as : List Addr} {F : Hp} {a1 : List Addr} {F1 : Hp} {Ξ : Ex → Own → Prop} {cls : Value} {d : Option Addr} {H : Hp} (g : Gr K.a0 as) (s : Same K.F0 F) (h : XQ ⟨K.K, K.mg, a1, F1⟩ as F Ξ cls d H) : XQ K as F Ξ cls d H := by
  obtain ⟨e, O', as', F', w', g', s', r, q⟩ := h
  exact ⟨e, O', as', F', w'.floor (g.trans g') (s.trans s'), g', s', r, q⟩
/-- what is raised here is taken: Ξ of the exception, the slots, the owned objects -/
def TakesA (X : Ax) (Ξ : Ex → Env1 → Own → Prop) : Prop := Takes X.c fun cls d σ H => ∃ e ρ O as F, Wd X.k O as F H ∧ RS X.k F as ρ σ ∧ XRel X.k F e cls d ∧ Ξ e ρ O
structure Gx where
  P : Program
  w : World
  K : PySem.W.Frag
  mg : Str → Option Value
  base : Heap
abbrev gx (X : Ax) : Gx := ⟨X.c.prog, X.c.w, X.c.K, X.c.mg, X.c.base⟩
abbrev Fn (G : Gx) (k : Nat) (f : Addr) (fd : FuncData) (ps : List Str) (R : RX) : Prop := FnA G.P G.w G.K G.mg G.base (CX G.P G.w) k f fd ps (spA G.K G.mg R)
/-- the def x: its parameters ps, the last of them filled up by dps where they are not written -/
def DefA (G : Gx) (k : Nat) (x : Str) (ps : List Str) (dps : List PV) (R : RX) : Prop :=
  ∃ f fd ds dvs, Fn G k f fd ps R ∧ G.mg x = some (.ref f) ∧ PySem.W.keepIn G.K (.ref f) = true ∧ Binds G.K fd ps ds ∧ Vals dvs ds ∧ ∀ KK F as, RPs KK F as dps dvs
/-- the def x called with n values by place and others by the names ks -/
def KwA (G : Gx) (k : Nat) (x : Str) (ps : List Str) (n : Nat) (ks : List Str) (gP : List PV → List PV → List PV) (R : RX) : Prop :=
  ∃ f fd g gV, Fn G k f fd ps R ∧ G.mg x = some (.ref f) ∧ PySem.W.keepIn G.K (.ref f) = true ∧ KBn G.K fd ps n ks g gV ∧ ∀ KK F as xs vs ys zs, RPs KK F as xs vs → RPs KK F as ys zs → RPs KK F as (gP xs ys) (gV vs zs)
theorem defA {G : Gx} {k : Nat} {x : Str} {ps : List Str} {R : RX} {f : Addr} {fd : FuncData} (h : Fn G k f fd ps R) (hg : G.mg x = some (.ref f)) (hk : PySem.W.keepIn G.K (.ref f) = true) (hb : Binds G.K fd ps []) : DefA G k x ps [] R :=
  ⟨f, fd, [], [], h, hg, hk, hb, .nil, fun _ _ _ => .nil⟩
/-- a weaker promise, with ghosts -/
theorem spA.imp {K : PySem.W.Frag} {mg : Str → Option Value} {R R' : RX} (h : ∀ args O Φ Ξ, R' args O Φ Ξ → R args O (Gh O.length Φ) (fun e O' => Ξ e O')) {vs : List V} {H : Hp} {Q : VK} {E : XK} (q : spA K mg R' vs H Q E) : spA K mg R vs H Q E := by
  obtain ⟨O, as, F, args, Φ, Ξ, w, rs, r, h1, h2⟩ := q
  exact ⟨O, as, F, args, _, _, w, rs, h _ _ _ _ r, fun v H' z => h1 v H' (PQ.gh (by rw [w.len]; exact Nat.le_refl _) w.fa.le z), h2⟩
theorem DefA.imp {G : Gx} {k : Nat} {x : Str} {ps : List Str} {dps : List PV} {R R' : RX} (D : DefA G k x ps dps R) (h : ∀ args O Φ Ξ, R' args O Φ Ξ → R args O (Gh O.length Φ) (fun e O' => Ξ e O')) : DefA G k x ps dps R' := by
  obtain ⟨f, fd, ds, dvs, h1, h2⟩ := D
  exact ⟨f, fd, ds, dvs, ⟨fun vs H Q E q => h1.len vs H Q E (spA.imp h q), fun A outer s H args us vs Q E hr he hb hv hs => h1.run A outer s H args us vs Q E hr he hb hv (spA.imp h hs)⟩, h2⟩
theorem KwA.imp {G : Gx} {k n : Nat} {x : Str} {ps ks : List Str} {gP : List PV → List PV → List PV} {R R' : RX} (D : KwA G k x ps n ks gP R) (h : ∀ args O Φ Ξ, R' args O Φ Ξ → R args O (Gh O.length Φ) (fun e O' => Ξ e O')) : KwA G k x ps n ks gP R' := by
  obtain ⟨f, fd, g, gV, h1, h2⟩ := D
  exact ⟨f, fd, g, gV, ⟨fun vs H Q E q => h1.len vs H Q E (spA.imp h q), fun A outer s H args us vs Q E hr he hb hv hs => h1.run A outer s H args us vs Q E hr he hb hv (spA.imp h hs)⟩, h2⟩
section
variable {X : Ax} {e : Expr} {es : List Expr} {kws : List Keyword} {ρ : Env1} {O : Own} {Φ : PV → Own → Prop} {as : List Addr} {F H : Hp} {σ : L2.St} {pos p p2 kpos : Pos}
/-- the callee runs; what it raises is wished for at the slots -/
theorem runA {k : Nat} {f : Addr} {fd : FuncData} {ps : List Str} {sp : Sp} {ds : List Value} {dvs : List V} {W : WX} {pins : List (Addr × Obj)} {s : Shared} {Q : VK} {us : List Value} {vs : List V} {E : XK} (F : FnA X.c.prog X.c.w X.c.K X.c.mg X.c.base (CX X.c.prog X.c.w) k f fd ps sp) (hr : RoomG k X.c.A) (hb : Binds X.c.K fd ps ds) (hd : Vals dvs ds) (tk : Takes X.c W)
    (hW : ∀ cls d H', E cls d H' → W cls d σ H') (I : Inv X.c pins σ H s) (r : Vals vs us) (h : sp (vs ++ dvs) H Q E) : wpAny (model X.c.prog X.c.w) X.c.A (call (.ref f) us) (L2.EP X.c pins σ Q) X.c.xe s := by
  have r2 : Vals (vs ++ dvs) (us ++ ds) := r.append hd
  have hl : (us ++ ds).length = ps.length := by rw [← r2.length]; exact F.len _ _ _ _ h
  refine wpAny_call (codeAny_mono (F.run X.c.A X.c.stack s H ⟨us, []⟩ (us ++ ds) (vs ++ dvs) Q E hr I.env0 (hb s us I.kIn hl) r2 h) fun r s' hq => ?_)
  cases r with
  | error e => exact tk e s' (XE.of_call I hW hq)
  | ok fl =>
    cases fl with
    | ret u => exact I.after hq
    | next => exact False.elim hq
    | brk => exact False.elim hq
    | cont => exact False.elim hq
theorem pe_callX {k : Nat} {f : Addr} {fd : FuncData} {ps : List Str} {sp : Sp} {ds : List Value} {dvs : List V} {W : WX} {x : Str} {t : TA} (F : FnA X.c.prog X.c.w X.c.K X.c.mg X.c.base (CX X.c.prog X.c.w) k f fd ps sp) (hr : RoomG k X.c.A) (hg : Gl X.c x) (hm : X.c.mg x = some (.ref f)) (hk : PySem.W.keepIn X.c.K (.ref f) = true) (hb : Binds X.c.K fd ps ds) (hd : Vals dvs ds) (tk : Takes X.c W)
    (ha : PA X.c (e :: es) t) (hdb : (x == ("__debug__" : Str)) = false := by decide) (he : starEach (e :: es) X.c.env = (false, eval e X.c.env) :: starEach es X.c.env := by rfl) (hpl : (backTo pos (starEach es X.c.env)).any (·.1) = false := by rfl) :
    PE X.c (.Call (.Name x p) (e :: es) [] pos) (fun σ H Q => t σ H fun vs H1 => ∃ E : XK, sp (vs ++ dvs) H1 Q E ∧ ∀ cls d H', E cls d H' → W cls d σ H') := by
  refine ⟨fun pins s σ H Q I h => ?_⟩
  refine wpAny_Call_Name_kw (ld_glob I hg hm ?_ hdb)
  refine PySem.W.callWith_K (h₀ := X.c.base) I.ok.mod.kin hk (thn (ha.run pos pins s σ H _ I h) fun us s1 ⟨vs, H1, I1, r, E, q, hW⟩ => ⟨I1.kIn, ?_⟩) he hpl
  exact runA F hr hb hd tk hW I1 r q
/-- f(e, ..): Ξ takes what it raises -/
theorem ae_callX {k : Nat} {ps : List Str} {dps : List PV} {R : RX} {x : Str} {Ξ : Ex → Env1 → Own → Prop} (G : DefA (gx X) k x ps dps R) (hr : RoomG k X.A) (tk : TakesA X Ξ)
    (h : AA X (e :: es) ρ O fun args O1 => R (args ++ dps) O1 Φ fun ex O2 => Ξ ex ρ O2) (hg : Gl X.c x := by rfl) (hdb : (x == ("__debug__" : Str)) = false := by decide) (he : starEach (e :: es) X.env = (false, eval e X.env) :: starEach es X.env := by rfl) (hpl : (backTo pos (starEach es X.env)).any (·.1) = false := by rfl) : AE X (.Call (.Name x p) (e :: es) [] pos) ρ O Φ := fun as F σ H w r => by
  obtain ⟨f, fd, ds, dvs, h1, h2, h3, h4, h5, h6⟩ := G
  refine tE_of (pe_callX h1 hr hg h2 h3 h4 h5 tk pa_tA hdb he hpl) ?_
  refine h.run w r fun args O1 as1 F1 vs H1 w1 g1 s1 rx r1 q => ?_
  refine ⟨XQ ⟨X.c.K, X.c.mg, as1, F1⟩ as1 F1 (fun ex O2 => Ξ ex ρ O2), ⟨O1, as1, F1, args ++ dps, Φ, _, w1.floor (Gr.refl _) (Same.refl _), ?_, q, fun v H' z => ?_, fun _ _ _ z => z⟩, fun cls d H' z => ?_⟩
  · exact rps_floor (K := X.k) (rps_app rx (h6 _ F1 as1))
  · exact PQ.back g1 s1 (PQ.lift (K := X.k) w1.fa w1.fF z)
  · obtain ⟨ex, O2, as2, F2, w2, g2, s2, rr, q2⟩ := XQ.lift (K := X.k) w1.fa w1.fF z
    exact ⟨ex, ρ, O2, as2, F2, w2, r1.mono s2 g2, rr, q2⟩
/-- a def that raises nothing -/
theorem AA.mono {Φ Φ' : List PV → Own → Prop} (h : AA X es ρ O Φ) (k : ∀ xs O, Φ xs O → Φ' xs O) : AA X es ρ O Φ' := fun as F σ H w r =>
  tA_mono (h as F σ H w r) fun v H' ⟨pv, O1, as1, F1, w1, g, e1, rp, q⟩ => ⟨pv, O1, as1, F1, w1, g, e1, rp, k _ _ q⟩
theorem takes_none {X : Ax} : TakesA X fun _ _ _ => False := fun u s' ⟨_, _, _, _, _, _, _, _, _, _, _, _, _, _, _, _, z⟩ => by
  obtain ⟨_, _, _, _, _, _, _, _, q⟩ := z
  exact q.elim
theorem ae_callD {k : Nat} {ps : List Str} {dps : List PV} {R : RA} {x : Str} (G : DefA (gx X) k x ps dps (up R)) (hr : RoomG k X.A)
    (h : AA X (e :: es) ρ O fun args O1 => R (args ++ dps) O1 Φ) (hg : Gl X.c x := by rfl) (hdb : (x == ("__debug__" : Str)) = false := by decide) (he : starEach (e :: es) X.env = (false, eval e X.env) :: starEach es X.env := by rfl) (hpl : (backTo pos (starEach es X.env)).any (·.1) = false := by rfl) : AE X (.Call (.Name x p) (e :: es) [] pos) ρ O Φ :=
  ae_callX (Ξ := fun _ _ _ => False) G hr takes_none h hg hdb he hpl
theorem ae_callA {k : Nat} {ps : List Str} {R : RA} {x : Str} (G : DefA (gx X) k x ps [] (up R)) (hr : RoomG k X.A)
    (h : AA X (e :: es) ρ O fun args O1 => R args O1 Φ) (hg : Gl X.c x := by rfl) (hdb : (x == ("__debug__" : Str)) = false := by decide) (he : starEach (e :: es) X.env = (false, eval e X.env) :: starEach es X.env := by rfl) (hpl : (backTo pos (starEach es X.env)).any (·.1) = false := by rfl) : AE X (.Call (.Name x p) (e :: es) [] pos) ρ O Φ :=
  ae_callD G hr (h.mono fun xs O1 q => by rw [List.append_nil]; exact q) hg hdb he hpl
/-- .. what it tells is frozen, or let go -/
theorem ae_callF {k : Nat} {ps : List Str} {R : RA} {x : Str} (G : DefA (gx X) k x ps [] (up R)) (hr : RoomG k X.A)
    (h : AA X (e :: es) ρ O fun args O1 => R args O1 (Gh O1.length Φ)) (hg : Gl X.c x := by rfl) (hdb : (x == ("__debug__" : Str)) = false := by decide) (he : starEach (e :: es) X.env = (false, eval e X.env) :: starEach es X.env := by rfl) (hpl : (backTo pos (starEach es X.env)).any (·.1) = false := by rfl) : AE X (.Call (.Name x p) (e :: es) [] pos) ρ O Φ :=
  ae_callA (R := fun args O Φ => R args O (Gh O.length Φ)) (G.imp fun _ _ _ _ h => h) hr h hg hdb he hpl
end
section
variable {P : Program} {w : World} {K : PySem.W.Frag} {mg : Str → Option Value} {base : Heap}
/-- where the body of a def stands -/
abbrev axN (P : Program) (w : World) (K : PySem.W.Frag) (mg : Str → Option Value) (base : Heap) (N : List Str) (qual : Str) (scope : Scope) (f : Addr) (cdv : Value) (A : Around) (outer : List Env) (s : Shared) (H : Hp) (E : XK) (as : List Addr) (F : Hp) : Ax :=
  ⟨(cxOf (CX P w) P w K mg base N qual scope f cdv A outer s H E).nox, as, F⟩
theorem okA {x qual : Str} {st : Stmt} {f : Addr} {fd : FuncData} {N ps : List Str} {k : Nat} {R : RX} (F : Fun K x qual st f fd) (S : FnScope N ps (defScope st)) (len : ∀ args O Φ Ξ, R args O Φ Ξ → args.length = ps.length)
    (hbody : ∀ (cdv : Value) (A : Around) (outer : List Env) (s : Shared) (H : Hp) (E : XK) (as0 : List Addr) (F0 : Hp) (args : List PV) (O : Own) (Φ : PV → Own → Prop) (Ξ : Ex → Own → Prop), RoomG k (A.deeper (envOfC qual (defScope st) s.heap.objs.size f cdv)) → R args O Φ Ξ →
      ASs (axN P w K mg base N qual (defScope st) f cdv A outer s H E as0 F0) (defBody st) (args.map some ++ List.replicate (N.length - args.length) none) O { nx := fun _ O' => Gh O.length Φ (.d .none) O', rt := Gh O.length Φ }) : Fn ⟨P, w, K, mg, base⟩ (k + 1) f fd ps R := by
  obtain ⟨oc, od, kV, doc, pm, an, cdv, ct, osl, rfl, lk, hcd⟩ := F.ex
  refine fnA_of lk hcd S (fun vs H Q E h => ?_) fun A outer s H vs Q E hr h => ?_
  · obtain ⟨O, as, F, args, Φ, Ξ, w, rs, q, _⟩ := h
    rw [← rs.len]
    exact len _ _ _ _ q
  · obtain ⟨O, as, F, args, Φ, Ξ, w0, rs, q, hQ, hE⟩ := h
    have z := hbody cdv A outer s H E as F args O Φ Ξ hr q as F (L2.start N vs) H w0 (by unfold L2.start; rw [← rs.len]; exact RS.start _ rs)
    refine ⟨_, (pss_tSs (X := (axN P w K mg base N qual (defScope st) f cdv A outer s H E as F).c)).nox, ?_⟩
    refine tSs_le z ⟨fun σ' H' y => ?_, fun v H' y => ?_, fun _ _ y => ?_, fun _ _ y => ?_⟩
    · obtain ⟨ρ', O', as', F', w', g', s', r', q'⟩ := y
      exact hQ _ _ (q'.sound (by rw [w0.len]; exact Nat.le_refl _) w0.fa.le w' g' s' .non)
    · exact hQ _ _ (PQ.gh (by rw [w0.len]; exact Nat.le_refl _) w0.fa.le y)
    · obtain ⟨_, _, _, _, _, _, _, _, z⟩ := y
      exact z
    · obtain ⟨_, _, _, _, _, _, _, _, z⟩ := y
      exact z
/-- ghosts at a raise: what is owned beyond b is let go -/
inductive XGh (b : Nat) (Ξ : Ex → Own → Prop) : Ex → Own → Prop
  | keep {e : Ex} {O : Own} : Ξ e O → XGh b Ξ e O
  | drop {e : Ex} {O : Own} (m : Nat) : b ≤ m → (O.take m).all (AO.below m) = true → XGh b Ξ e (O.take m) → XGh b Ξ e O
theorem XGh.sound {K : KF} {as0 : List Addr} {F0 : Hp} {b : Nat} {Ξ : Ex → Own → Prop} (hb : as0.length ≤ b) (hf : K.a0.length ≤ as0.length) {e : Ex} {O : Own} (h : XGh b Ξ e O) : ∀ {as : List Addr} {F H : Hp} {cls : Value} {d : Option Addr}, Wd K O as F H → Gr as0 as → Same F0 F → XRel K F e cls d → XQ K as0 F0 Ξ cls d H := by
  induction h with
  | keep q => intro as F H cls d w g s r; exact ⟨_, _, as, F, w, g, s, r, q⟩
  | drop m e1 e3 _ ih =>
    intro as F H cls d w g s r
    exact ih (w.take (Nat.le_trans hf (Nat.le_trans hb e1)) e3) (g.take (Nat.le_trans hb e1)) s r
end
end Al
namespace Al
open PySem PySem.Spec L2
open PyProof.Rows hiding St
section
variable {X : Ax} {O : Own} {Φ : PV → Own → Prop} {i j : Int} {x y : Str}
abbrev pI (i : Int) : PV := .d (.int i)
abbrev pB (i : Bool) : PV := .d (.bool i)
abbrev pS (i : Str) : PV := .d (.str i)
abbrev pN : PV := .d .none
abbrev pL (xs : List PyData) : PV := .d (.list xs)
abbrev pT (xs : List PyData) : PV := .d (.tuple xs)
theorem b_I0 {f : Value → Value → Sem Value} {g : Int → Int → V} {pg : PV} (h : OpR X.c f (rI0 g)) (k : Φ pg O) (hv : ∀ F as, RPV X.k F as pg (g i j)) : BinA X f (pI i) (pI j) O Φ := bina_of h fun as F H vx vy w rx ry => by
  cases (show Dq F vx (.int i) from rx)
  cases (show Dq F vy (.int j) from ry)
  exact ⟨i, j, rfl, rfl, PQ.mk w (hv _ _) k⟩
theorem b_I {f : Value → Value → Sem Value} {C : Int → Int → Prop} {g : Int → Int → V} {pg : PV} (h : OpR X.c f (rI C g)) (hC : C i j) (k : Φ pg O) (hv : ∀ F as, RPV X.k F as pg (g i j)) : BinA X f (pI i) (pI j) O Φ := bina_of h fun as F H vx vy w rx ry => by
  cases (show Dq F vx (.int i) from rx)
  cases (show Dq F vy (.int j) from ry)
  exact ⟨i, j, rfl, rfl, hC, PQ.mk w (hv _ _) k⟩
theorem b_add (k : Φ (pI (i + j)) O) : BinA X (binaryOp .Add) (pI i) (pI j) O Φ := b_I0 op_add k (fun _ _ => Dq.int _)
theorem b_sub (k : Φ (pI (i - j)) O) : BinA X (binaryOp .Sub) (pI i) (pI j) O Φ := b_I0 op_sub k (fun _ _ => Dq.int _)
theorem b_mul (hC : CMul i j) (k : Φ (pI (i * j)) O) : BinA X (binaryOp .Mult) (pI i) (pI j) O Φ := b_I op_mul hC k (fun _ _ => Dq.int _)
theorem b_fdiv (hC : CDiv i j) (k : Φ (pI (i / j)) O) : BinA X (binaryOp .FloorDiv) (pI i) (pI j) O Φ := b_I op_fdiv hC k (fun _ _ => Dq.int _)
theorem b_mod (hC : 0 < j) (k : Φ (pI (i % j)) O) : BinA X (binaryOp .Mod) (pI i) (pI j) O Φ := b_I op_mod hC k (fun _ _ => Dq.int _)
theorem b_pow (hC : CPow i j) (k : Φ (pI (i ^ j.toNat)) O) : BinA X (binaryOp .Pow) (pI i) (pI j) O Φ := b_I op_pow hC k (fun _ _ => Dq.int _)
theorem b_lt (k : Φ (pB (decide (i < j))) O) : BinA X (compareOp .Lt) (pI i) (pI j) O Φ := b_I0 op_lt k (fun _ _ => Dq.bl _)
theorem b_le (k : Φ (pB (decide (i ≤ j))) O) : BinA X (compareOp .LtE) (pI i) (pI j) O Φ := b_I0 op_le k (fun _ _ => Dq.bl _)
theorem b_gt (k : Φ (pB (decide (j < i))) O) : BinA X (compareOp .Gt) (pI i) (pI j) O Φ := b_I0 op_gt k (fun _ _ => Dq.bl _)
theorem b_ge (k : Φ (pB (decide (j ≤ i))) O) : BinA X (compareOp .GtE) (pI i) (pI j) O Φ := b_I0 op_ge k (fun _ _ => Dq.bl _)
theorem ib_add (k : Φ (pI (i + j)) O) : BinA X (inplaceOp .Add) (pI i) (pI j) O Φ := b_I0 iop_add k (fun _ _ => Dq.int _)
/-- == of data -/
theorem b_eq {a b : PyData} (hu : X.A.units + 64 < cLine) (ha : SeqAt.shaped a = true) (hb : SeqAt.shaped b = true) (k : Φ (pB (PyData.eqv a b)) O) : BinA X (compareOp .Eq) (.d a) (.d b) O Φ := bina_of (op_eqD hu) fun as F H vx vy w rx ry =>
  ⟨a, b, (Dq_same w.ex rx).dp (sh_cl ha), (Dq_same w.ex ry).dp (sh_cl hb), ha, hb, PQ.mk w (show RPV X.k F as (pB _) _ from Dq.bl _) k⟩
theorem b_ne {a b : PyData} (hu : X.A.units + 64 < cLine) (ha : SeqAt.shaped a = true) (hb : SeqAt.shaped b = true) (k : Φ (pB (!PyData.eqv a b)) O) : BinA X (compareOp .NotEq) (.d a) (.d b) O Φ := bina_of (op_neD hu) fun as F H vx vy w rx ry =>
  ⟨a, b, (Dq_same w.ex rx).dp (sh_cl ha), (Dq_same w.ex ry).dp (sh_cl hb), ha, hb, PQ.mk w (show RPV X.k F as (pB _) _ from Dq.bl _) k⟩
theorem b_eqI (k : Φ (pB (decide (i = j))) O) : BinA X (compareOp .Eq) (pI i) (pI j) O Φ := bina_of op_eq fun as F H vx vy w rx ry => by
  cases (show Dq F vx (.int i) from rx)
  cases (show Dq F vy (.int j) from ry)
  have e : decide (V.int i = V.int j) = decide (i = j) := by simp
  exact ⟨rfl, by rw [e]; exact PQ.mk w (show RPV X.k F as (pB _) _ from Dq.bl _) k⟩
theorem b_neI (k : Φ (pB (!decide (i = j))) O) : BinA X (compareOp .NotEq) (pI i) (pI j) O Φ := bina_of op_ne fun as F H vx vy w rx ry => by
  cases (show Dq F vx (.int i) from rx)
  cases (show Dq F vy (.int j) from ry)
  have e : decide (V.int i = V.int j) = decide (i = j) := by simp
  exact ⟨rfl, by rw [e]; exact PQ.mk w (show RPV X.k F as (pB _) _ from Dq.bl _) k⟩
theorem b_eqS (k : Φ (pB (decide (x = y))) O) : BinA X (compareOp .Eq) (pS x) (pS y) O Φ := bina_of op_eq fun as F H vx vy w rx ry => by
  cases (show Dq F vx (.str x) from rx)
  cases (show Dq F vy (.str y) from ry)
  have e : decide (V.str x = V.str y) = decide (x = y) := by simp
  exact ⟨rfl, by rw [e]; exact PQ.mk w (show RPV X.k F as (pB _) _ from Dq.bl _) k⟩
theorem b_neS (k : Φ (pB (!decide (x = y))) O) : BinA X (compareOp .NotEq) (pS x) (pS y) O Φ := bina_of op_ne fun as F H vx vy w rx ry => by
  cases (show Dq F vx (.str x) from rx)
  cases (show Dq F vy (.str y) from ry)
  have e : decide (V.str x = V.str y) = decide (x = y) := by simp
  exact ⟨rfl, by rw [e]; exact PQ.mk w (show RPV X.k F as (pB _) _ from Dq.bl _) k⟩
theorem b_eqB {a b : Bool} (k : Φ (pB (decide (a = b))) O) : BinA X (compareOp .Eq) (pB a) (pB b) O Φ := bina_of op_eq fun as F H vx vy w rx ry => by
  cases (show Dq F vx (.bool a) from rx)
  cases (show Dq F vy (.bool b) from ry)
  have e : decide (V.bl a = V.bl b) = decide (a = b) := by simp
  exact ⟨rfl, by rw [e]; exact PQ.mk w (show RPV X.k F as (pB _) _ from Dq.bl _) k⟩
theorem b_leS (k : Φ (pB (!decide (y.cps.toList < x.cps.toList))) O) : BinA X (compareOp .LtE) (pS x) (pS y) O Φ := bina_of op_le_str fun as F H vx vy w rx ry => by
  cases (show Dq F vx (.str x) from rx)
  cases (show Dq F vy (.str y) from ry)
  exact ⟨x, y, rfl, rfl, PQ.mk w (show RPV X.k F as (pB _) _ from Dq.bl _) k⟩
theorem b_ltS (k : Φ (pB (decide (x.cps.toList < y.cps.toList))) O) : BinA X (compareOp .Lt) (pS x) (pS y) O Φ := bina_of op_lt_str fun as F H vx vy w rx ry => by
  cases (show Dq F vx (.str x) from rx)
  cases (show Dq F vy (.str y) from ry)
  exact ⟨x, y, rfl, rfl, PQ.mk w (show RPV X.k F as (pB _) _ from Dq.bl _) k⟩
/-- one sign in a text -/
theorem b_inSign {c : Nat} (k : Φ (pB (decide (c ∈ y.cps.toList))) O) : BinA X (compareOp .In) (pS ⟨#[c]⟩) (pS y) O Φ := bina_of op_in_sign fun as F H vx vy w rx ry => by
  cases (show Dq F vx (.str ⟨#[c]⟩) from rx)
  cases (show Dq F vy (.str y) from ry)
  exact ⟨c, y, rfl, rfl, PQ.mk w (show RPV X.k F as (pB _) _ from Dq.bl _) k⟩
/-- list + list, of data -/
theorem b_addL {xs ys : List PyData} (hz : xs.length + ys.length ≤ sizeLine) (k : Φ (pL (xs ++ ys)) O) : BinA X (binaryOp .Add) (pL xs) (pL ys) O Φ := bina_of op_cat fun as F H vx vy w rx ry => by
  cases (show Dq F vx (.list xs) from rx) with
  | lst hs ha =>
    cases (show Dq F vy (.list ys) from ry) with
    | lst hs2 ha2 =>
      refine ⟨_, _, _, _, rfl, rfl, w.rd hs, w.rd hs2, by rw [ha.len, ha2.len]; exact hz, fun p hp => ?_⟩
      obtain ⟨w2, s2⟩ := w.data hp
      exact ⟨pL (xs ++ ys), O, as, _, w2, Gr.refl _, s2, Dq.lst upd_same (DqAll_same s2 (ha.app ha2)), k⟩
/-- x in xs, a list of data -/
theorem b_inL {a : PyData} {xs : List PyData} (hu : X.A.units + 65 < cLine) (ha : SeqAt.shaped a = true) (hb : SeqAt.shaped (.list xs) = true) (k : Φ (pB (xs.any fun y => PyData.eqv y a)) O) : BinA X (compareOp .In) (.d a) (pL xs) O Φ := bina_of (op_inD hu) fun as F H vx vy w rx ry =>
  ⟨a, xs, (Dq_same w.ex rx).dp (sh_cl ha), (Dq_same w.ex ry).dp (sh_cl hb), ha, hb, PQ.mk w (show RPV X.k F as (pB _) _ from Dq.bl _) k⟩
/-! ### subscripts -/
theorem DqAll.atI {F : Hp} {vs : List V} {xs : List PyData} (h : DqAll F vs xs) {i : Int} {x : PyData} (e : atI xs i = some x) : ∃ v, L2.atI vs i = some v ∧ Dq F v x := by
  unfold L2.atI at e ⊢
  rw [h.len]
  cases hn : ixN xs.length i with
  | none => rw [hn] at e; cases e
  | some j =>
    rw [hn] at e
    exact h.get e
theorem ix_L {xs : List PyData} {a : PyData} (h : atI xs i = some a) (k : Φ (.d a) O) : IxA X (pL xs) (pI i) O Φ := ixa_of ix_list fun as F H vx vy w rx ry => by
  cases (show Dq F vy (.int i) from ry)
  cases (show Dq F vx (.list xs) from rx) with
  | lst hs ha =>
    obtain ⟨v, h1, h2⟩ := ha.atI h
    exact ⟨_, _, i, v, rfl, rfl, .inl (.inl (w.rd hs)), h1, PQ.mk w (show RPV X.k F as (.d a) v from h2) k⟩
theorem ix_T {xs : List PyData} {a : PyData} (h : atI xs i = some a) (k : Φ (.d a) O) : IxA X (pT xs) (pI i) O Φ := ixa_of ix_tup fun as F H vx vy w rx ry => by
  cases (show Dq F vy (.int i) from ry)
  cases (show Dq F vx (.tuple xs) from rx) with
  | tup hs ha =>
    obtain ⟨v, h1, h2⟩ := ha.atI h
    exact ⟨_, _, i, v, rfl, rfl, .inl (.inl (w.rd hs)), h1, PQ.mk w (show RPV X.k F as (.d a) v from h2) k⟩
theorem ix_S {c : Nat} (hz : x.length ≤ sizeLine) (h : atI x.cps.toList i = some c) (k : Φ (pS ⟨#[c]⟩) O) : IxA X (pS x) (pI i) O Φ := ixa_of ix_str fun as F H vx vy w rx ry => by
  cases (show Dq F vy (.int i) from ry)
  cases (show Dq F vx (.str x) from rx)
  exact ⟨x, i, c, rfl, rfl, hz, h, PQ.mk w (show RPV X.k F as (pS _) _ from Dq.str _) k⟩
theorem RPs.get {K : KF} {F : Hp} {as : List Addr} : ∀ {ps : List PV} {vs : List V} {i : Nat} {x : PV}, RPs K F as ps vs → ps[i]? = some x → ∃ v, vs[i]? = some v ∧ RPV K F as x v
  | _, _, _, _, .nil, e => by simp at e
  | _, _, 0, _, .cons h _, e => by cases e; exact ⟨_, rfl, h⟩
  | _, _, i + 1, _, .cons _ t, e => RPs.get (i := i) t e
theorem RPs.atI {K : KF} {F : Hp} {as : List Addr} {ps : List PV} {vs : List V} (h : RPs K F as ps vs) {i : Int} {x : PV} (e : atI ps i = some x) : ∃ v, L2.atI vs i = some v ∧ RPV K F as x v := by
  unfold L2.atI at e ⊢
  rw [← h.len]
  cases hn : ixN ps.length i with
  | none => rw [hn] at e; cases e
  | some j =>
    rw [hn] at e
    exact h.get e
/-- an owned list's item -/
theorem ix_O {n : Nat} {ps : List PV} {a : PV} (hO : O[n]? = some (.lst ps)) (h : atI ps i = some a) (k : Φ a O) : IxA X (.o n) (pI i) O Φ := ixa_of ix_list fun as F H vx vy w rx ry => by
  cases (show Dq F vy (.int i) from ry)
  obtain ⟨p, hp, rfl⟩ := rx
  obtain ⟨p', h1, fn, ho, hh, vs, rfl, rvs⟩ := w.at_ hO
  have e6 : p' = p := Option.some.inj (h1.symm.trans hp)
  subst e6
  obtain ⟨v, h2, h3⟩ := rvs.atI h
  exact ⟨_, _, i, v, rfl, rfl, SqL.of hh, h2, PQ.mk w h3 k⟩
/-! ### slices -/
def cutI (xs : List Int) (lo hi : Option Int) : List Int := (xs.drop (HT.sIx xs.length 0 lo)).take (HT.sIx xs.length xs.length hi - HT.sIx xs.length 0 lo)
theorem ints_dq {F : Hp} : ∀ ns : List Int, DqAll F (ns.map V.int) (ns.map PyData.int)
  | [] => .nil
  | n :: ns => .cons (.int n) (ints_dq ns)
theorem slS_mono : ∀ v i j H Q Q', rSlS v i j H Q → (∀ z H', Q z H' → Q' z H') → rSlS v i j H Q' := fun _ _ _ _ _ _ ⟨z, e, h, q⟩ k => ⟨z, e, h, k _ _ q⟩
theorem slL_mono {K : PySem.W.Frag} : ∀ v i j H Q Q', rSlL K v i j H Q → (∀ z H', Q z H' → Q' z H') → rSlL K v i j H Q' := fun _ _ _ _ _ _ ⟨a, xs, e, h, q⟩ k => ⟨a, xs, e, h, fun p hp => k _ _ (q p hp)⟩
theorem sl_S {lo hi : Option Int} (hz : x.length ≤ sizeLine) (k : Φ (pS (cutS x lo hi)) O) : ∀ as F H vx, Wd X.k O as F H → RPV X.k F as (pS x) vx → rSlS vx lo hi H (PQ X.k as F Φ) := fun as F H vx w rx => by
  cases (show Dq F vx (.str x) from rx)
  exact ⟨x, rfl, hz, PQ.mk w (show RPV X.k F as (pS _) _ from Dq.str _) k⟩
theorem cutV_ints (ns : List Int) (lo hi : Option Int) : cutV (ns.map V.int) lo hi = (cutI ns lo hi).map V.int := by
  unfold cutV cutI
  rw [List.length_map, List.map_take, List.map_drop]
theorem sl_s {ns : List Int} {lo hi : Option Int} (k : Φ (pL ((cutI ns lo hi).map PyData.int)) O) : ∀ as F H vx, Wd X.k O as F H → RPV X.k F as (.s ns) vx → rSlL X.K vx lo hi H (PQ X.k as F Φ) := fun as F H vx w rx => by
  obtain ⟨a, rfl, hs⟩ := rx
  refine ⟨_, _, rfl, w.ex.seq hs, fun p hp => ?_⟩
  obtain ⟨w2, s2⟩ := w.data (h := .lst (cutV (ns.map V.int) lo hi)) hp
  refine ⟨pL ((cutI ns lo hi).map PyData.int), O, as, _, w2, Gr.refl _, s2, Dq.lst upd_same ?_, k⟩
  rw [cutV_ints]
  exact ints_dq _
/-! ### calls of built-ins -/
theorem c_lenS (hz : x.length ≤ sizeLine) (k : Φ (pI (x.length : Nat)) O) : CallA X (.builtin "len") [pS x] O Φ := calla_of call_len_str fun as F H vs w rx => by
  obtain ⟨v, rfl, r⟩ := rps1 rx
  cases (show Dq F v (.str x) from r)
  exact ⟨x, rfl, hz, PQ.mk w (show RPV X.k F as (pI _) _ from Dq.int _) k⟩
theorem c_lenL {xs : List PyData} (k : Φ (pI (xs.length : Nat)) O) : CallA X (.builtin "len") [pL xs] O Φ := calla_of call_len_seq fun as F H vs w rx => by
  obtain ⟨v, rfl, r⟩ := rps1 rx
  cases (show Dq F v (.list xs) from r) with
  | lst hs ha => exact ⟨_, _, rfl, .inl (SqL.of (w.rd hs)), by rw [ha.len]; exact PQ.mk w (show RPV X.k F as (pI _) _ from Dq.int _) k⟩
theorem c_lenT {xs : List PyData} (k : Φ (pI (xs.length : Nat)) O) : CallA X (.builtin "len") [pT xs] O Φ := calla_of call_len_seq fun as F H vs w rx => by
  obtain ⟨v, rfl, r⟩ := rps1 rx
  cases (show Dq F v (.tuple xs) from r) with
  | tup hs ha => exact ⟨_, _, rfl, .inr (SqT.of (w.rd hs)), by rw [ha.len]; exact PQ.mk w (show RPV X.k F as (pI _) _ from Dq.int _) k⟩
theorem c_lens {ns : List Int} (k : Φ (pI (ns.length : Nat)) O) : CallA X (.builtin "len") [.s ns] O Φ := calla_of call_len_seq fun as F H vs w rx => by
  obtain ⟨v, rfl, a, rfl, hs⟩ := rps1 rx
  exact ⟨_, _, rfl, .inl (w.ex.seq hs), by rw [List.length_map]; exact PQ.mk w (show RPV X.k F as (pI _) _ from Dq.int _) k⟩
theorem c_lenO {n : Nat} {ps : List PV} (hO : O[n]? = some (.lst ps)) (k : Φ (pI (ps.length : Nat)) O) : CallA X (.builtin "len") [.o n] O Φ := calla_of call_len_seq fun as F H vs w rx => by
  obtain ⟨v, rfl, p, hp, rfl⟩ := rps1 rx
  obtain ⟨p', h1, fn, ho, hh, vs, rfl, rvs⟩ := w.at_ hO
  have e6 : p' = p := Option.some.inj (h1.symm.trans hp)
  subst e6
  exact ⟨_, _, rfl, .inl (SqL.of hh), by rw [← rvs.len]; exact PQ.mk w (show RPV X.k F as (pI _) _ from Dq.int _) k⟩
theorem c_max2 (hc : X.calm = true) (k : Φ (pI (if j > i then j else i)) O) : CallA X (.builtin "max") [pI i, pI j] O Φ := calla_of (call_max2 hc) fun as F H vs w rx => by
  obtain ⟨v, u, rfl, r1, r2⟩ := rps2 rx
  cases (show Dq F v (.int i) from r1)
  cases (show Dq F u (.int j) from r2)
  exact ⟨i, j, rfl, PQ.mk w (show RPV X.k F as (pI _) _ from Dq.int _) k⟩
theorem c_min2 (hc : X.calm = true) (k : Φ (pI (if j < i then j else i)) O) : CallA X (.builtin "min") [pI i, pI j] O Φ := calla_of (call_min2 hc) fun as F H vs w rx => by
  obtain ⟨v, u, rfl, r1, r2⟩ := rps2 rx
  cases (show Dq F v (.int i) from r1)
  cases (show Dq F u (.int j) from r2)
  exact ⟨i, j, rfl, PQ.mk w (show RPV X.k F as (pI _) _ from Dq.int _) k⟩
theorem c_intB {b : Bool} (k : Φ (pI (if b then 1 else 0)) O) : CallA X (.type "int") [pB b] O Φ := calla_of call_int1 fun as F H vs w rx => by
  obtain ⟨v, rfl, r1⟩ := rps1 rx
  cases (show Dq F v (.bool b) from r1)
  exact .inr ⟨b, rfl, PQ.mk w (show RPV X.k F as (pI _) _ from Dq.int _) k⟩
theorem intsV_dq {F : Hp} : ∀ {bs : List Int} {vs : List V}, DqAll F vs (bs.map PyData.int) → vs = bs.map V.int
  | [], _, h => by cases h; rfl
  | b :: bs, _, h => by
    cases h with
    | cons h t => cases h; rw [intsV_dq t]; rfl
theorem strsV_dq {F : Hp} : ∀ {bs : List Str} {vs : List V}, DqAll F vs (bs.map PyData.str) → vs = bs.map V.str
  | [], _, h => by cases h; rfl
  | b :: bs, _, h => by
    cases h with
    | cons h t => cases h; rw [strsV_dq t]; rfl
theorem c_sum {ns : List Int} (hc : X.calm = true) (k : Φ (pI ns.sum) O) : CallA X (.builtin "sum") [pL (ns.map PyData.int)] O Φ := calla_of (cr_sum hc) fun as F H vs w rx => by
  obtain ⟨v, rfl, r1⟩ := rps1 rx
  cases (show Dq F v (.list (ns.map PyData.int)) from r1) with
  | lst hs ha =>
    rw [intsV_dq ha] at hs
    exact ⟨_, ns, rfl, SqL.of (w.rd hs), PQ.mk w (show RPV X.k F as (pI _) _ from Dq.int _) k⟩
/-- the class's name of data -/
def tyD : PyData → String
  | .none => "NoneType"
  | .bool _ => "bool"
  | .int _ => "int"
  | .str _ => "str"
  | .list _ => "list"
  | .tuple _ => "tuple"
  | .dict _ => "dict"
/-- isinstance(x, T) of data -/
theorem c_isi {a : PyData} {T : String} {b : Bool} (hk : kitB (tyD a) T = some b) (k : Φ (pB b) O) : CallA X (.builtin "isinstance") [.d a, .v (.ty T)] O Φ := calla_of call_isi fun as F H vs w rx => by
  obtain ⟨v, u, rfl, r1, r2⟩ := rps2 rx
  cases (show u = V.ty T from r2)
  refine ⟨v, .ty T, .type (tyD a), .type T, b, rfl, .ty T, ?_, kit_ty hk, PQ.mk w (show RPV X.k F as (pB _) _ from Dq.bl _) k⟩
  cases (show Dq F v a from r1) with
  | non => exact .base .non
  | bl b => exact .base (.bl b)
  | int b => exact .base (.int b)
  | str b => exact .base (.str b)
  | lst hs ha => exact .base (.lst (w.rd hs))
  | tup hs ha => exact .base (.tup (w.rd hs))
  | dct hs => exact .base (.dK (w.rd hs))
def tyO : AO → String
  | .lst _ => "list"
  | .tup _ => "tuple"
  | .dK _ => "dict"
  | .dT _ => "dict"
  | .ins _ _ => ""
  | .gone => ""
  | .tbl _ _ => ""
  | .xo _ => ""
theorem c_isiO {n : Nat} {ob : AO} {T : String} {b : Bool} (hO : O[n]? = some ob) (hg : ob ≠ .gone) (hi : ∀ c fs, ob ≠ .ins c fs) (hk : kitB (tyO ob) T = some b) (k : Φ (pB b) O) (ht : ∀ P q, ob ≠ .tbl P q := by intro _ _ e; cases e) (hx : ∀ R, ob ≠ .xo R := by intro _ e; cases e) : CallA X (.builtin "isinstance") [.o n, .v (.ty T)] O Φ := calla_of call_isi fun as F H vs w rx => by
  obtain ⟨v, u, rfl, r1, r2⟩ := rps2 rx
  cases (show u = V.ty T from r2)
  obtain ⟨p, hp, rfl⟩ := r1
  obtain ⟨p', h1, h2⟩ := w.at_ hO
  have e6 : p' = p := Option.some.inj (h1.symm.trans hp)
  subst e6
  refine ⟨_, .ty T, .type (tyO ob), .type T, b, rfl, .ty T, ?_, kit_ty hk, PQ.mk w (show RPV X.k F as (pB _) _ from Dq.bl _) k⟩
  cases ob with
  | gone => exact absurd rfl hg
  | tbl P q => exact absurd rfl (ht P q)
  | xo R => exact absurd rfl (hx R)
  | ins c fs => exact absurd rfl (hi c fs)
  | lst _ => obtain ⟨_, ho, hh, vs, rfl, _⟩ := h2; exact .base (.lst hh)
  | tup _ => obtain ⟨_, ho, hh, vs, rfl, _⟩ := h2; exact .base (.tup hh)
  | dK _ => obtain ⟨_, ho, hh, vs, rfl, _⟩ := h2; exact .base (.dK hh)
  | dT _ => obtain ⟨_, ho, hh, vs, rfl, _⟩ := h2; exact .base (.dT hh)
/-! ### methods -/
theorem ty_S : TyA X "str" (pS x) O := fun as F H v w r => by
  cases (show Dq F v (.str x) from r)
  exact rfl
theorem ty_O {n : Nat} {ps : List PV} (hO : O[n]? = some (.lst ps)) : TyA X "list" (.o n) O := fun as F H v w r => by
  obtain ⟨p, hp, rfl⟩ := r
  obtain ⟨p', h1, fn, ho, hh, vs, rfl, rvs⟩ := w.at_ hO
  have e6 : p' = p := Option.some.inj (h1.symm.trans hp)
  subst e6
  exact .inl ⟨rfl, _, SqL.of hh⟩
theorem m_join {ys : List Str} (hz : (ys.map (·.length)).sum + ys.length * x.length ≤ 16777216) (k : Φ (pS (Txt.join x ys)) O) : MtA X "str.join" (pS x) [pL (ys.map PyData.str)] O Φ := mta_of mt_join fun as F H v vs w rx rxs => by
  cases (show Dq F v (.str x) from rx)
  obtain ⟨v, rfl, r1⟩ := rps1 rxs
  cases (show Dq F v (.list (ys.map PyData.str)) from r1) with
  | lst hs ha =>
    rw [strsV_dq ha] at hs
    exact ⟨x, _, ys, rfl, rfl, .inl (SqL.of (w.rd hs)), hz, PQ.mk w (show RPV X.k F as (pS _) _ from Dq.str _) k⟩
theorem m_append {n : Nat} {ps : List PV} {a : PV} (hO : O[n]? = some (.lst ps)) (hl : ps.length < 16000000) (k : Φ pN (O.set n (.lst (ps ++ [a])))) : MtA X "list.append" (.o n) [a] O Φ := mta_of mt_append fun as F H v vs w rx rxs => by
  obtain ⟨p, hp, rfl⟩ := rx
  obtain ⟨u, rfl, r1⟩ := rps1 rxs
  obtain ⟨p', h1, fn, ho, hh, vs, rfl, rvs⟩ := w.at_ hO
  have e6 : p' = p := Option.some.inj (h1.symm.trans hp)
  subst e6
  refine ⟨_, vs, u, rfl, rfl, hh, by rw [← rvs.len, sizeLine_eq]; omega, ?_⟩
  exact ⟨pN, _, as, F, w.set (ob := .lst (ps ++ [a])) (h := .lst (vs ++ [u])) h1 fn ⟨_, rfl, Paired.snoc rvs r1⟩ (fun z => nomatch z), Gr.refl _, Same.refl _, .non, k⟩
end
end Al
namespace Al
open PySem PySem.Spec L2
open PyProof.Rows hiding St
/-! ### the hand of a law -/
structure HandOk (a s : Int) : Prop where
  a0 : 0 ≤ a
  s0 : 0 ≤ s
  s1 : s < 2147483647
/-- a hand: the owned list [a, s] -/
abbrev hnd (a s : Int) : AO := .lst [pI a, pI s]
/-- draw(hand, n): some number below n, the hand otherwise -/
def rDraw : RA := fun args O Φ => ∃ h a s n, args = [.o h, pI n] ∧ O[h]? = some (hnd a s) ∧ HandOk a s ∧ 0 < n ∧ n < 1073741824 ∧ ∀ r a' s', HandOk a' s' → 0 ≤ r → r < n → Φ (pI r) (O.set h (hnd a' s'))
/-- hand(script, k) -/
def rHand : RA := fun args O Φ => ∃ ns k, args = [.s ns, pI k] ∧ 0 ≤ k ∧ k < 16000000 ∧ ∀ a s, HandOk a s → Φ (.o O.length) (O ++ [hnd a s])
end Al
namespace Al
open PySem PySem.Spec L2
open PyProof.Rows hiding St
theorem isB_mk {Φ : Bool → Own → Prop} {b : Bool} {O : Own} (h : Φ b O) : IsB Φ (pB b) O := ⟨b, rfl, h⟩
theorem ifd {c A B : Prop} [Decidable c] (h1 : c → A) (h2 : ¬ c → B) : if decide c = true then A else B := by
  by_cases h : c
  · rw [if_pos (decide_eq_true h)]; exact h1 h
  · rw [if_neg (by rw [decide_eq_false h]; exact Bool.false_ne_true)]; exact h2 h
theorem ifnd {c A B : Prop} [Decidable c] (h1 : ¬ c → A) (h2 : c → B) : if (!decide c) = true then A else B := by
  by_cases h : c
  · rw [decide_eq_true h]; exact iteF (h2 h)
  · rw [decide_eq_false h]; exact iteT (h1 h)
theorem ifb {c : Bool} {A B : Prop} (h1 : c = true → A) (h2 : c = false → B) : if c = true then A else B := by
  cases c with
  | true => exact iteT (h1 rfl)
  | false => exact iteF (h2 rfl)
theorem ifnb {c : Bool} {A B : Prop} (h1 : c = false → A) (h2 : c = true → B) : if (!c) = true then A else B := by
  cases c with
  | true => exact iteF (h2 rfl)
  | false => exact iteT (h1 rfl)
end Al
namespace Al
open PySem PySem.Spec L2
open PyProof.Rows hiding St
/-! ### comprehensions, the forms one uses -/
/-- no owned object speaks of a number beyond -/
def ClO (O : Own) : Prop := O.all (AO.below O.length) = true
theorem pv_frz_below {n : Nat} {x : PyData} : ∀ {p : PV}, p.blw n = true → p.frz n x = p
  | .d _, _ => rfl
  | .v _, _ => rfl
  | .s _, _ => rfl
  | .fn _, _ => rfl
  | .x _, _ => rfl
  | .p y z, h => by
    have h' := Bool.and_eq_true_iff.mp h
    show PV.p (y.frz n x) (z.frz n x) = PV.p y z
    rw [pv_frz_below h'.1, pv_frz_below h'.2]
  | .o j, h => by
    have : j < n := of_decide_eq_true h
    show (if j = n then PV.d x else PV.o j) = PV.o j
    rw [if_neg (by omega)]
theorem pvs_frz_below {n : Nat} {x : PyData} : ∀ {p : List PV}, p.all (PV.blw n) = true → p.map (PV.frz n x) = p
  | [], _ => rfl
  | p :: ps, h => by
    rw [List.all_cons, Bool.and_eq_true] at h
    rw [List.map_cons, pv_frz_below h.1, pvs_frz_below h.2]
theorem kv_frz_below {κ : Type} {n : Nat} {x : PyData} : ∀ {p : List (κ × PV)}, (p.all fun q => q.2.blw n) = true → (p.map fun q => (q.1, q.2.frz n x)) = p
  | [], _ => rfl
  | p :: ps, h => by
    rw [List.all_cons, Bool.and_eq_true] at h
    rw [List.map_cons, pv_frz_below h.1, kv_frz_below h.2]
theorem ao_frz_below {n : Nat} {x : PyData} : ∀ {p : AO}, p.below n = true → p.frz n x = p
  | .lst _, h => congrArg AO.lst (pvs_frz_below h)
  | .tup _, h => congrArg AO.tup (pvs_frz_below h)
  | .dK _, h => congrArg AO.dK (kv_frz_below h)
  | .dT _, h => congrArg AO.dT (kv_frz_below h)
  | .ins c _, h => congrArg (AO.ins c) (kv_frz_below h)
  | .gone, _ => rfl
  | .tbl _ _, _ => rfl
  | .xo _, _ => rfl
theorem own_frz_below {n : Nat} {x : PyData} : ∀ {O : Own}, O.all (AO.below n) = true → O.map (AO.frz n x) = O
  | [], _ => rfl
  | p :: ps, h => by
    rw [List.all_cons, Bool.and_eq_true] at h
    rw [List.map_cons, ao_frz_below h.1, own_frz_below h.2]
/-- the owned list n, of data, is frozen and told, all behind it let go -/
theorem gh_list {b n : Nat} {Φ : PV → Own → Prop} {O : Own} {ds : List PyData} (hO : O[n]? = some (.lst (ds.map PV.d))) (hb : (O.take n).all (AO.below n) = true) (hle : b ≤ n) (k : Φ (pL ds) (O.take n)) : Gh b Φ (.o n) O := by
  have e : (frzO n (.list ds) O).take n = O.take n := by
    unfold frzO
    rw [← List.map_take, List.take_set_of_le (Nat.le_refl _), own_frz_below hb]
  refine .frL n hO ?_
  have e2 : (PV.o n).frz n (.list ds) = pL ds := by
    show (if n = n then PV.d (.list ds) else PV.o n) = _
    rw [if_pos rfl]
  rw [e2]
  refine .drop n hle rfl (by rw [e]; exact hb) ?_
  rw [e]
  exact .keep k
theorem gh_list0 {b : Nat} {Φ : PV → Own → Prop} {O : Own} {ds : List PyData} (hb : ClO O) (hle : b ≤ O.length) (k : Φ (pL ds) O) : Gh b Φ (.o O.length) (O ++ [.lst (ds.map PV.d)]) := by
  have e : (O ++ [AO.lst (ds.map PV.d)]).take O.length = O := by simp
  exact gh_list (ds := ds) (by simp) (by rw [e]; exact hb) hle (by rw [e]; exact k)
section
variable {X : Ax} {e a b c elt tg iter : Expr} {ifs es : List Expr} {ρ : Env1} {O : Own} {Φ : PV → Own → Prop} {pos p p2 : Pos} {scope : Scope} {g : TG} {vs : List Nat}
/-- each item, kept or not, gives what f says, and changes nothing -/
theorem lc_pureG {α : Type} (mg : TGMono g) (h : AI X tg iter ρ O fun items G O1 => ∃ (src : List α) (inj : α → PV) (f : α → Option PyData), items = src.map inj ∧ src.length ≤ 15999999 ∧ (∀ acc, G (O1 ++ [.lst acc])) ∧
      (∀ x ∈ src, ∀ acc : List PyData, AGr X.k g (inj x) (wipeA ρ vs) (O1 ++ [.lst (acc.map PV.d)]) fun ρ2 O2 => ATb X scope ifs ρ2 O2 fun b O3 => if b = true then AEb X scope elt ρ2 O3 fun y O4 => O4 = O1 ++ [.lst (acc.map PV.d)] ∧ ∃ d, f x = some d ∧ y = .d d else O3 = O1 ++ [.lst (acc.map PV.d)] ∧ f x = none) ∧
      Gh O.length Φ (.o O1.length) (O1 ++ [.lst ((src.filterMap f).map PV.d)])) : LcA X scope elt tg iter ifs g vs ρ O Φ := fun as F σ H w r R k => by
  refine h as F σ H w r R fun J H1 items G O1 as1 F1 w1 g1 s1 jok ⟨src, inj, f, hit, hlen, hG, step, done⟩ => ?_
  subst hit
  refine k J H1 _ G O1 as1 F1 w1 g1 s1 jok ⟨fun i acc O2 => O2 = O1 ++ [.lst acc] ∧ acc = ((src.take i).filterMap f).map PV.d, ⟨rfl, rfl⟩, ?_, ?_, ?_⟩
  · rintro i acc O2 ⟨rfl, _⟩
    exact ⟨by simp, hG acc⟩
  · rintro i x acc O2 hx ⟨rfl, hacc⟩
    rw [List.getElem?_map, Option.map_eq_some_iff] at hx
    obtain ⟨x, hx, rfl⟩ := hx
    have hm : x ∈ src := List.mem_of_getElem? hx
    have hi : i < src.length := (List.getElem?_eq_some_iff.mp hx).1
    have et : src.take (i + 1) = src.take i ++ [x] := by rw [List.take_add_one, hx]; rfl
    have hl : acc.length < 16000000 := by
      rw [hacc, List.length_map]
      have h1 := List.length_filterMap_le f (src.take i)
      rw [List.length_take] at h1
      omega
    intro as2 F2 σ2 H2 v w2 r2 rv
    have z := step x hm ((src.take i).filterMap f)
    rw [← hacc] at z
    replace z := z as2 F2 σ2 H2 v w2 r2 rv
    refine mg _ _ _ _ _ z fun σ' H' ⟨ρ3, O3, as', F', w', g', s', r', q⟩ => ⟨ρ3, O3, as', F', w', g', s', r', ?_⟩
    intro s0 H0 C cl fp as3 F3 σ3 H3 w3 r3
    refine tTs_mono (q s0 H0 C cl fp as3 F3 σ3 H3 w3 r3) fun b H5 ⟨O5, as5, F5, w5, g5, s5, q5⟩ => ⟨O5, as5, F5, w5, g5, s5, ?_⟩
    cases b with
    | false =>
      simp only [Bool.false_eq_true, if_false] at q5 ⊢
      exact ⟨q5.1, by rw [et, List.filterMap_append, hacc]; simp [q5.2]⟩
    | true =>
      simp only [if_true] at q5 ⊢
      intro s0 H0 C cl fp
      refine (q5 s0 H0 C cl fp).mono fun y O6 ⟨e6, d, e7, e8⟩ => ?_
      subst e6 e8
      refine ⟨acc, by simp, hl, by simp, ?_⟩
      rw [et, List.filterMap_append, hacc]
      simp [e7]
  · rintro acc O2 ⟨rfl, hacc⟩
    rw [List.length_map, List.take_length] at hacc
    subst hacc
    exact done
/-- .. the list frozen -/
theorem lc_pure {α : Type} (mg : TGMono g) (h : AI X tg iter ρ O fun items G O1 => O.length ≤ O1.length ∧ ClO O1 ∧ ∃ (src : List α) (inj : α → PV) (f : α → Option PyData), items = src.map inj ∧ src.length ≤ 15999999 ∧ (∀ acc, G (O1 ++ [.lst acc])) ∧
      (∀ x ∈ src, ∀ acc : List PyData, AGr X.k g (inj x) (wipeA ρ vs) (O1 ++ [.lst (acc.map PV.d)]) fun ρ2 O2 => ATb X scope ifs ρ2 O2 fun b O3 => if b = true then AEb X scope elt ρ2 O3 fun y O4 => O4 = O1 ++ [.lst (acc.map PV.d)] ∧ ∃ d, f x = some d ∧ y = .d d else O3 = O1 ++ [.lst (acc.map PV.d)] ∧ f x = none) ∧
      Φ (pL (src.filterMap f)) O1) : LcA X scope elt tg iter ifs g vs ρ O Φ := by
  refine lc_pureG (α := α) mg ?_
  intro as F σ H w r R k
  refine h as F σ H w r R fun J H1 items G O1 as1 F1 w1 g1 s1 jok ⟨hle, hcl, src, inj, f, hit, hlen, hG, step, done⟩ => ?_
  exact k J H1 items G O1 as1 F1 w1 g1 s1 jok ⟨src, inj, f, hit, hlen, hG, step, gh_list0 hcl hle done⟩
/-- .. every item kept -/
theorem lc_map {α : Type} (mg : TGMono g) (h : AI X tg iter ρ O fun items G O1 => O.length ≤ O1.length ∧ ClO O1 ∧ ∃ (src : List α) (inj : α → PV) (f : α → PyData), items = src.map inj ∧ src.length ≤ 15999999 ∧ (∀ acc, G (O1 ++ [.lst acc])) ∧
      (∀ x ∈ src, ∀ acc : List PyData, AGr X.k g (inj x) (wipeA ρ vs) (O1 ++ [.lst (acc.map PV.d)]) fun ρ2 O2 => AEb X scope elt ρ2 O2 fun y O4 => O4 = O1 ++ [.lst (acc.map PV.d)] ∧ y = .d (f x)) ∧
      Φ (pL (src.map f)) O1) : LcA X scope elt tg iter [] g vs ρ O Φ := by
  refine lc_pure (α := α) mg ?_
  intro as F σ H w r R k
  refine h as F σ H w r R fun J H1 items G O1 as1 F1 w1 g1 s1 jok ⟨hle, hcl, src, inj, f, hit, hlen, hG, step, done⟩ => ?_
  refine k J H1 items G O1 as1 F1 w1 g1 s1 jok ⟨hle, hcl, src, inj, fun x => some (f x), hit, hlen, hG, fun x hx acc => ?_, ?_⟩
  · intro as2 F2 σ2 H2 v w2 r2 rv
    refine mg _ _ _ _ _ (step x hx acc as2 F2 σ2 H2 v w2 r2 rv) fun σ' H' ⟨ρ3, O3, as', F', w', g', s', r', q⟩ => ⟨ρ3, O3, as', F', w', g', s', r', ?_⟩
    intro s0 H0 C cl fp
    refine ats_nil (iteT ?_)
    intro s0 H0 C cl fp
    exact (q s0 H0 C cl fp).mono fun y O4 ⟨e1, e2⟩ => ⟨e1, f x, rfl, e2⟩
  · rw [show (fun x => some (f x)) = some ∘ f from rfl, List.filterMap_eq_map]
    exact done
/-- .. every item kept -/
theorem lc_mapG {α : Type} (mg : TGMono g) (h : AI X tg iter ρ O fun items G O1 => ∃ (src : List α) (inj : α → PV) (f : α → PyData), items = src.map inj ∧ src.length ≤ 15999999 ∧ (∀ acc, G (O1 ++ [.lst acc])) ∧
      (∀ x ∈ src, ∀ acc : List PyData, AGr X.k g (inj x) (wipeA ρ vs) (O1 ++ [.lst (acc.map PV.d)]) fun ρ2 O2 => AEb X scope elt ρ2 O2 fun y O4 => O4 = O1 ++ [.lst (acc.map PV.d)] ∧ y = .d (f x)) ∧
      Gh O.length Φ (.o O1.length) (O1 ++ [.lst ((src.map f).map PV.d)])) : LcA X scope elt tg iter [] g vs ρ O Φ := by
  refine lc_pureG (α := α) mg ?_
  intro as F σ H w r R k
  refine h as F σ H w r R fun J H1 items G O1 as1 F1 w1 g1 s1 jok ⟨src, inj, f, hit, hlen, hG, step, done⟩ => ?_
  refine k J H1 items G O1 as1 F1 w1 g1 s1 jok ⟨src, inj, fun x => some (f x), hit, hlen, hG, fun x hx acc => ?_, ?_⟩
  · intro as2 F2 σ2 H2 v w2 r2 rv
    refine mg _ _ _ _ _ (step x hx acc as2 F2 σ2 H2 v w2 r2 rv) fun σ' H' ⟨ρ3, O3, as', F', w', g', s', r', q⟩ => ⟨ρ3, O3, as', F', w', g', s', r', ?_⟩
    intro s0 H0 C cl fp
    refine ats_nil (iteT ?_)
    intro s0 H0 C cl fp
    exact (q s0 H0 C cl fp).mono fun y O4 ⟨e1, e2⟩ => ⟨e1, f x, rfl, e2⟩
  · rw [show (fun x => some (f x)) = some ∘ f from rfl, List.filterMap_eq_map]
    exact done
/-- each item, kept or not, gives data of which Pd holds; the owned objects keep J -/
theorem lc_inv (mg : TGMono g) (h : AI X tg iter ρ O fun items G O1 => O.length ≤ O1.length ∧ items.length ≤ 15999999 ∧ ∃ (J : Own → Prop) (Pd : PV → PyData → Prop), J O1 ∧ (∀ O', J O' → O'.length = O1.length ∧ ClO O' ∧ ∀ acc, G (O' ++ [.lst acc])) ∧
      (∀ x ∈ items, ∀ O' (acc : List PyData), J O' → AGr X.k g x (wipeA ρ vs) (O' ++ [.lst (acc.map PV.d)]) fun ρ2 O2 => ATb X scope ifs ρ2 O2 fun b O3 => if b = true then AEb X scope elt ρ2 O3 fun y O4 => ∃ O'' d, O4 = O'' ++ [.lst (acc.map PV.d)] ∧ J O'' ∧ y = .d d ∧ Pd x d else ∃ O'', O3 = O'' ++ [.lst (acc.map PV.d)] ∧ J O'') ∧
      (∀ O' ds, J O' → (∀ d ∈ ds, ∃ x ∈ items, Pd x d) → ds.length ≤ items.length → Φ (pL ds) O')) : LcA X scope elt tg iter ifs g vs ρ O Φ := fun as F σ H w r R k => by
  refine h as F σ H w r R fun J H1 items G O1 as1 F1 w1 g1 s1 jok ⟨hle, hlen, Jo, Pd, j0, jc, step, done⟩ => ?_
  refine k J H1 items G O1 as1 F1 w1 g1 s1 jok ⟨fun i acc O2 => ∃ O' ds, O2 = O' ++ [.lst acc] ∧ Jo O' ∧ acc = ds.map PV.d ∧ (∀ d ∈ ds, ∃ x ∈ items, Pd x d) ∧ ds.length ≤ i, ⟨O1, [], rfl, j0, rfl, fun _ z => (nomatch z), Nat.le_refl _⟩, ?_, ?_, ?_⟩
  · rintro i acc O2 ⟨O', ds, rfl, hj, _⟩
    obtain ⟨h1, h2, h3⟩ := jc O' hj
    exact ⟨by rw [← h1]; simp, h3 acc⟩
  · rintro i x acc O2 hx ⟨O', ds, rfl, hj, hacc, hds, hdl⟩
    have hm : x ∈ items := List.mem_of_getElem? hx
    have hi : i < items.length := (List.getElem?_eq_some_iff.mp hx).1
    have hl : acc.length < 16000000 := by
      rw [hacc, List.length_map]
      omega
    intro as2 F2 σ2 H2 v w2 r2 rv
    have z := step x hm O' ds hj
    rw [← hacc] at z
    replace z := z as2 F2 σ2 H2 v w2 r2 rv
    refine mg _ _ _ _ _ z fun σ' H' ⟨ρ3, O3, as', F', w', g', s', r', q⟩ => ⟨ρ3, O3, as', F', w', g', s', r', ?_⟩
    intro s0 H0 C cl fp as3 F3 σ3 H3 w3 r3
    refine tTs_mono (q s0 H0 C cl fp as3 F3 σ3 H3 w3 r3) fun b H5 ⟨O5, as5, F5, w5, g5, s5, q5⟩ => ⟨O5, as5, F5, w5, g5, s5, ?_⟩
    cases b with
    | false =>
      simp only [Bool.false_eq_true, if_false] at q5 ⊢
      obtain ⟨O'', e5, j5⟩ := q5
      exact ⟨O'', ds, e5, j5, hacc, hds, by omega⟩
    | true =>
      simp only [if_true] at q5 ⊢
      intro s0 H0 C cl fp
      refine (q5 s0 H0 C cl fp).mono fun y O6 ⟨O'', d, e6, j6, e8, hd⟩ => ?_
      subst e6 e8
      have hlen2 : O''.length = O1.length := (jc O'' j6).1
      refine ⟨acc, by rw [← hlen2]; simp, hl, O'', ds ++ [d], by rw [← hlen2]; simp, j6, by rw [hacc]; simp, ?_, by simp; omega⟩
      intro d' hd'
      rcases List.mem_append.mp hd' with h1 | h1
      · exact hds d' h1
      · have : d' = d := by simpa using h1
        subst this
        exact ⟨x, hm, hd⟩
  · rintro acc O2 ⟨O', ds, rfl, hj, hacc, hds, hdl⟩
    obtain ⟨h1, h2, _⟩ := jc O' hj
    subst hacc
    rw [← h1]
    exact gh_list0 h2 (by omega) (done O' ds hj hds hdl)
theorem ao_some {Φ : Option Int → Own → Prop} (h : AE X e ρ O fun x O1 => ∃ i, x = pI i ∧ Φ (some i) O1) : AO1 X (some e) ρ O Φ := h
theorem ao_none {Φ : Option Int → Own → Prop} (h : Φ none O) : AO1 X none ρ O Φ := h
/-- a built-in class by its name -/
theorem ae_ty {x : Str} {T : String} (hm : X.c.mg x = none) (hv : bootBuiltins x = some (.type T)) (k : Φ (.v (.ty T)) O) (hg : Gl X.c x := by rfl) (hn : x ≠ "__name__" := by decide) (hd : (x == ("__debug__" : Str)) = false := by decide) : AE X (.Name x pos) ρ O Φ := ae_bltn (v := .ty T) hg hm hv rfl k hn hd
@[reducible] def isStr : PyData → Bool
  | .str _ => true
  | _ => false
theorem c_isStr {a : PyData} (k : Φ (pB (isStr a)) O) : CallA X (.builtin "isinstance") [.d a, .v (.ty "str")] O Φ := by
  refine c_isi ?_ k
  cases a with
  | none => show kitB "NoneType" "str" = some false; decide +kernel
  | bool _ => show kitB "bool" "str" = some false; decide +kernel
  | int _ => show kitB "int" "str" = some false; decide +kernel
  | str _ => show kitB "str" "str" = some true; decide +kernel
  | list _ => show kitB "list" "str" = some false; decide +kernel
  | tuple _ => show kitB "tuple" "str" = some false; decide +kernel
  | dict _ => show kitB "dict" "str" = some false; decide +kernel
@[reducible] def isInt : PyData → Bool
  | .int _ => true
  | .bool _ => true
  | _ => false
theorem c_isInt {a : PyData} (k : Φ (pB (isInt a)) O) : CallA X (.builtin "isinstance") [.d a, .v (.ty "int")] O Φ := by
  refine c_isi ?_ k
  cases a with
  | none => show kitB "NoneType" "int" = some false; decide +kernel
  | bool _ => show kitB "bool" "int" = some true; decide +kernel
  | int _ => show kitB "int" "int" = some true; decide +kernel
  | str _ => show kitB "str" "int" = some false; decide +kernel
  | list _ => show kitB "list" "int" = some false; decide +kernel
  | tuple _ => show kitB "tuple" "int" = some false; decide +kernel
  | dict _ => show kitB "dict" "int" = some false; decide +kernel
@[reducible] def isBool : PyData → Bool
  | .bool _ => true
  | _ => false
theorem c_isBool {a : PyData} (k : Φ (pB (isBool a)) O) : CallA X (.builtin "isinstance") [.d a, .v (.ty "bool")] O Φ := by
  refine c_isi ?_ k
  cases a with
  | none => show kitB "NoneType" "bool" = some false; decide +kernel
  | bool _ => show kitB "bool" "bool" = some true; decide +kernel
  | int _ => show kitB "int" "bool" = some false; decide +kernel
  | str _ => show kitB "str" "bool" = some false; decide +kernel
  | list _ => show kitB "list" "bool" = some false; decide +kernel
  | tuple _ => show kitB "tuple" "bool" = some false; decide +kernel
  | dict _ => show kitB "dict" "bool" = some false; decide +kernel
@[reducible] def isList : PyData → Bool
  | .list _ => true
  | _ => false
theorem c_isList {a : PyData} (k : Φ (pB (isList a)) O) : CallA X (.builtin "isinstance") [.d a, .v (.ty "list")] O Φ := by
  refine c_isi ?_ k
  cases a with
  | none => show kitB "NoneType" "list" = some false; decide +kernel
  | bool _ => show kitB "bool" "list" = some false; decide +kernel
  | int _ => show kitB "int" "list" = some false; decide +kernel
  | str _ => show kitB "str" "list" = some false; decide +kernel
  | list _ => show kitB "list" "list" = some true; decide +kernel
  | tuple _ => show kitB "tuple" "list" = some false; decide +kernel
  | dict _ => show kitB "dict" "list" = some false; decide +kernel
@[reducible] def isTup : PyData → Bool
  | .tuple _ => true
  | _ => false
theorem c_isTup {a : PyData} (k : Φ (pB (isTup a)) O) : CallA X (.builtin "isinstance") [.d a, .v (.ty "tuple")] O Φ := by
  refine c_isi ?_ k
  cases a with
  | none => show kitB "NoneType" "tuple" = some false; decide +kernel
  | bool _ => show kitB "bool" "tuple" = some false; decide +kernel
  | int _ => show kitB "int" "tuple" = some false; decide +kernel
  | str _ => show kitB "str" "tuple" = some false; decide +kernel
  | list _ => show kitB "list" "tuple" = some false; decide +kernel
  | tuple _ => show kitB "tuple" "tuple" = some true; decide +kernel
  | dict _ => show kitB "dict" "tuple" = some false; decide +kernel
theorem ae_globI {x : Str} {i : Int} {t : Tok} (hm : X.c.mg x = some (.int i t)) (k : Φ (pI i) O) (hg : Gl X.c x := by rfl) (hd : (x == ("__debug__" : Str)) = false := by decide) : AE X (.Name x pos) ρ O Φ := ae_glob (v := .int i) (pv := pI i) hg hm ⟨_, rfl⟩ (fun _ _ => Dq.int i) k hd
theorem ae_globS {x : Str} {i : Str} {t : Tok} (hm : X.c.mg x = some (.str i t)) (k : Φ (pS i) O) (hg : Gl X.c x := by rfl) (hd : (x == ("__debug__" : Str)) = false := by decide) : AE X (.Name x pos) ρ O Φ := ae_glob (v := .str i) (pv := pS i) hg hm ⟨_, rfl⟩ (fun _ _ => Dq.str i) k hd
end
end Al
namespace Al
open PySem PySem.Spec L2
open PyProof.Rows hiding St
theorem AS.mono {X : Ax} {st : Stmt} {ρ : Env1} {O : Own} {D D' : AEnds} (h : AS X st ρ O D) (h1 : ∀ ρ O, D.nx ρ O → D'.nx ρ O) (h2 : ∀ v O, D.rt v O → D'.rt v O) (h3 : ∀ ρ O, D.bk ρ O → D'.bk ρ O) (h4 : ∀ ρ O, D.ct ρ O → D'.ct ρ O) : AS X st ρ O D' := fun as F σ H w r =>
  tS_le (h as F σ H w r) ⟨fun _ _ ⟨ρ, O', as', F', w', g', s', r', q⟩ => ⟨ρ, O', as', F', w', g', s', r', h1 _ _ q⟩, fun _ _ ⟨ρ, O', as', F', w', g', s', r', q⟩ => ⟨ρ, O', as', F', w', g', s', r', h2 _ _ q⟩,
    fun _ _ ⟨ρ, O', as', F', w', g', s', r', q⟩ => ⟨ρ, O', as', F', w', g', s', r', h3 _ _ q⟩, fun _ _ ⟨ρ, O', as', F', w', g', s', r', q⟩ => ⟨ρ, O', as', F', w', g', s', r', h4 _ _ q⟩⟩
theorem sz {n : Nat} (h : n ≤ 16000000) : n ≤ sizeLine := by rw [sizeLine_eq]; omega
theorem draw_at {O : Own} {h : Nat} {a s n : Int} {Φ : PV → Own → Prop} (hh : h < O.length) (ok : HandOk a s) (n0 : 0 < n) (n1 : n < 1073741824) (k : ∀ r a' s', HandOk a' s' → 0 ≤ r → r < n → Φ (pI r) (O.set h (hnd a' s'))) : rDraw [.o h, pI n] (O.set h (hnd a s)) Φ :=
  ⟨h, a, s, n, rfl, List.getElem?_set_self hh, ok, n0, n1, fun r a' s' o1 r0 r1 => by rw [List.set_set]; exact k r a' s' o1 r0 r1⟩
theorem set_same {O : Own} {h : Nat} {x : AO} (e : O[h]? = some x) : O.set h x = O := by
  obtain ⟨h1, h2⟩ := List.getElem?_eq_some_iff.mp e
  rw [← h2]
  exact List.set_getElem_self h1
theorem cl_set {O : Own} {h : Nat} {x : AO} (c : ClO O) (hx : x.below O.length = true) : ClO (O.set h x) := by
  unfold ClO at c ⊢
  rw [List.length_set, List.all_eq_true] at *
  intro y hy
  rcases List.mem_or_eq_of_mem_set hy with h1 | h1
  · exact c y h1
  · rw [h1]; exact hx
theorem cl_hnd {O : Own} {h : Nat} {a s : Int} (c : ClO O) : ClO (O.set h (hnd a s)) := cl_set c rfl
theorem pv_below_mono {m n : Nat} (hmn : m ≤ n) : ∀ {p : PV}, p.blw m = true → p.blw n = true
  | .o i, h => decide_eq_true (Nat.lt_of_lt_of_le (of_decide_eq_true h) hmn)
  | .p x y, h => by
    have h' := Bool.and_eq_true_iff.mp h
    exact Bool.and_eq_true_iff.mpr ⟨pv_below_mono hmn h'.1, pv_below_mono hmn h'.2⟩
  | .d _, _ => rfl
  | .v _, _ => rfl
  | .s _, _ => rfl
  | .fn _, _ => rfl
  | .x _, _ => rfl
theorem ao_below_mono {m n : Nat} (hmn : m ≤ n) {p : AO} (h : p.below m = true) : p.below n = true := by
  cases p with
  | lst xs => exact List.all_eq_true.mpr fun y hy => pv_below_mono hmn (List.all_eq_true.mp h y hy)
  | tup xs => exact List.all_eq_true.mpr fun y hy => pv_below_mono hmn (List.all_eq_true.mp h y hy)
  | dK kvs => exact List.all_eq_true.mpr fun y hy => pv_below_mono hmn (List.all_eq_true.mp h y hy)
  | dT kvs => exact List.all_eq_true.mpr fun y hy => pv_below_mono hmn (List.all_eq_true.mp h y hy)
  | ins c fs => exact List.all_eq_true.mpr fun y hy => pv_below_mono hmn (List.all_eq_true.mp h y hy)
  | gone => rfl
  | tbl _ _ => rfl
  | xo _ => rfl
theorem cl_app {O : Own} {x : AO} (c : ClO O) (hx : x.below (O.length + 1) = true) : ClO (O ++ [x]) := by
  unfold ClO at c ⊢
  rw [List.length_append, List.length_singleton, List.all_append, Bool.and_eq_true]
  refine ⟨List.all_eq_true.mpr fun y hy => ao_below_mono (by omega) (List.all_eq_true.mp c y hy), ?_⟩
  rw [List.all_cons, hx]; rfl
/-- data that are texts -/
theorem strs_of {P : Str → Prop} : ∀ {ds : List PyData}, (∀ d ∈ ds, ∃ z, d = .str z ∧ P z) → ∃ ys : List Str, ds = ys.map PyData.str ∧ ∀ y ∈ ys, P y
  | [], _ => ⟨[], rfl, fun _ h => (nomatch h)⟩
  | d :: ds, h => by
    obtain ⟨z, rfl, hz⟩ := h d (by simp)
    obtain ⟨ys, rfl, hy⟩ := strs_of (ds := ds) fun d hd => h d (List.mem_cons_of_mem _ hd)
    refine ⟨z :: ys, rfl, fun y hm => ?_⟩
    rcases List.mem_cons.mp hm with rfl | hm
    · exact hz
    · exact hy y hm
/-- a text's codes -/
abbrev cds (z : Str) : List Nat := z.cps.toList
theorem cds_len (z : Str) : (cds z).length = z.length := by unfold cds; rw [Array.length_toList]; rfl
theorem str_ext {x y : Str} (h : cds x = cds y) : x = y := by
  cases x; cases y
  simp only [cds] at h
  congr 1
  exact Array.toList_inj.mp h
theorem cds_app (x y : Str) : cds (x ++ y) = cds x ++ cds y := by
  show (x.cps ++ y.cps).toList = _
  simp
/-- ''.join -/
theorem cds_join0 : ∀ ys : List Str, cds (Txt.join (Str.ofString "") ys) = (ys.map cds).flatten := fun ys => by
  rw [TL.join_eq]
  induction ys with
  | nil => rfl
  | cons y r ih =>
    cases r with
    | nil => show cds y = _; simp
    | cons z r =>
      show cds (y ++ Str.ofString "" ++ Str.join (Str.ofString "") (z :: r)) = _
      rw [cds_app, cds_app, ih]
      have e : cds (Str.ofString "") = [] := by decide +kernel
      rw [e]
      simp
theorem join0_len {n : Nat} : ∀ {ys : List Str}, (∀ y ∈ ys, y.length ≤ n) → (Txt.join (Str.ofString "") ys).length ≤ ys.length * n ∧ (ys.map (·.length)).sum ≤ ys.length * n := fun {ys} h => by
  have key : ∀ {ys : List Str}, (∀ y ∈ ys, y.length ≤ n) → (ys.map cds).flatten.length ≤ ys.length * n ∧ (ys.map (·.length)).sum ≤ ys.length * n := by
    intro ys
    induction ys with
    | nil => intro _; simp
    | cons y r ih =>
      intro h
      have h1 := h y (by simp)
      obtain ⟨h2, h3⟩ := ih fun z hz => h z (List.mem_cons_of_mem _ hz)
      rw [List.map_cons, List.flatten_cons, List.length_append, cds_len, List.length_cons, List.map_cons, List.sum_cons, Nat.add_mul, Nat.one_mul]
      omega
  obtain ⟨h1, h2⟩ := key h
  rw [← cds_len, cds_join0]
  exact ⟨h1, h2⟩
/-- a text of at most m signs, all of them signs -/
def Ok (m : Nat) (z : Str) : Prop := z.length ≤ m ∧ ∀ c ∈ cds z, c < 1114112
theorem Ok.mono {m n : Nat} {z : Str} (h : Ok m z) (hmn : m ≤ n) : Ok n z := ⟨Nat.le_trans h.1 hmn, h.2⟩
theorem Ok.strOk {m : Nat} {z : Str} (h : Ok m z) : PyData.strOk z = true := by
  unfold PyData.strOk
  rw [Array.all_eq_true']
  intro c hc
  exact decide_eq_true (h.2 c (Array.mem_toList_iff.mpr hc))
theorem ok_one {c : Nat} (h : c < 1114112) : Ok 1 ⟨#[c]⟩ := ⟨Nat.le_refl _, fun x hx => by
  have : x = c := by simpa [cds] using hx
  rw [this]; exact h⟩
/-- an item of a written text at a place within -/
theorem str_at {z : Str} {i : Int} {m : Nat} (hz : Ok m z) (h0 : 0 ≤ i) (h1 : i < z.length) : ∃ c, atI z.cps.toList i = some c ∧ c < 1114112 ∧ c ∈ cds z := by
  obtain ⟨k, rfl⟩ := Int.eq_ofNat_of_zero_le h0
  have hm : k < z.cps.toList.length := by
    have : z.cps.toList.length = z.length := cds_len z
    omega
  exact ⟨_, atI_nat (List.getElem?_eq_getElem hm), hz.2 _ (List.getElem_mem hm), List.getElem_mem hm⟩
/-- a written text: by decide +kernel -/
theorem ok_lit {z : Str} {m : Nat} (h : (decide (z.length ≤ m) && (cds z).all fun c => decide (c < 1114112)) = true) : Ok m z := by
  rw [Bool.and_eq_true, List.all_eq_true] at h
  exact ⟨of_decide_eq_true h.1, fun c hc => of_decide_eq_true (h.2 c hc)⟩
end Al
namespace Al
open PySem PySem.Spec L2
open PyProof.Rows hiding St
/-! ### sum(xs, start = c) -/
section
variable {prog : Program} {w : World} {A : Around} {E : Value → Shared → Prop} {s : Shared}
theorem kw_tree {id : String} {b : Builtin} {args : List Value} {kw : List (Str × Value)} {Q : Value → Shared → Prop} (hk : builtinKind id = none) (hp : plainId id = true) (hb : entryFor table id = some b) (ha : argsOk id ⟨args, kw⟩)
    (hc : wpAny (model prog w) A.in1 (b ⟨args, kw⟩) (fun fin s' => match fin with
      | .done f => (match (Except.ok f : Result) with | .ok (.ret v) => Q v s' | .ok _ => False | .error e => E e s')
      | .again c' => c'.quiet = true ∧ codeAny (model prog w) A c' (fun r s' => match r with | .ok (.ret v) => Q v s' | .ok _ => False | .error e => E e s') s') E s) :
    wpAny (model prog w) A (call (.builtin id) args kw) Q E s := by
  refine wpAny_call (codeAny_call_builtin hp hb ?_)
  simp only [checkBuiltinCall, hk]
  cases hsig : Manifest.signature? id with
  | none => exact wpAny_pure hc
  | some sig =>
    have h2 : Bind.checkArgs id sig ⟨args, kw⟩ = pure () := by simpa only [argsOk, hsig] using ha
    simp only [h2]
    exact wpAny_pure hc
theorem walks_shift {I : Addr} {fp wr : List Addr} {n : Nat} {P : Nat → Value → Prop} {St : Nat → Heap → Prop} (W : Walks prog w A I fp wr n P St) : Walks prog w A I fp wr (n + 1) (fun i v => ∃ j, i = j + 1 ∧ P j v) (fun i h => ∃ j, i = j + 1 ∧ St j h) where
  sub := W.sub
  frame := fun i h h' ⟨j, e, st⟩ hk => ⟨j, e, W.frame j h h' st hk⟩
  item := fun i s Q E hi ⟨j, e, st⟩ hQ => W.item j s Q E (by omega) st fun v h' tk p st' hk => hQ v h' tk ⟨j, e, p⟩ ⟨j + 1, by omega, st'⟩ hk
  done := fun s Q E ⟨j, e, st⟩ hQ => by
    have : n = j := by omega
    subst this
    exact W.done s Q E st hQ
  self := fun i s Q E ⟨j, e, st⟩ h => W.self j s Q E st h
def vSh (c : Int) (val : Nat → Int) : Nat → Int
  | 0 => c
  | j + 1 => val j
theorem preSum_shift (c : Int) (val : Nat → Int) : ∀ n, preSum (vSh c val) (n + 1) = c + preSum val n
  | 0 => by simp [preSum, vSh]
  | n + 1 => by rw [preSum, preSum_shift c val n, preSum]; show _ + val n = _; omega
theorem sum_start {l : Addr} {its : List Value} {ns : List Int} {c : Int} {t : Tok} {Q : Value → Shared → Prop} (hh : A.handled = none) (hl : s.heap.IsList l its.toArray) (hi : IntsAre its ns) (h0 : -(2 ^ 63) ≤ c) (h1 : c < 2 ^ 63)
    (h : ∀ h' tk t', (∀ b o, s.heap.get? b = some o → h'.get? b = some o) → Q (.int (c + ns.sum) t') { s with heap := h', toks := tk }) : wpAny (model prog w) A (call (.builtin "sum") [.ref l] [("start", .int c t)]) Q E s := by
  obtain ⟨xs, e⟩ := hi.allInts.items
  have hn : numsOf (intItems xs).toList = ns := by rw [← e]; exact hi.numsOf
  rw [nums_intItems] at hn
  rw [e] at hl
  refine kw_tree F.kind_sum F.plain_sum F.entry_sum (by unfold argsOk; kernel_rfl) ?_
  unfold Builtin.«sum»
  simp only [List.length_cons, List.length_nil]
  rw [if_neg (by decide)]
  refine wpAny_bind (wpAny_of_eq (show Builtin.Builtins.bindParams "sum" ["start"] 0 ⟨[], [("start", .int c t)]⟩ = pure [some (.int c t)] from rfl) ?_)
  refine wpAny_bind (iter_intList hl fun s₂ e2 st hfp hlI => ?_)
  have hfit : (decide (-(2 ^ 63) ≤ c) && decide (c < 2 ^ 63)) = true := by rw [decide_eq_true h0, decide_eq_true h1]; rfl
  show wpAny _ _ (if (decide (-(2 ^ 63) ≤ c) && decide (c < 2 ^ 63)) = true then _ else _) _ _ _
  rw [if_pos hfit]
  refine wpAny_bind (wpAny_rule (wpAny_bind (wpAny_mkInt ?_)))
  refine wpAny_bind (wpAny_pure ?_)
  simp only [List.forIn_cons, List.forIn_nil]
  refine wpAny_bind (wpAny_bind (wpAny_bind (wpAny_isInstance (T := "int") (b := false) (typeIs_int _ _ _) PySem.sub_int_str ?_)))
  simp only [Bool.false_eq_true, if_false]
  refine wpAny_pure (wpAny_bind (wpAny_bind (wpAny_isInstance (T := "int") (b := false) (typeIs_int _ _ _) PySem.sub_int_bytes ?_)))
  simp only [Bool.false_eq_true, if_false]
  refine wpAny_pure (wpAny_bind (wpAny_bind (wpAny_isInstance (T := "int") (b := false) (typeIs_int _ _ _) PySem.sub_int_bytearray ?_)))
  simp only [Bool.false_eq_true, if_false]
  refine wpAny_pure (wpAny_pure ?_)
  refine wpAny_bind (wpAny_newObj_type ?_)
  subst e2
  have W := walks_shift (Walks.list (prog := prog) (w := w) (A := A.in1) hh _ l hlI (intItems xs))
  have hSf : (s.heap.push { cls := .type "list_iterator", data := .fields #[.ref l, .int 0 0] }).objs.size ∉ [s.heap.objs.size, l] := fun hm => Nat.lt_irrefl _ (hfp _ hm)
  have hv : ∀ i v, (∃ j, i = j + 1 ∧ (intItems xs)[j]? = some v) → ∃ t, v = .int ((vSh c (numAt xs)) i) t := fun i v ⟨j, e, p⟩ => by
    subst e
    exact intItems_at p
  refine wpAny_pure ⟨plainId_quiet F.plain_sum_loop _, codeAny_sum_loopG W (vSh c (numAt xs)) hv _ hSf (intItems xs).size 1 _ s.toks 0 0 (Or.inl rfl) (by omega) (by omega)
    (W.frame _ _ _ ⟨0, rfl, st⟩ fun b _ o e => Heap.get?_push_of_some _ e) ?_ fun h' tk t' hk => ?_⟩
  · have e1 : preSum (vSh c (numAt xs)) 1 = c := by simp [preSum, vSh]
    rw [e1]
    exact Heap.get?_push_size _ rfl
  · have e1 : preSum (vSh c (numAt xs)) ((intItems xs).size + 1) = c + ns.sum := by
      rw [preSum_shift, preSum_eq, List.take_of_length_le (by simp [intItems]), hn]
    rw [e1]
    refine h h' tk t' fun b o e => hk b o ?_ ?_ ?_
    · intro hb
      have e7 : b = s.heap.objs.size := by simpa using hb
      exact Nat.lt_irrefl _ (e7 ▸ Heap.lt_size e)
    · rw [Heap.size_push]
      exact Nat.ne_of_lt (Nat.lt_succ_of_lt (Heap.lt_size e))
    · exact Heap.get?_push_of_some _ (Heap.get?_push_of_some _ e)
end
end Al
namespace Al
open PySem PySem.Spec L2
open PyProof.Rows hiding St
section
variable {X : Ax} {e a b c : Expr} {es : List Expr} {ρ : Env1} {O : Own} {Φ : PV → Own → Prop} {as : List Addr} {F H : Hp} {σ : L2.St} {pos p p2 kpos tpos pos' : Pos} {D : AEnds}
/-! ### built-ins with one keyword -/
theorem ae_sumS {p : Pos} {d : Expr} (hc : X.calm = true) (hg : Gl X.c "sum") (hm : X.mg "sum" = none) (h : AE X e ρ O fun x O1 => AE X d ρ O1 fun y O2 => ∃ (ns : List Int) (c : Int), x = pL (ns.map PyData.int) ∧ y = pI c ∧ -(2 ^ 63) ≤ c ∧ c < 2 ^ 63 ∧ Φ (pI (c + ns.sum)) O2)
    (hs : starEach [e] X.env = (false, eval e X.env) :: starEach [] X.env := by rfl) (he : backTo pos (starEach [e] X.env) = (false, eval e X.env) :: backTo pos (starEach [] X.env) := by rfl) (hpl : (backTo pos (starEach [e] X.env)).any (·.1) = false := by rfl) : AE X (.Call (.Name "sum" p) [e] [⟨some "start", d, kpos⟩] pos) ρ O Φ := fun as F σ H w r => by
  have pa : PA X.c [e] (tA X.c [e]) := pa_tA
  have pk : PK X.c [⟨some "start", d, kpos⟩] (tCons (tE X.c d) tNil) := pk_cons pe_tE pk_nil
  have z : tA X.c [e] σ H fun vs H1 => tCons (tE X.c d) tNil σ H1 fun ws H2 => ∃ (l : Addr) (ns : List Int) (c : Int), vs = [.ref l] ∧ ws = [.int c] ∧ SqL X.K H2 l (ns.map V.int) ∧ -(2 ^ 63) ≤ c ∧ c < 2 ^ 63 ∧ PQ X.k as F Φ (.int (c + ns.sum)) H2 := by
    have h' : AA X [e] ρ O fun xs O1 => ∃ x, xs = [x] ∧ AE X d ρ O1 fun y O2 => ∃ (ns : List Int) (c : Int), x = pL (ns.map PyData.int) ∧ y = pI c ∧ -(2 ^ 63) ≤ c ∧ c < 2 ^ 63 ∧ Φ (pI (c + ns.sum)) O2 := aa_cons (h.mono fun x O1 q => aa_nil ⟨x, rfl, q⟩) hs
    refine h'.run w r fun xs O1 as1 F1 v1 H1 w1 g1 s1 rx r1 ⟨x, ex, h1⟩ => ?_
    subst ex
    obtain ⟨v, rfl, rv⟩ := rps1 rx
    refine h1.run w1 r1 fun y O2 as2 F2 u H2 w2 g2 s2 ry r2 ⟨ns, c, ex, ey, c0, c1, q⟩ => ?_
    subst ex; subst ey
    cases (show Dq F2 u (.int c) from ry)
    cases (show Dq F1 v (.list (ns.map PyData.int)) from rv) with
    | @lst l vs ds hs ha =>
      rw [intsV_dq ha] at hs
      exact ⟨l, ns, c, rfl, rfl, SqL.of (w2.rd (s2 _ _ hs)), c0, c1, (PQ.mk w2 (show RPV X.k F2 as2 (pI _) _ from Dq.int _) q).back (g1.trans g2) (s1.trans s2)⟩
  refine tE_of ⟨fun pins s σ H Q I (h : tA X.c [e] σ H fun vs H1 => tCons (tE X.c d) tNil σ H1 fun ws H2 => ∃ (l : Addr) (ns : List Int) (c : Int), vs = [.ref l] ∧ ws = [.int c] ∧ SqL X.K H2 l (ns.map V.int) ∧ -(2 ^ 63) ≤ c ∧ c < 2 ^ 63 ∧ Q (.int (c + ns.sum)) H2) => ?_⟩ z
  refine wpAny_Call_Name_kw (ld_blt I hg hm boot_sum ?_ (by decide) (by decide))
  refine PyProof.Rows.callWith_kw (thn (pa.run pos pins s σ H _ I h) fun us s1 ⟨vs, H1, I1, r1, q1⟩ => thn (pk.run pos pins s1 σ H1 _ I1 q1) fun ws s2 ⟨zs, H2, I2, r2, l, ns, c, e1, e2, hs, c0, c1, q2⟩ => ?_) he hpl rfl rfl
  subst e1; subst e2
  obtain ⟨its, rv, hl, _⟩ := I2.list hs
  rw [Vals.ref1 r1]
  cases r2 with
  | cons rr rt =>
    cases rt
    obtain ⟨t, rfl⟩ := rr
    exact sum_start (I2.ok.hd hc) hl.isList rv.ints c0 c1 fun h' tk t' hk => ⟨.int _, H2, I2.kept hk, ⟨_, rfl⟩, q2⟩
/-! ### truth -/
def TruA (X : Ax) (x : PV) (O : Own) (k : Bool) : Prop := ∀ as F H v, Wd X.k O as F H → RPV X.k F as x v → TruV X.K v H k
theorem tru_L {xs : List PyData} : TruA X (pL xs) O (!xs.isEmpty) := fun as F H v w r => by
  cases (show Dq F v (.list xs) from r) with
  | lst hs ha =>
    refine .inl ⟨_, SqL.of (w.rd hs), ?_⟩
    cases ha <;> rfl
theorem ae_orT {rest : List Expr} (h : AE X a ρ O fun x O1 => ∃ k, TruA X x O1 k ∧ if k = true then Φ x O1 else AE X (.BoolOp .Or (b :: rest) pos) ρ O1 Φ) : AE X (.BoolOp .Or (a :: b :: rest) pos) ρ O Φ := fun as F σ H w r => by
  refine tE_of (pe_orT pe_tE pe_tE) ?_
  refine h.run w r fun x O1 as1 F1 v1 H1 w1 g1 s1 rx r1 ⟨k, ht, h1⟩ => ⟨k, ht as1 F1 H1 v1 w1 rx, ?_⟩
  cases k with
  | true =>
    simp only [if_true] at h1 ⊢
    exact (PQ.mk w1 rx h1).back g1 s1
  | false =>
    simp only [Bool.false_eq_true, if_false] at h1 ⊢
    exact tE_mono (h1 as1 F1 σ H1 w1 r1) fun _ _ z => z.back g1 s1
/-! ### unary minus -/
theorem una_of {f : Value → Sem Value} {r : V → Hp → VK → Prop} {x : PV} (h : UnR X.c f r) (k : ∀ as F H vx, Wd X.k O as F H → RPV X.k F as x vx → r vx H (PQ X.k as F Φ)) : UnA X f x O Φ :=
  fun as F H vx w rx => by unfold rU1; exact fun pins s σ v I r1 => h pins s σ H vx v _ I r1 (k as F H vx w rx)
theorem u_neg {i : Int} (k : Φ (pI (-i)) O) : UnA X (unaryOp .USub) (pI i) O Φ := una_of un_neg fun as F H vx w rx => by
  cases (show Dq F vx (.int i) from rx)
  exact ⟨i, rfl, PQ.mk w (show RPV X.k F as (pI _) _ from Dq.int _) k⟩
/-! ### list * int, owned -/
theorem rps_rep {K : KF} {ps : List PV} {vs : List V} (h : RPs K F as ps vs) : ∀ n, RPs K F as (List.replicate n ps).flatten (List.replicate n vs).flatten
  | 0 => .nil
  | n + 1 => by
    rw [List.replicate_succ, List.replicate_succ, List.flatten_cons, List.flatten_cons]
    exact rps_app h (rps_rep h n)
theorem b_repO {xs : List PyData} {k : Int} (h1 : -(2 ^ 63) ≤ k) (h2 : k < 2 ^ 63) (hz : xs.length * k.toNat ≤ sizeLine) (q : Φ (.o O.length) (O ++ [.lst (List.replicate k.toNat (xs.map PV.d)).flatten])) : BinA X (binaryOp .Mult) (pL xs) (pI k) O Φ := bina_of op_rep fun as F H vx vy w rx ry => by
  cases (show Dq F vy (.int k) from ry)
  cases (show Dq F vx (.list xs) from rx) with
  | lst hs ha =>
    refine ⟨_, k, _, rfl, rfl, w.rd hs, h1, h2, by rw [ha.len]; exact hz, fun p hp => ?_⟩
    have w2 := w.new (ob := .lst (List.replicate k.toNat (xs.map PV.d)).flatten) hp ⟨_, rfl, rps_rep (data_rps ha) _⟩ (fun z => nomatch z)
    exact ⟨.o O.length, _, _, F, w2, Gr.app _ _, Same.refl _, ⟨p, w.at_new p, rfl⟩, q⟩
/-! ### x in xs, xs owned, of data -/
theorem own_dp {K : KF} {n : Nat} {ds : List PyData} {v : V} (w : Wd K O as F H) (hO : O[n]? = some (.lst (ds.map PV.d))) (r : RPV K F as (.o n) v) (hc : PyData.canLay0 (.list ds) = true) : Dp K.K H v (.list ds) := by
  obtain ⟨p, hp, rfl⟩ := r
  obtain ⟨p', h1, fn, ho, hh, vs, rfl, rvs⟩ := w.at_ hO
  have e6 : p' = p := Option.some.inj (h1.symm.trans hp)
  subst e6
  have key : ∀ {vs : List V} {ds : List PyData}, DqAll F vs ds → PyData.canLayAll0 ds = true → DpAll K.K H vs ds := by
    intro vs ds h hc
    induction ds generalizing vs with
    | nil => cases h; exact .nil
    | cons d ds ih =>
      rw [PyData.canLayAll0, Bool.and_eq_true] at hc
      cases h with
      | cons h t => exact .cons ((Dq_same w.ex h).dp hc.1) (ih t hc.2)
  exact .lst (SqL.of hh) (key (rps_data rvs) (by simpa [PyData.canLay0] using hc))
theorem b_notInO {x : PyData} {n : Nat} {xs : List PyData} (hO : O[n]? = some (.lst (xs.map PV.d))) (hu : X.A.units + 65 < cLine) (ha : SeqAt.shaped x = true) (hb : SeqAt.shaped (.list xs) = true) (k : Φ (pB (!xs.any fun y => PyData.eqv y x)) O) : BinA X (compareOp .NotIn) (.d x) (.o n) O Φ := bina_of (op_notInD hu) fun as F H vx vy w rx ry =>
  ⟨x, xs, (Dq_same w.ex rx).dp (sh_cl ha), own_dp w hO ry (sh_cl hb), ha, hb, PQ.mk w (show RPV X.k F as (pB _) _ from Dq.bl _) k⟩
/-! ### xs[i] op= e, xs owned -/
theorem get_list : PGet X.c (fun o i H Q => ∃ a xs k x, o = .ref a ∧ i = .int k ∧ 0 ≤ k ∧ k < 2 ^ 63 ∧ SqL X.K H a xs ∧ xs[k.toNat]? = some x ∧ Q x H) := by
  intro pins s σ H o i ov iv Q I ro ri h
  obtain ⟨a, xs, k, x, rfl, rfl, k0, k1, hs, hx, q⟩ := h
  cases ro
  obtain ⟨t, rfl⟩ := ri
  obtain ⟨its, rv, hl, _⟩ := I.list hs
  obtain ⟨u, hu, ru⟩ := rv.get hx
  exact wpAny_getItem_list hl.isList k0 k1 (by simpa using hu) ⟨x, H, I, ru, q⟩
theorem as_augL {o i : Expr} {op : Operator} (h : AE X o ρ O fun po O1 => AE X i ρ O1 fun pi O2 => ∃ n k xs x, po = .o n ∧ pi = pI k ∧ 0 ≤ k ∧ k < 2 ^ 63 ∧ O2[n]? = some (.lst xs) ∧ xs[k.toNat]? = some x ∧
      AE X e ρ O2 fun y O3 => BinA X (inplaceOp op) x y O3 fun z O4 => O4[n]? = some (.lst xs) ∧ D.nx ρ (O4.set n (.lst (xs.set k.toNat z))))
    (ha : ∀ ov iv new, augStore i ov iv new = (do holding [new, ov, iv] (setItem ov iv new); release [new, ov, iv] []; pure .next) := by intros; rfl) : AS X (.AugAssign (.Subscript o i tpos) op e pos) ρ O D := fun as F σ H w r => by
  refine tS_of (ps_augS (tip := rB X.c (inplaceOp op)) pe_tE pe_tE get_list pe_tE (fun pins s σ H x y v u Q I r1 r2 q => op_rB pins s σ H x y v u Q I r1 r2 q) set_list ha) ?_
  refine h.run w r fun po O1 as1 F1 v1 H1 w1 g1 s1 ro r1 h1 => ?_
  refine h1.run w1 r1 fun pi O2 as2 F2 v2 H2 w2 g2 s2 ri r2 ⟨n, k, xs, x, e1, e2, k0, k1, hO, hx, h2⟩ => ?_
  subst e1; subst e2
  obtain ⟨a, fa, rfl⟩ := ro
  cases (show Dq F2 v2 (.int k) from ri)
  obtain ⟨a', ha', fn, ho, hh, vs, rfl, rvs⟩ := w2.at_ hO
  have e6 : a' = a := Option.some.inj (ha'.symm.trans (g2 n a fa))
  subst e6
  obtain ⟨vx, hvx, rx⟩ := rvs.get hx
  refine ⟨a', vs, k, vx, rfl, rfl, k0, k1, SqL.of hh, hvx, ?_⟩
  refine h2.run w2 r2 fun y O3 as3 F3 v3 H3 w3 g3 s3 ry r3 h3 => ?_
  refine rB_mono (h3 as3 F3 H3 vx v3 w3 (rx.mono s3 g3) ry) fun v4 H4 ⟨z, O4, as4, F4, w4, g4, s4, rz, hO4, q⟩ => ?_
  obtain ⟨a2, ha2, fn2, ho2, hh2, vs2, rfl, rvs2⟩ := w4.at_ hO4
  have e7 : a2 = a' := Option.some.inj (ha2.symm.trans ((g3.trans g4) n a' ha'))
  subst e7
  have hk : k.toNat < xs.length := (List.getElem?_eq_some_iff.mp hx).1
  have hix : ixN vs2.length k = some k.toNat := by
    rw [← rvs2.len]
    unfold ixN
    rw [if_pos k0, if_pos (by omega)]
  refine ⟨a2, vs2, k, k.toNat, rfl, rfl, hh2, hix, ?_⟩
  have rset : ∀ {ps : List PV} {vs : List V} (j : Nat), RPs X.k F4 as4 ps vs → RPs X.k F4 as4 (ps.set j z) (vs.set j v4) := by
    intro ps vs j h
    induction h generalizing j with
    | nil => exact .nil
    | cons h t ih =>
      cases j with
      | zero => exact .cons rz t
      | succ j => exact .cons h (ih j)
  exact ⟨ρ, _, as4, F4, w4.set (ob := .lst (xs.set k.toNat z)) (h := .lst (vs2.set k.toNat v4)) ha2 fn2 ⟨_, rfl, rset _ rvs2⟩ (fun z => nomatch z), ((g1.trans g2).trans g3).trans g4, ((s1.trans s2).trans s3).trans s4, (r3.mono s4 g4), q⟩
end
end Al
namespace Al
open PySem PySem.Spec L2
open PyProof.Rows hiding St
/-! ### enumerate(list), enumerate(text) -/
def enD (ds : List PyData) : List PV := ds.zipIdx.map fun p => pT [.int (p.2 : Nat), p.1]
theorem enD_at {ds : List PyData} {i : Nat} {x : PV} (h : (enD ds)[i]? = some x) : ∃ d, ds[i]? = some d ∧ x = pT [.int (i : Nat), d] := by
  unfold enD at h
  rw [List.getElem?_map, Option.map_eq_some_iff] at h
  obtain ⟨⟨d, j⟩, h1, rfl⟩ := h
  rw [List.getElem?_zipIdx, Option.map_eq_some_iff] at h1
  obtain ⟨d', h2, h3⟩ := h1
  cases h3
  exact ⟨_, h2, by simp⟩
theorem enD_len (ds : List PyData) : (enD ds).length = ds.length := by unfold enD; simp
section
variable {X : Ax} {e a b c : Expr} {es : List Expr} {ρ : Env1} {O : Own} {Φ : PV → Own → Prop} {as : List Addr} {F H : Hp} {σ : L2.St} {pos p p2 kpos tpos pos' : Pos} {D : AEnds}
theorem ai_enum {elts : List Expr} {kk : Nat} {Ψ : List PV → (Own → Prop) → Own → Prop} (hg : Gl X.c "enumerate") (hm : X.mg "enumerate" = none) (h : AE X e ρ O fun x O1 => ∃ ds, x = pL ds ∧ Ψ (enD ds) (fun _ => True) O1) (hs : starEach [e] X.env = [(false, eval e X.env)] := by rfl) :
    AI X (.Tuple elts kk tpos) (.Call (.Name "enumerate" p) [e] [] pos) ρ O Ψ := fun as F σ H w r R k => by
  refine tI_of (pi_enum hg hm pa_tA hs) ?_
  have h' : AA X [e] ρ O fun xs O1 => ∃ ds, xs = [pL ds] ∧ Ψ (enD ds) (fun _ => True) O1 := aa_cons (h.mono fun x O1 ⟨ds, ex, q⟩ => aa_nil ⟨ds, by rw [ex], q⟩) hs
  refine h'.run w r fun xs O1 as1 F1 v1 H1 w1 g1 s1 rx r1 ⟨ds, ex, q⟩ => ?_
  subst ex
  obtain ⟨v, rfl, rv⟩ := rps1 rx
  cases (show Dq F1 v (.list ds) from rv) with
  | @lst a xs ds hs ha =>
    refine ⟨a, xs, rfl, SqL.of (w1.rd hs), k _ H1 _ _ O1 as1 F1 w1 g1 s1 (fun O' as' F' H' w' g' s' _ => ?_) q⟩
    have hq : SqL X.K H' a xs := SqL.of (w'.rd (s' _ _ hs))
    refine ⟨fun i hi => ⟨xs, hq, by rw [enD_len, ← ha.len] at hi; exact hi⟩, fun i x hx => ?_⟩
    obtain ⟨d, hd, rfl⟩ := enD_at hx
    obtain ⟨v, hv, hdv⟩ := ha.get hd
    refine ⟨⟨xs, v, hq, hv⟩, fun v' H2 hy => ?_⟩
    obtain ⟨T, x, rfl, hT, rfl, hy⟩ := hy
    have e3 : v = x := Option.some.inj (hv.symm.trans (hy xs hq))
    subst e3
    obtain ⟨w2, s2⟩ := w'.data (h := .tup [.int (i : Nat), v]) hT
    exact ⟨_, w2, s2, Dq.tup upd_same (.cons (.int _) (.cons (Dq_same (s'.trans s2) hdv) .nil))⟩
end
/-- the signs of a text, each in a new pair -/
def Ites (x : Str) : It :=
  ⟨fun i _ => i < x.cps.size, fun i H v H' => ∃ T c, v = .ref T ∧ H T = none ∧ H' = upd H T (.tup [.int (i : Nat), .str ⟨#[c]⟩]) ∧ x.cps[i]? = some c, fun i _ => x.cps.size ≤ i⟩
theorem draws_str {prog : Program} {w : World} {A : Around} (hh : A.handled = none) (it : Addr) (x : Str) (t : Tok) :
    Draws prog w A it [it] x.cps.size (fun i v => ∃ c u, x.cps[i]? = some c ∧ v = .str ⟨#[c]⟩ u) (fun i h => h.IsStrIter it (strIterType x) x t i) := by
  unfold strIterType
  split
  · exact Draws.strAscii hh it x t
  · exact Draws.strWide hh it x t
theorem turn_enumS {P : Program} {w : World} {K : PySem.W.Frag} {elts : List Expr} {kk : Nat} {tpos : Pos} (x : Str) (t : Tok) (e it : Addr) :
    Turn P w K (.Tuple elts kk tpos) (Ites x) [e, it] e (fun i h => (∃ old, IsEnum h e it ((i : Nat) : Int) old) ∧ h.IsStrIter it (strIterType x) x t i ∧ e ≠ it ∧ i ≤ x.cps.size) where
  mem := by simp
  obj := fun i h st b hb => by
    obtain ⟨⟨old, he⟩, ⟨o, ho, hc, hd⟩, _⟩ := st
    have e' : b = e ∨ b = it := by simpa using hb
    rcases e' with z | z
    · rw [z]; exact ⟨_, he, fun v q => nomatch q⟩
    · rw [z]; exact ⟨o, ho, fun v q => by rw [hd] at q; cases q⟩
  keep := fun i h h' st k => let ⟨⟨old, he⟩, ⟨o, ho, r⟩, hne⟩ := st; ⟨⟨old, k e (by simp) _ he⟩, ⟨o, k it (by simp) o ho, r⟩, hne⟩
  item := by
    intro X hP hw hK hc i pins s σ H E I hf st hg
    subst hP hw hK
    obtain ⟨⟨old, he⟩, hit, hne, hle⟩ := st
    have hel : e < s.heap.objs.size := Heap.lt_size he
    have hil : it < s.heap.objs.size := by obtain ⟨_, q, _⟩ := hit; exact Heap.lt_size q
    have D := draws_str (prog := X.prog) (w := X.w) (A := X.A.in1) (I.ok.hd hc) it x t
    refine wpAny_pyNext_enum_itemD D he hit hg hne (by simpa using hne) fun v h' tk hP ho hit' hT hsz hk => ?_
    obtain ⟨c, u, hcx, rfl⟩ := hP
    refine ⟨_, rfl, wpAny_letOwnedTupleGo_enum (s := { s with heap := h', toks := tk + 1 }) ho fun h'' he' sb => ?_⟩
    have hT2 : h''.get? s.heap.objs.size = some { cls := .type "tuple", data := .seq #[.int i tk, .str ⟨#[c]⟩ u] } := (sb.2 _ (Nat.ne_of_gt hel)).trans hT
    have new : ObjOk X.prog X.w (upd H s.heap.objs.size (.tup [.int (i : Nat), .str ⟨#[c]⟩])) h'' s.heap.objs.size (.tup [.int (i : Nat), .str ⟨#[c]⟩]) :=
      ⟨by show 2 ≤ sizeLine; decide, [.int i tk, .str ⟨#[c]⟩ u], .cons ⟨_, rfl⟩ (.cons ⟨_, rfl⟩ .nil), ⟨_, hT2, rfl, _, rfl⟩⟩
    have I1 : Inv X pins σ (upd H s.heap.objs.size (.tup [.int (i : Nat), .str ⟨#[c]⟩])) { s with heap := h'', toks := tk + 1 } :=
      I.turnedNew (ch := [e, it]) (fun b ob hb q => (sb.2 b (fun z => hb (by simp [z]))).trans (hk b ob (fun z => hb (by simp [z])) (fun z => hb (by simp [z])) q)) hf (Nat.le_refl _) new
    refine ⟨.ref s.heap.objs.size, _, I1, rfl, ⟨_, c, rfl, I.hok.fresh (Nat.le_refl _), rfl, hcx⟩, ⟨⟨.str ⟨#[c]⟩ u, ?_⟩, ?_, hne, hg⟩, fun b hb => ?_⟩
    · have e1 : ((i + 1 : Nat) : Int) = (i : Int) + 1 := by omega
      rw [e1]; exact he'
    · obtain ⟨o, ho2, r⟩ := hit'
      exact ⟨o, (sb.2 it (Ne.symm hne)).trans ho2, r⟩
    · have hb' : b < s.heap.objs.size := by
        have e' : b = e ∨ b = it := by simpa using hb
        rcases e' with z | z
        · rw [z]; exact hel
        · rw [z]; exact hil
      rw [upd_ne (Nat.ne_of_lt hb')]
      exact (hf b hb).1
  done := by
    intro X hP hw hK hc i pins s σ H E I hf st hg
    subst hP hw hK
    obtain ⟨⟨old, he⟩, hit, hne, hle⟩ := st
    obtain ⟨f0, f1, f2, f3, f4, f5⟩ := hf it (by simp)
    have ei : i = x.cps.size := Nat.le_antisymm hle hg
    subst ei
    have D := draws_str (prog := X.prog) (w := X.w) (A := X.A.in1) (I.ok.hd hc) it x t
    exact wpAny_pyNext_enum_endD D he hit fun h' eb => ⟨rfl, I.turned (t' := s.toks) (fun b o hb q => eb b o hb q) f0 f1 f3 f4 f5⟩
  self := fun A i s Q E st h => let ⟨⟨_, he⟩, _⟩ := st; wpAny_pyIter_enum he h
theorem pi_enumS {X : Cx} {e : Expr} {ta : TA} {p pos tpos : Pos} {elts : List Expr} {kk : Nat} (hg : Gl X "enumerate") (hm : X.mg "enumerate" = none) (ha : PA X [e] ta) (hs : starEach [e] X.env = [(false, eval e X.env)] := by rfl) :
    PI X (.Tuple elts kk tpos) (.Call (.Name "enumerate" p) [e] [] pos) (fun σ H R => ta σ H fun vs H1 => ∃ x, vs = [.str x] ∧ R (Ites x) H1) := by
  refine ⟨fun pins s σ H R I h => ?_⟩
  refine Call_ (ld_blt I hg hm boot_enumerate (PyProof.Rows.callWith_type1 (thn (ha.run pos pins s σ H _ I h) fun us s1 ⟨vs, H1, I1, r1, q1⟩ => ?_) hs rfl))
  obtain ⟨x, ex, q⟩ := q1
  subst ex
  cases r1 with
  | cons r rr =>
    cases rr
    obtain ⟨t, rfl⟩ := r
    refine call_enumerate_str fun h' he hit hsz hk => wpAny_pyIter_enum he ?_
    have I2 : Inv X pins σ H1 { s1 with heap := h' } := I1.kept (t' := s1.toks) hk
    refine ⟨s1.heap.objs.size + 1, [s1.heap.objs.size + 1, s1.heap.objs.size], _, _, H1, rfl, I2, turn_enumS x t (s1.heap.objs.size + 1) s1.heap.objs.size, ⟨⟨.none, he⟩, hit, Nat.succ_ne_self _, Nat.zero_le _⟩, fun b hb => ?_, q⟩
    have e' : b = s1.heap.objs.size + 1 ∨ b = s1.heap.objs.size := by simpa using hb
    have hle : s1.heap.objs.size ≤ b := by
      rcases e' with z | z
      · rw [z]; exact Nat.le_add_right _ _
      · rw [z]; exact Nat.le_refl _
    exact I1.fpOk hle (I1.hok.fresh hle)
section
variable {X : Ax} {e a b c : Expr} {es : List Expr} {ρ : Env1} {O : Own} {Φ : PV → Own → Prop} {as : List Addr} {F H : Hp} {σ : L2.St} {pos p p2 kpos tpos pos' : Pos} {D : AEnds}
def enS (z : Str) : List PV := enD ((cds z).map fun c => .str ⟨#[c]⟩)
theorem ai_enumS {elts : List Expr} {kk : Nat} {Ψ : List PV → (Own → Prop) → Own → Prop} (hg : Gl X.c "enumerate") (hm : X.mg "enumerate" = none) (h : AE X e ρ O fun x O1 => ∃ z, x = pS z ∧ Ψ (enS z) (fun _ => True) O1) (hs : starEach [e] X.env = [(false, eval e X.env)] := by rfl) :
    AI X (.Tuple elts kk tpos) (.Call (.Name "enumerate" p) [e] [] pos) ρ O Ψ := fun as F σ H w r R k => by
  refine tI_of (pi_enumS hg hm pa_tA hs) ?_
  have h' : AA X [e] ρ O fun xs O1 => ∃ z, xs = [pS z] ∧ Ψ (enS z) (fun _ => True) O1 := aa_cons (h.mono fun x O1 ⟨ds, ex, q⟩ => aa_nil ⟨ds, by rw [ex], q⟩) hs
  refine h'.run w r fun xs O1 as1 F1 v1 H1 w1 g1 s1 rx r1 ⟨z, ex, q⟩ => ?_
  subst ex
  obtain ⟨v, rfl, rv⟩ := rps1 rx
  cases (show Dq F1 v (.str z) from rv)
  refine ⟨z, rfl, k _ H1 _ _ O1 as1 F1 w1 g1 s1 (fun O' as' F' H' w' g' s' _ => ?_) q⟩
  refine ⟨fun i hi => by unfold enS at hi; rw [enD_len, List.length_map, cds, Array.length_toList] at hi; exact hi, fun i x hx => ?_⟩
  obtain ⟨d, hd, rfl⟩ := enD_at hx
  rw [List.getElem?_map, Option.map_eq_some_iff] at hd
  obtain ⟨c, hc, rfl⟩ := hd
  rw [cds, Array.getElem?_toList] at hc
  refine ⟨(Array.getElem?_eq_some_iff.mp hc).1, fun v' H2 hy => ?_⟩
  obtain ⟨T, c', rfl, hT, rfl, hc'⟩ := hy
  have e3 : c = c' := Option.some.inj (hc.symm.trans hc')
  subst e3
  obtain ⟨w2, s2⟩ := w'.data (h := .tup [.int (i : Nat), .str ⟨#[c]⟩]) hT
  exact ⟨_, w2, s2, Dq.tup upd_same (.cons (.int _) (.cons (.str _) .nil))⟩
/-! ### dicts -/
def keyD : Key → PyData
  | .inl i => .int i
  | .inr x => .str x
theorem keyD_dq {k : Key} {v : V} (h : Dq F v (keyD k)) : v = kV k := by
  cases k with
  | inl i => cases (show Dq F v (.int i) from h); rfl
  | inr i => cases (show Dq F v (.str i) from h); rfl
theorem keysD_dq : ∀ {ks : List Key} {vs : List V}, DqAll F vs (ks.map keyD) → vs = ks.map kV
  | [], _, h => by cases h; rfl
  | k :: ks, _, h => by
    cases h with
    | cons h t => rw [keyD_dq h, keysD_dq t]; rfl
def getK {κ : Type} [DecidableEq κ] (kvs : List (κ × PV)) (k : κ) : Option PV := (kvs.find? fun kv => decide (kv.1 = k)).map (·.2)
def setK {κ : Type} [DecidableEq κ] (kvs : List (κ × PV)) (k : κ) (v : PV) : List (κ × PV) :=
  if (kvs.any fun kv => decide (kv.1 = k)) = true then kvs.map (fun kv => if kv.1 = k then (kv.1, v) else kv) else kvs ++ [(k, v)]
section
variable {κ : Type} [DecidableEq κ] {K : KF} {k : κ}
abbrev RKv (K : KF) (F : Hp) (as : List Addr) : List (κ × PV) → List (κ × V) → Prop := Paired (fun (p : κ × PV) (q : κ × V) => p.1 = q.1 ∧ RPV K F as p.2 q.2)
theorem getK_some : ∀ {kvs : List (κ × PV)} {ws : List (κ × V)}, RKv K F as kvs ws → ∀ {x : PV}, getK kvs k = some x → ∃ v, valV ws k = some v ∧ RPV K F as x v
  | _, _, .nil, _, h => nomatch h
  | p :: kvs, q :: ws, .cons ⟨e, r⟩ t, x, h => by
    by_cases hk : p.1 = k
    · have h1 : getK (p :: kvs) k = some p.2 := by simp [getK, List.find?_cons, hk]
      rw [h1] at h
      cases h
      exact ⟨q.2, valV_pos (e ▸ hk), r⟩
    · have h1 : getK (p :: kvs) k = getK kvs k := by simp [getK, List.find?_cons, hk]
      rw [h1] at h
      obtain ⟨v, h2, h3⟩ := getK_some t h
      exact ⟨v, by rw [valV_neg (e ▸ hk)]; exact h2, h3⟩
theorem getK_none : ∀ {kvs : List (κ × PV)} {ws : List (κ × V)}, RKv K F as kvs ws → getK kvs k = none → valV ws k = none
  | _, _, .nil, _ => rfl
  | p :: kvs, q :: ws, .cons ⟨e, r⟩ t, h => by
    by_cases hk : p.1 = k
    · have h1 : getK (p :: kvs) k = some p.2 := by simp [getK, List.find?_cons, hk]
      rw [h1] at h
      cases h
    · have h1 : getK (p :: kvs) k = getK kvs k := by simp [getK, List.find?_cons, hk]
      rw [h1] at h
      rw [valV_neg (e ▸ hk)]
      exact getK_none t h
theorem getK_is {kvs : List (κ × PV)} {ws : List (κ × V)} (h : RKv K F as kvs ws) : (valV ws k).isSome = (getK kvs k).isSome := by
  cases hg : getK kvs k with
  | none => rw [getK_none h hg]; rfl
  | some x =>
    obtain ⟨v, e, _⟩ := getK_some h hg
    rw [e]; rfl
theorem rkv_any : ∀ {kvs : List (κ × PV)} {ws : List (κ × V)}, RKv K F as kvs ws → (ws.any fun kv => decide (kv.1 = k)) = (kvs.any fun kv => decide (kv.1 = k))
  | _, _, .nil => rfl
  | p :: kvs, q :: ws, .cons ⟨e, r⟩ t => by rw [List.any_cons, List.any_cons, rkv_any t, e]
theorem rkv_map {x : PV} {v : V} (hr : RPV K F as x v) : ∀ {kvs : List (κ × PV)} {ws : List (κ × V)}, RKv K F as kvs ws → RKv K F as (kvs.map (fun kv => if kv.1 = k then (kv.1, x) else kv)) (ws.map (fun kv => if kv.1 = k then (kv.1, v) else kv))
  | _, _, .nil => .nil
  | p :: kvs, q :: ws, .cons ⟨e, r⟩ t => by
    refine .cons ?_ (rkv_map hr t)
    by_cases hk : p.1 = k
    · simp only [if_pos hk, if_pos (e ▸ hk : q.1 = k)]; exact ⟨e, hr⟩
    · simp only [if_neg hk, if_neg (e ▸ hk : ¬ q.1 = k)]; exact ⟨e, r⟩
theorem rkv_app {kvs : List (κ × PV)} {ws : List (κ × V)} (h : RKv K F as kvs ws) {kvs' : List (κ × PV)} {ws' : List (κ × V)} (h' : RKv K F as kvs' ws') : RKv K F as (kvs ++ kvs') (ws ++ ws') := by
  induction h with
  | nil => exact h'
  | cons h t ih => exact .cons h ih
theorem setK_rel {kvs : List (κ × PV)} {ws : List (κ × V)} (h : RKv K F as kvs ws) {x : PV} {v : V} (hr : RPV K F as x v) : RKv K F as (setK kvs k x) (putK ws k v) := by
  unfold setK putK
  rw [rkv_any h]
  split
  · exact rkv_map hr h
  · exact rkv_app h (.cons ⟨rfl, hr⟩ .nil)
theorem rkv_len {kvs : List (κ × PV)} {ws : List (κ × V)} (h : RKv K F as kvs ws) : kvs.length = ws.length := Paired.length h
end
theorem own_at {K : KF} {n : Nat} {v : V} {ob : AO} (w : Wd K O as F H) (hO : O[n]? = some ob) (r : RPV K F as (.o n) v) : ∃ p, v = .ref p ∧ as[n]? = some p ∧ OwnAt K F H as p ob := by
  obtain ⟨p, hp, rfl⟩ := r
  obtain ⟨p', h1, h2⟩ := w.at_ hO
  have e6 : p' = p := Option.some.inj (h1.symm.trans hp)
  subst e6
  exact ⟨p', rfl, h1, h2⟩
theorem ae_dict0T (k : Φ (.o O.length) (O ++ [.dT []])) : AE X (.Dict [] [] pos) ρ O Φ := fun as F σ H w r => by
  refine tE_of pe_dnewT ?_
  intro p hp
  have w2 := w.new (ob := .dT []) (h := .dT []) hp ⟨[], rfl, .nil⟩ (fun z => nomatch z)
  exact ⟨.o O.length, _, _, F, w2, Gr.app _ _, Same.refl _, ⟨p, w.at_new p, rfl⟩, k⟩
theorem op_inDict (hu : X.A.units + 1 < cLine) : OpR X.c (compareOp .In) (fun y x H Q => ∃ a o, x = .ref a ∧ DGet H a y o ∧ Q (.bl o.isSome) H) := by
  intro pins s σ H y x u v Q I ry rx h
  obtain ⟨a, o, rfl, g, q⟩ := h
  cases rx
  exact d_in hu I g ry fun s3 I3 => ⟨.bl o.isSome, H, I3, rfl, q⟩
theorem dget_T {K : KF} {n : Nat} {kvs : List (List Key × PV)} {ks : List Key} {u v : V} (w : Wd K O as F H) (hO : O[n]? = some (.dT kvs)) (r : RPV K F as (.o n) v) (ru : RPV K F as (pT (ks.map keyD)) u) :
    ∃ p ws, v = .ref p ∧ as[n]? = some p ∧ F p = none ∧ H p = some (.dT ws) ∧ RKv K F as kvs ws ∧ DGet H p u (valV ws ks) ∧ ∃ q, u = .ref q ∧ H q = some (.tup (ks.map kV)) := by
  obtain ⟨p, rfl, hp, fn, ho, hh, ws, rfl, rws⟩ := own_at w hO r
  cases (show Dq F u (.tuple (ks.map keyD)) from ru) with
  | tup hs ha =>
    rw [keysD_dq ha] at hs
    exact ⟨p, ws, rfl, hp, fn, hh, rws, DGet.t hh (w.rd hs), _, rfl, w.rd hs⟩
theorem b_inDT {n : Nat} {kvs : List (List Key × PV)} {ks : List Key} (hu : X.A.units + 1 < cLine) (hO : O[n]? = some (.dT kvs)) (k : Φ (pB (getK kvs ks).isSome) O) : BinA X (compareOp .In) (pT (ks.map keyD)) (.o n) O Φ := bina_of (op_inDict hu) fun as F H vx vy w rx ry => by
  obtain ⟨p, ws, rfl, hp, fn, hh, rws, g, _⟩ := dget_T w hO ry rx
  exact ⟨p, _, rfl, g, by rw [getK_is rws]; exact PQ.mk w (show RPV X.k F as (pB _) _ from Dq.bl _) k⟩
/-- d[y] = v -/
theorem as_dputT {o i value : Expr} (hu : X.A.units + 1 < cLine) (h : AE X value ρ O fun v O1 => AE X o ρ O1 fun po O2 => AE X i ρ O2 fun pi O3 => ∃ n kvs ks, po = .o n ∧ pi = pT (ks.map keyD) ∧ O3[n]? = some (.dT kvs) ∧ kvs.length < 16000000 ∧ D.nx ρ (O3.set n (.dT (setK kvs ks v))))
    (hs : swapsWith value (some (.Subscript o i pos')) pos.line X.env = pure false := by rfl) : AS X (.Assign [.Subscript o i pos'] value pos) ρ O D := fun as F σ H w r => by
  refine tS_of (ps_dput hu pe_tE pe_tE pe_tE hs) ?_
  refine h.run w r fun v O1 as1 F1 v1 H1 w1 g1 s1 rv r1 h1 => ?_
  refine h1.run w1 r1 fun po O2 as2 F2 v2 H2 w2 g2 s2 ro r2 h2 => ?_
  refine h2.run w2 r2 fun pi O3 as3 F3 v3 H3 w3 g3 s3 ri r3 ⟨n, kvs, ks, e1, e2, hO, hl, q⟩ => ?_
  subst e1; subst e2
  obtain ⟨p, ws, rfl, hp, fn, hh, rws, g, t, rfl, ht⟩ := dget_T w3 hO (ro.mono s3 g3) ri
  have r' := rv.mono (s2.trans s3) (g2.trans g3)
  refine ⟨p, _, rfl, DPut.t hh ht (by rw [← rkv_len rws, sizeLine_eq]; omega), ?_⟩
  exact ⟨ρ, _, as3, F3, w3.set (ob := .dT (setK kvs ks v)) (h := .dT (putK ws ks v1)) hp fn ⟨_, rfl, setK_rel rws r'⟩ (fun z => nomatch z), (g1.trans g2).trans g3, (s1.trans s2).trans s3, r3, q⟩
end
end Al
namespace Al
open PySem PySem.Spec L2
open PyProof.Rows hiding St
/-! ### defs as they are called -/
@[irreducible] def tK (X : Cx) (kws : List Keyword) : TA := fun σ H Q => ∀ pos pins s, Inv X pins σ H s → wpAny (model X.prog X.w) X.A (evalAll ((backToKw pos (keywordEach kws X.env)).map (·.2))) (AP X pins σ Q) X.xe s
section
variable {X : Ax} {e a b c : Expr} {es : List Expr} {kws : List Keyword} {ρ : Env1} {O : Own} {Φ : PV → Own → Prop} {as : List Addr} {F H : Hp} {σ : L2.St} {pos p p2 kpos tpos pos' : Pos} {D : AEnds}
theorem tK_mono {Q Q' : List V → Hp → Prop} (h : tK X.c kws σ H Q) (q : ∀ v H', Q v H' → Q' v H') : tK X.c kws σ H Q' := by
  unfold tK at h ⊢
  exact fun pos pins s I => thn (h pos pins s I) fun _ _ ⟨v, H', I', r, z⟩ => ⟨v, H', I', r, q v H' z⟩
def AK (X : Ax) (kws : List Keyword) (ρ : Env1) (O : Own) (Φ : List PV → Own → Prop) : Prop := ∀ as F σ H, Wd X.k O as F H → RS X.k F as ρ σ → tK X.c kws σ H (PQs X.k as F Φ)
theorem AK.run {Φ : List PV → Own → Prop} (h : AK X kws ρ O Φ) (w : Wd X.k O as F H) (r : RS X.k F as ρ σ) {Q : List V → Hp → Prop}
    (k : ∀ xs O1 as1 F1 vs H1, Wd X.k O1 as1 F1 H1 → Gr as as1 → Same F F1 → RPs X.k F1 as1 xs vs → RS X.k F1 as1 ρ σ → Φ xs O1 → Q vs H1) : tK X.c kws σ H Q :=
  tK_mono (h as F σ H w r) fun vs H1 ⟨xs, O1, as1, F1, w1, g1, s1, rx, q⟩ => k xs O1 as1 F1 vs H1 w1 g1 s1 rx (r.mono s1 g1) q
end
section
variable {P : Program} {w : World} {K : PySem.W.Frag} {mg : Str → Option Value} {base : Heap}
/-- defs with defaults -/
theorem okAD {x qual : Str} {st : Stmt} {f : Addr} {fd : FuncData} {N ps : List Str} {k : Nat} {R : RX} {dvs : List V} {kws : List (Str × V)} (F : FunD K x qual (defArgs st) (defBody st) (defScope st) dvs kws f fd) (S : FnScope N ps (defScope st)) (len : ∀ args O Φ Ξ, R args O Φ Ξ → args.length = ps.length)
    (hbody : ∀ (cdv : Value) (A : Around) (outer : List Env) (s : Shared) (H : Hp) (E : XK) (as0 : List Addr) (F0 : Hp) (args : List PV) (O : Own) (Φ : PV → Own → Prop) (Ξ : Ex → Own → Prop), RoomG k (A.deeper (envOfC qual (defScope st) s.heap.objs.size f cdv)) → R args O Φ Ξ →
      ASs (axN P w K mg base N qual (defScope st) f cdv A outer s H E as0 F0) (defBody st) (args.map some ++ List.replicate (N.length - args.length) none) O { nx := fun _ O' => Gh O.length Φ (.d .none) O', rt := Gh O.length Φ }) : Fn ⟨P, w, K, mg, base⟩ (k + 1) f fd ps R := by
  obtain ⟨oc, od, dV, kV, doc, pm, an, cdv, ct, osl, rfl, lk, hcd, _, _⟩ := F.ex
  refine fnA_of lk hcd S (fun vs H Q E h => ?_) fun A outer s H vs Q E hr h => ?_
  · obtain ⟨O, as, F, args, Φ, Ξ, w, rs, q, _⟩ := h
    rw [← rs.len]
    exact len _ _ _ _ q
  · obtain ⟨O, as, F, args, Φ, Ξ, w0, rs, q, hQ, hE⟩ := h
    have z := hbody cdv A outer s H E as F args O Φ Ξ hr q as F (L2.start N vs) H w0 (by unfold L2.start; rw [← rs.len]; exact RS.start _ rs)
    refine ⟨_, (pss_tSs (X := (axN P w K mg base N qual (defScope st) f cdv A outer s H E as F).c)).nox, ?_⟩
    refine tSs_le z ⟨fun σ' H' y => ?_, fun v H' y => ?_, fun _ _ y => ?_, fun _ _ y => ?_⟩
    · obtain ⟨ρ', O', as', F', w', g', s', r', q'⟩ := y
      exact hQ _ _ (q'.sound (by rw [w0.len]; exact Nat.le_refl _) w0.fa.le w' g' s' .non)
    · exact hQ _ _ (PQ.gh (by rw [w0.len]; exact Nat.le_refl _) w0.fa.le y)
    · obtain ⟨_, _, _, _, _, _, _, _, z⟩ := y
      exact z
    · obtain ⟨_, _, _, _, _, _, _, _, z⟩ := y
      exact z
end
end Al
namespace Al
open PySem PySem.Spec L2
open PyProof.Rows hiding St
/-! ### data that may be compared -/
def Shp (k : Nat) (d : PyData) : Prop := PyData.canLay0 d = true ∧ PyData.depth d ≤ k
theorem Shp.sh {k : Nat} {d : PyData} (h : Shp k d) (hk : k ≤ 64) : SeqAt.shaped d = true := by
  unfold SeqAt.shaped
  rw [h.1, decide_eq_true (Nat.le_trans h.2 hk)]
  rfl
theorem Shp.mono {j k : Nat} {d : PyData} (h : Shp j d) (hk : j ≤ k) : Shp k d := ⟨h.1, Nat.le_trans h.2 hk⟩
theorem shp_int {k : Nat} (i : Int) : Shp k (.int i) := ⟨rfl, Nat.zero_le _⟩
theorem shp_str {k m : Nat} {z : Str} (h : Ok m z) : Shp k (.str z) := ⟨h.strOk, Nat.zero_le _⟩
theorem shp_all {k : Nat} : ∀ {xs : List PyData}, (∀ d ∈ xs, Shp k d) → PyData.canLayAll0 xs = true ∧ PyData.depthAll xs ≤ k
  | [], _ => ⟨rfl, Nat.zero_le _⟩
  | x :: r, h => by
    obtain ⟨h1, h2⟩ := h x (by simp)
    obtain ⟨i1, i2⟩ := shp_all (xs := r) fun d hd => h d (List.mem_cons_of_mem _ hd)
    refine ⟨by simp [PyData.canLayAll0, h1, i1], ?_⟩
    simp only [PyData.depthAll]
    omega
theorem shp_list {k : Nat} {xs : List PyData} (h : ∀ d ∈ xs, Shp k d) : Shp (k + 1) (.list xs) := by
  obtain ⟨h1, h2⟩ := shp_all h
  refine ⟨by simp [PyData.canLay0, h1], ?_⟩
  simp only [PyData.depth]
  omega
theorem shp_tup {k : Nat} {xs : List PyData} (h : ∀ d ∈ xs, Shp k d) : Shp (k + 1) (.tuple xs) := by
  obtain ⟨h1, h2⟩ := shp_all h
  refine ⟨by simp [PyData.canLay0, h1], ?_⟩
  simp only [PyData.depth]
  omega
mutual
theorem eqv_same : ∀ {d : PyData}, PyData.canLay0 d = true → PyData.eqv d d = true
  | .none, _ => rfl
  | .bool b, _ => by simp [PyData.eqv]
  | .int b, _ => by simp [PyData.eqv]
  | .str b, _ => by simp [PyData.eqv]
  | .list xs, h => by simp only [PyData.eqv]; exact eqvAll_same (by simpa [PyData.canLay0] using h)
  | .tuple xs, h => by simp only [PyData.eqv]; exact eqvAll_same (by simpa [PyData.canLay0] using h)
  | .dict _, h => by simp [PyData.canLay0] at h
theorem eqvAll_same : ∀ {ds : List PyData}, PyData.canLayAll0 ds = true → PyData.eqvAll ds ds = true
  | [], _ => rfl
  | d :: ds, h => by
    simp only [PyData.canLayAll0, Bool.and_eq_true] at h
    simp only [PyData.eqvAll, eqv_same h.1, eqvAll_same h.2, Bool.and_self]
end
/-! ### a law -/
def rLaw : RA := fun args O Φ => ∃ ns, args = [.s ns] ∧ ns.length ≤ 63 ∧ O = [] ∧ ∀ O', Φ (pB true) O'
theorem law_sp (K : PySem.W.Frag) (mg : Str → Option Value) (H : Hp) (a : Addr) (ns : List Int) (hl : ns.length ≤ 63) (hS : SqL K H a (ns.map V.int)) : spA K mg (up rLaw) [.ref a] H (fun v _ => v = .bl true) fun _ _ _ => False := by
  refine ⟨[], [], H, [.s ns], fun pv _ => pv = pB true, fun _ _ => False, ⟨Gr.refl _, Same.refl _, rfl, List.nodup_nil, Same.refl _, fun i _ _ h _ => by simp at h⟩, .cons ⟨a, rfl, hS⟩ .nil, ⟨ns, rfl, hl, rfl, fun _ => rfl⟩, fun v H' z => ?_, fun cls d H' z => ?_⟩
  · obtain ⟨pv, O', as', F', w', g', s', r, e⟩ := z
    subst e
    cases (show Dq F' v (.bool true) from r)
    rfl
  · obtain ⟨_, _, _, _, _, _, _, _, q⟩ := z
    exact q
/-! ### signs, words, machines -/
def sgn (c : Nat) : Bool := decide (97 ≤ c) && decide (c ≤ 122)
theorem sgn_iff {c : Nat} : sgn c = true ↔ 97 ≤ c ∧ c ≤ 122 := by unfold sgn; rw [Bool.and_eq_true, decide_eq_true_eq, decide_eq_true_eq]
structure WordOk (z : Str) : Prop where
  len : z.length ≤ 400
  all : ∀ c ∈ cds z, sgn c = true
theorem WordOk.ok {z : Str} (h : WordOk z) : Ok 400 z := ⟨h.len, fun c hc => by have := sgn_iff.mp (h.all c hc); omega⟩
/-- a step: room, sign's code, room -/
abbrev Stp := Nat × Nat × Nat
structure Mach where
  n : Nat
  fs : List Nat
  ls : List Nat
  st : List Stp
abbrev iD (k : Nat) : PyData := .int (k : Nat)
abbrev sgD (c : Nat) : PyData := .str ⟨#[c]⟩
abbrev stD (s : Stp) : PyData := .tuple [iD s.1, sgD s.2.1, iD s.2.2]
abbrev rmsD (rs : List Nat) : PyData := .list (rs.map iD)
abbrev vD (v : List Int) : PyData := .list (v.map PyData.int)
abbrev stsD (st : List Stp) : PyData := .list (st.map stD)
abbrev mD (m : Mach) : PyData := .tuple [iD m.n, rmsD m.fs, rmsD m.ls, stsD m.st]
/-- rising rooms below n -/
structure Rms (n : Nat) (rs : List Nat) : Prop where
  up : rs.Pairwise (· < ·)
  lt : ∀ r ∈ rs, r < n
structure StOk (n : Nat) (s : Stp) : Prop where
  a : s.1 < n
  c : sgn s.2.1 = true
  b : s.2.2 < n
structure MOk (m : Mach) : Prop where
  n0 : 1 ≤ m.n
  n1 : m.n ≤ 12
  fs : Rms m.n m.fs
  ls : Rms m.n m.ls
  st : ∀ s ∈ m.st, StOk m.n s
  nd : m.st.Nodup
  len : m.st.length ≤ 200
theorem Rms.len {n : Nat} {rs : List Nat} (h : Rms n rs) : rs.length ≤ n := by
  have key : ∀ {rs : List Nat} {b : Nat}, rs.Pairwise (· < ·) → (∀ r ∈ rs, b ≤ r ∧ r < n) → rs.length + b ≤ max n b := by
    intro rs
    induction rs with
    | nil => intro b _ _; simp; omega
    | cons r rs ih =>
      intro b hp hb
      rw [List.pairwise_cons] at hp
      have h1 := hb r (by simp)
      have := ih (b := r + 1) hp.2 fun x hx => ⟨hp.1 x hx, (hb x (List.mem_cons_of_mem _ hx)).2⟩
      rw [List.length_cons]
      omega
  have := key (b := 0) h.up fun r hr => ⟨Nat.zero_le _, h.lt r hr⟩
  omega
theorem Rms.one {n r : Nat} (h : r < n) : Rms n [r] := ⟨by simp, fun x hx => by
  have e : x = r := by simpa using hx
  omega⟩
theorem Rms.nil {n : Nat} : Rms n [] := ⟨by simp, fun x hx => by cases hx⟩
theorem shp_rms {k : Nat} (rs : List Nat) : Shp (k + 1) (rmsD rs) := shp_list fun d hd => by
  obtain ⟨r, _, rfl⟩ := List.mem_map.mp hd
  exact shp_int _
theorem shp_v {k : Nat} (rs : List Int) : Shp (k + 1) (vD rs) := shp_list fun d hd => by
  obtain ⟨r, _, rfl⟩ := List.mem_map.mp hd
  exact shp_int _
theorem any_rms (rs : List Nat) (r : Nat) : ((rs.map iD).any fun y => PyData.eqv y (iD r)) = decide (r ∈ rs) := by
  rw [Bool.eq_iff_iff, List.any_eq_true, decide_eq_true_eq]
  constructor
  · rintro ⟨d, hd, he⟩
    obtain ⟨x, hx, rfl⟩ := List.mem_map.mp hd
    have e : (x : Int) = r := by simpa [iD, PyData.eqv] using he
    have e2 : x = r := by omega
    subst e2; exact hx
  · intro h
    exact ⟨iD r, List.mem_map.mpr ⟨r, h, rfl⟩, by simp [iD, PyData.eqv]⟩
/-! ### vectors -/
def alone (n : Nat) (rs : List Nat) : List Int := (List.range n).map fun r => if decide (r ∈ rs) = true then 1 else 0
def mvd (n : Nat) (st : List Stp) (v : List Int) (c : Nat) : List Int := (List.range n).map fun r => ((st.filter fun s => decide (s.2.1 = c) && decide (s.2.2 = r)).map fun s => v.getD s.1 0).sum
def mvs (m : Mach) (v : List Int) (cs : List Nat) : List Int := cs.foldl (fun v c => mvd m.n m.st v c) v
theorem alone_len (n : Nat) (rs : List Nat) : (alone n rs).length = n := by unfold alone; simp
theorem mvd_len (n : Nat) (st : List Stp) (v : List Int) (c : Nat) : (mvd n st v c).length = n := by unfold mvd; simp
theorem mvs_len (m : Mach) : ∀ (cs : List Nat) {v : List Int}, v.length = m.n → (mvs m v cs).length = m.n
  | [], v, h => h
  | c :: cs, v, h => mvs_len m cs (v := mvd m.n m.st v c) (mvd_len _ _ _ _)
theorem mvs_snoc (m : Mach) (v : List Int) (cs : List Nat) (c : Nat) : mvs m v (cs ++ [c]) = mvd m.n m.st (mvs m v cs) c := by
  unfold mvs
  rw [List.foldl_append]; rfl
theorem mvd_nil (n : Nat) (v : List Int) (c : Nat) : mvd n [] v c = List.replicate n 0 := by
  unfold mvd
  simp [List.map_const']
theorem mvd_get (n : Nat) (st : List Stp) (v : List Int) (c : Nat) {r : Nat} (h : r < n) : (mvd n st v c)[r]? = some ((st.filter fun s => decide (s.2.1 = c) && decide (s.2.2 = r)).map fun s => v.getD s.1 0).sum := by
  unfold mvd
  rw [List.getElem?_map, List.getElem?_range h]; rfl
theorem mvd_no {n : Nat} {st : List Stp} {v : List Int} {c : Nat} {s : Stp} (h : ¬ s.2.1 = c) : mvd n (st ++ [s]) v c = mvd n st v c := by
  unfold mvd
  refine List.map_congr_left fun r _ => ?_
  rw [List.filter_append]
  simp [h]
theorem mvd_yes {n : Nat} {st : List Stp} {v : List Int} {c : Nat} {s : Stp} {x : Int} (h : s.2.1 = c) (hx : (mvd n st v c)[s.2.2]? = some x) : mvd n (st ++ [s]) v c = (mvd n st v c).set s.2.2 (x + v.getD s.1 0) := by
  have hb : s.2.2 < n := by have := (List.getElem?_eq_some_iff.mp hx).1; rw [mvd_len] at this; exact this
  rw [mvd_get n st v c hb] at hx
  have hx := (Option.some.inj hx).symm
  refine List.ext_getElem? fun r => ?_
  by_cases hr : r < n
  · rw [mvd_get n _ v c hr, List.getElem?_set]
    by_cases e : s.2.2 = r
    · rw [if_pos e, if_pos (by rw [mvd_len]; omega), List.filter_append, List.map_append, List.sum_append]
      subst e
      rw [hx]
      simp [h]
    · rw [if_neg e, mvd_get n st v c hr, List.filter_append]
      simp [e]
  · rw [List.getElem?_eq_none (by rw [mvd_len]; omega), List.getElem?_eq_none (by rw [List.length_set, mvd_len]; omega)]
def waysN (m : Mach) (cs : List Nat) (fs ls : List Nat) : Int := (ls.map fun r => (mvs m (alone m.n fs) cs).getD r 0).sum
def rowsV (m : Mach) (fs : List Nat) (cs : List Nat) : List (List Int) := (List.range (cs.length + 1)).map fun i => mvs m (alone m.n fs) (cs.take i)
def inV (v : List Int) : List Nat := (List.range v.length).filter fun r => decide (0 < v.getD r 0)
/-! ### promises -/
def rSign : RA := fun args O Φ => ∃ c, args = [pS ⟨#[c]⟩] ∧ Φ (pB (sgn c)) O
def rWithin : RA := fun args O Φ => ∃ i a b, args = [pI i, pI a, pI b] ∧ Φ (pB (decide (a ≤ i) && decide (i ≤ b))) O
def rIsStep : RA := fun args O Φ => ∃ n s, args = [.d (iD n), .d (stD s)] ∧ StOk n s ∧ Φ (pB true) O
def rLookWord : RA := fun args O Φ => ∃ z, args = [pS z] ∧ WordOk z ∧ Φ pN O
/-- an owned vector -/
abbrev lv (v : List Int) : AO := .lst ((v.map PyData.int).map PV.d)
/-- p is the vector v, frozen or owned -/
def IsV (O : Own) (p : PV) (v : List Int) : Prop := p = .d (vD v) ∨ ∃ n, p = .o n ∧ O[n]? = some (lv v)
theorem isV_d {O : Own} {v : List Int} : IsV O (.d (vD v)) v := .inl rfl
theorem IsV.app {O l : Own} {p : PV} {v : List Int} (h : IsV O p v) : IsV (O ++ l) p v := by
  rcases h with h | ⟨n, h, e⟩
  · exact .inl h
  · exact .inr ⟨n, h, by rw [List.getElem?_append_left (List.getElem?_eq_some_iff.mp e).1]; exact e⟩
def rMoved : RA := fun args O Φ => ∃ m p v c, args = [.d (mD m), p, pS ⟨#[c]⟩] ∧ MOk m ∧ IsV O p v ∧ v.length = m.n ∧ Φ (.o O.length) (O ++ [lv (mvd m.n m.st v c)])
def rSumAt : RA := fun args O Φ => ∃ p v rs, args = [p, .d (rmsD rs)] ∧ IsV O p v ∧ (∀ r ∈ rs, r < v.length) ∧ rs.length ≤ 1000 ∧ ClO O ∧ Φ (pI (rs.map fun r => v.getD r 0).sum) O
/-- owned rooms -/
abbrev lr (rs : List Nat) : AO := .lst ((rs.map iD).map PV.d)
def rInVector : RA := fun args O Φ => ∃ v, args = [.d (vD v)] ∧ v.length ≤ 1000 ∧ Φ (.o O.length) (O ++ [lr (inV v)])
end Al
namespace Al
open PySem PySem.Spec L2
open PyProof.Rows hiding St
section
variable {X : Ax} {O : Own} {Φ : PV → Own → Prop} {m : Mach}
theorem ixm0 (k : Φ (.d (iD m.n)) O) : IxA X (.d (mD m)) (pI 0) O Φ := ix_T rfl k
theorem ixm1 (k : Φ (.d (rmsD m.fs)) O) : IxA X (.d (mD m)) (pI 1) O Φ := ix_T rfl k
theorem ixm2 (k : Φ (.d (rmsD m.ls)) O) : IxA X (.d (mD m)) (pI 2) O Φ := ix_T rfl k
theorem ixm3 (k : Φ (.d (stsD m.st)) O) : IxA X (.d (mD m)) (pI 3) O Φ := ix_T rfl k
theorem ixs0 {s : Stp} (k : Φ (.d (iD s.1)) O) : IxA X (.d (stD s)) (pI 0) O Φ := ix_T rfl k
theorem ixs1 {s : Stp} (k : Φ (pS ⟨#[s.2.1]⟩) O) : IxA X (.d (stD s)) (pI 1) O Φ := ix_T rfl k
theorem ixs2 {s : Stp} (k : Φ (.d (iD s.2.2)) O) : IxA X (.d (stD s)) (pI 2) O Φ := ix_T rfl k
theorem getD_of {v : List Int} {i : Nat} (h : i < v.length) : v[i]? = some (v.getD i 0) := by
  rw [List.getElem?_eq_getElem h, List.getD_eq_getElem?_getD, List.getElem?_eq_getElem h]; rfl
theorem ix_v {v : List Int} {i : Nat} (h : i < v.length) (k : Φ (pI (v.getD i 0)) O) : IxA X (.d (vD v)) (.d (iD i)) O Φ := ix_L (i := (i : Nat)) (a := .int (v.getD i 0)) (by
  refine atI_nat ?_
  rw [List.getElem?_map, getD_of h]; rfl) k
theorem ix_V {p : PV} {v : List Int} {i : Nat} (hv : IsV O p v) (h : i < v.length) (k : Φ (pI (v.getD i 0)) O) : IxA X p (.d (iD i)) O Φ := by
  rcases hv with rfl | ⟨n, rfl, e⟩
  · exact ix_v h k
  · refine ix_O (i := (i : Nat)) (a := pI (v.getD i 0)) e (atI_nat ?_) k
    rw [List.getElem?_map, List.getElem?_map, getD_of h]; rfl
end
/-! ### what the laws draw -/
def rRooms : RA := fun args O Φ => ∃ h a s n, args = [.o h, .d (iD n)] ∧ O[h]? = some (hnd a s) ∧ HandOk a s ∧ 1 ≤ n ∧ n ≤ 100 ∧ ClO O ∧ ∀ rs a' s', HandOk a' s' → Rms n rs → Φ (.d (rmsD rs)) (O.set h (hnd a' s'))
structure LetOk (z : Str) : Prop where
  l0 : 1 ≤ z.length
  l1 : z.length ≤ 26
  all : ∀ c ∈ cds z, sgn c = true
def rLetters : RA := fun args O Φ => ∃ h a s, args = [.o h] ∧ O[h]? = some (hnd a s) ∧ HandOk a s ∧ ∀ z a' s', HandOk a' s' → LetOk z → z.length ≤ 10 → Φ (pS z) (O.set h (hnd a' s'))
def rMachine : RA := fun args O Φ => ∃ h a s u e z, args = [.o h, pI u, pI e, pS z] ∧ O[h]? = some (hnd a s) ∧ HandOk a s ∧ 1 ≤ u ∧ u ≤ 12 ∧ 0 ≤ e ∧ e ≤ 180 ∧ LetOk z ∧ ClO O ∧ ∀ m a' s', HandOk a' s' → MOk m → (m.n : Int) ≤ u → (∀ t ∈ m.st, t.2.1 ∈ cds z) → (m.st.length : Int) < u + e → Φ (.d (mD m)) (O.set h (hnd a' s'))
def rWord : RA := fun args O Φ => ∃ h a s z u, args = [.o h, pS z, pI u] ∧ O[h]? = some (hnd a s) ∧ HandOk a s ∧ LetOk z ∧ 0 ≤ u ∧ u ≤ 1000 ∧ ClO O ∧ ∀ y a' s', HandOk a' s' → (y.length : Int) ≤ u → (∀ c ∈ cds y, c ∈ cds z) → Φ (pS y) (O.set h (hnd a' s'))
end Al
namespace Al
open PySem PySem.Spec L2
open PyProof.Rows hiding St
theorem in_letters (c : Nat) : decide (c ∈ (Str.ofString "abcdefghijklmnopqrstuvwxyz").cps.toList) = sgn c := by
  have e : (Str.ofString "abcdefghijklmnopqrstuvwxyz").cps.toList = [97, 98, 99, 100, 101, 102, 103, 104, 105, 106, 107, 108, 109, 110, 111, 112, 113, 114, 115, 116, 117, 118, 119, 120, 121, 122] := by decide +kernel
  rw [e, Bool.eq_iff_iff, decide_eq_true_eq, sgn_iff]
  simp only [List.mem_cons, List.not_mem_nil, or_false]
  omega
theorem c_len1 {X : Ax} {O : Own} {Φ : PV → Own → Prop} {c : Nat} (k : Φ (pI 1) O) : CallA X (.builtin "len") [pS ⟨#[c]⟩] O Φ := c_lenS (show 1 ≤ sizeLine by rw [sizeLine_eq]; decide) k
end Al
namespace Al
theorem andT {a b : Prop} [Decidable a] [Decidable b] (ha : a) (hb : b) : (decide a && decide b) = true := by rw [decide_eq_true ha, decide_eq_true hb]; rfl
end Al
namespace Al
open PySem PySem.Spec L2
open PyProof.Rows hiding St
theorem take_app {O l : Own} : (O ++ l).take O.length = O := by simp
/-- what stands behind O is let go -/
theorem gh_drop {Φ : PV → Own → Prop} {O l : Own} {pv : PV} (cl : ClO O) (hb : pv.blw O.length = true) (k : Φ pv O) : Gh O.length Φ pv (O ++ l) :=
  .drop O.length (Nat.le_refl _) hb (by rw [take_app]; exact cl) (by rw [take_app]; exact .keep k)
def kS (s : Stp) : List Key := [.inl (s.1 : Nat), .inr ⟨#[s.2.1]⟩, .inl (s.2.2 : Nat)]
theorem kS_inj {s t : Stp} (h : kS s = kS t) : s = t := by
  obtain ⟨a, c, b⟩ := s
  obtain ⟨a', c', b'⟩ := t
  simp only [kS, List.cons.injEq, Sum.inl.injEq, Sum.inr.injEq, and_true] at h
  obtain ⟨h1, h2, h3⟩ := h
  have e2 : c = c' := by
    have := congrArg Str.cps h2
    simpa using this
  have e1 : a = a' := by omega
  have e3 : b = b' := by omega
  rw [e1, e2, e3]
theorem kS_new {l : List Stp} {s : Stp} {x : PV} (h : s ∉ l) : getK (l.map fun t => (kS t, x)) (kS s) = none ∧ setK (l.map fun t => (kS t, x)) (kS s) x = (l ++ [s]).map fun t => (kS t, x) := by
  have hn : ((l.map fun t => (kS t, x)).any fun kv => decide (kv.1 = kS s)) = false := by
    rw [List.any_eq_false]
    intro p hp
    obtain ⟨t, ht, rfl⟩ := List.mem_map.mp hp
    simp only [decide_eq_true_eq]
    intro e
    exact h (kS_inj e ▸ ht)
  refine ⟨?_, ?_⟩
  · unfold getK
    rw [List.find?_eq_none.mpr]
    · rfl
    · intro p hp
      have := List.any_eq_false.mp hn p hp
      simpa using this
  · unfold setK
    rw [if_neg (by rw [hn]; exact Bool.false_ne_true)]
    simp
theorem nodup_take {α : Type} {l : List α} (h : l.Nodup) {i : Nat} {x : α} (hx : l[i]? = some x) : x ∉ l.take i := by
  intro hm
  obtain ⟨j, hj, e⟩ := List.getElem_of_mem hm
  have hj' : j < i := by rw [List.length_take] at hj; omega
  obtain ⟨hi, e2⟩ := List.getElem?_eq_some_iff.mp hx
  rw [List.getElem_take] at e
  have := (List.getElem_inj h).mp (e.trans e2.symm)
  omega
theorem take_succ_of {α : Type} {l : List α} {i : Nat} {x : α} (hx : l[i]? = some x) : l.take (i + 1) = l.take i ++ [x] := by rw [List.take_add_one, hx]; rfl
end Al
namespace Al
open PySem PySem.Spec L2
open PyProof.Rows hiding St
abbrev g2 (K : PySem.W.Frag) (i j : Nat) : TG := gTup K 2 (gCons (gName i) (gCons (gName j) gNil))
abbrev g3 (K : PySem.W.Frag) (i j k : Nat) : TG := gTup K 3 (gCons (gName i) (gCons (gName j) (gCons (gName k) gNil)))
theorem mono2 {K : PySem.W.Frag} {i j : Nat} : TGMono (g2 K i j) := mono_tup (mono_cons mono_name (mono_cons mono_name mono_nil))
theorem wipes2 {K : PySem.W.Frag} {vs : List Nat} {i j : Nat} (hi : i ∈ vs) (hj : j ∈ vs) : Wipes vs (g2 K i j) := wipes_tup (wipes_cons mono_name (mono_cons mono_name mono_nil) (wipes_name hi) (wipes_cons mono_name mono_nil (wipes_name hj) wipes_nil))
theorem agr2 {K : KF} {i j : Nat} {x y : PyData} {ρ : Env1} {O : Own} {Ψ : Env1 → Own → Prop} (h : Ψ ((ρ.set i (some (.d x))).set j (some (.d y))) O) : AGr K (g2 K.K i j) (pT [x, y]) ρ O Ψ := agr_tup rfl (agrs_cons (agrs_cons (agrs_nil h)))
theorem rep_one {α : Type} (x : α) : ∀ k, (List.replicate k [x]).flatten = List.replicate k x
  | 0 => rfl
  | k + 1 => by rw [List.replicate_succ, List.flatten_cons, rep_one x k]; rfl
theorem rng_map (n : Nat) : rngP 0 n = (List.range n).map fun i => PV.d (iD i) := by
  unfold rngP
  refine List.map_congr_left fun i _ => ?_
  show PV.d (.int (0 + (i : Int))) = PV.d (.int i)
  rw [Int.zero_add]
theorem fm_filter {α β : Type} (l : List α) (p : α → Bool) (g : α → β) : (l.filterMap fun x => if p x = true then some (g x) else none) = (l.filter p).map g := by
  induction l with
  | nil => rfl
  | cons x l ih =>
    rw [List.filterMap_cons, List.filter_cons]
    by_cases h : p x = true
    · rw [if_pos h, if_pos h, ih]; rfl
    · rw [if_neg h, if_neg h, ih]
end Al
namespace Al
open PySem PySem.Spec L2
open PyProof.Rows hiding St
theorem enD_ints (v : List Int) : enD (v.map PyData.int) = v.zipIdx.map fun p => pT [iD p.2, .int p.1] := by
  unfold enD
  rw [List.zipIdx_map, List.map_map]
  rfl
theorem inV_zip (v : List Int) : (v.zipIdx.filterMap fun p => if decide (0 < p.1) = true then some (iD p.2) else none) = (inV v).map iD := by
  have h : v.zipIdx = (List.range v.length).map fun i => (v.getD i 0, i) := by
    refine List.ext_getElem? fun i => ?_
    rw [List.getElem?_zipIdx, List.getElem?_map]
    by_cases hi : i < v.length
    · rw [List.getElem?_range hi, getD_of hi]; simp
    · rw [List.getElem?_eq_none (by omega), List.getElem?_eq_none (by rw [List.length_range]; omega)]; rfl
  rw [h, List.filterMap_map]
  exact fm_filter (List.range v.length) (fun r => decide (0 < v.getD r 0)) iD
end Al
namespace Al
open PySem PySem.Spec L2
open PyProof.Rows hiding St
section
variable {X : Ax} {e a b c elt tg iter : Expr} {ifs es : List Expr} {ρ : Env1} {O : Own} {Φ : PV → Own → Prop} {pos p p2 : Pos} {scope : Scope} {g : TG} {vs : List Nat}
/-- some of the items are kept, in their order; each gives what f says; the owned objects keep J -/
theorem lc_sel {α : Type} (mg : TGMono g) (h : AI X tg iter ρ O fun items G O1 => O.length ≤ O1.length ∧ ∃ (src : List α) (inj : α → PV) (f : α → PyData) (J : Own → Prop), items = src.map inj ∧ src.length ≤ 15999999 ∧ J O1 ∧ (∀ O', J O' → O'.length = O1.length ∧ ClO O' ∧ ∀ acc, G (O' ++ [.lst acc])) ∧
      (∀ x ∈ src, ∀ O' (acc : List PyData), J O' → AGr X.k g (inj x) (wipeA ρ vs) (O' ++ [.lst (acc.map PV.d)]) fun ρ2 O2 => ATb X scope ifs ρ2 O2 fun b O3 => if b = true then AEb X scope elt ρ2 O3 fun y O4 => ∃ O'', O4 = O'' ++ [.lst (acc.map PV.d)] ∧ J O'' ∧ y = .d (f x) else ∃ O'', O3 = O'' ++ [.lst (acc.map PV.d)] ∧ J O'') ∧
      (∀ O' sub, J O' → List.Sublist sub src → Φ (pL (sub.map f)) O')) : LcA X scope elt tg iter ifs g vs ρ O Φ := fun as F σ H w r R k => by
  refine h as F σ H w r R fun J H1 items G O1 as1 F1 w1 g1 s1 jok ⟨hle, src, inj, f, Jo, hit, hlen, j0, jc, step, done⟩ => ?_
  subst hit
  refine k J H1 _ G O1 as1 F1 w1 g1 s1 jok ⟨fun i acc O2 => ∃ O' sub, O2 = O' ++ [.lst acc] ∧ Jo O' ∧ acc = (sub.map f).map PV.d ∧ List.Sublist sub (src.take i), ⟨O1, [], rfl, j0, rfl, List.nil_sublist _⟩, ?_, ?_, ?_⟩
  · rintro i acc O2 ⟨O', sub, rfl, hj, _⟩
    obtain ⟨h1, h2, h3⟩ := jc O' hj
    exact ⟨by rw [← h1]; simp, h3 acc⟩
  · rintro i x acc O2 hx ⟨O', sub, rfl, hj, hacc, hsub⟩
    rw [List.getElem?_map, Option.map_eq_some_iff] at hx
    obtain ⟨x, hx, rfl⟩ := hx
    have hm : x ∈ src := List.mem_of_getElem? hx
    have hi : i < src.length := (List.getElem?_eq_some_iff.mp hx).1
    have et := take_succ_of hx
    have hl : acc.length < 16000000 := by
      rw [hacc, List.length_map, List.length_map]
      have h1 := hsub.length_le
      rw [List.length_take] at h1
      omega
    intro as2 F2 σ2 H2 v w2 r2 rv
    have z := step x hm O' (sub.map f) hj
    rw [← hacc] at z
    replace z := z as2 F2 σ2 H2 v w2 r2 rv
    refine mg _ _ _ _ _ z fun σ' H' ⟨ρ3, O3, as', F', w', g', s', r', q⟩ => ⟨ρ3, O3, as', F', w', g', s', r', ?_⟩
    intro s0 H0 C cl fp as3 F3 σ3 H3 w3 r3
    refine tTs_mono (q s0 H0 C cl fp as3 F3 σ3 H3 w3 r3) fun b H5 ⟨O5, as5, F5, w5, g5, s5, q5⟩ => ⟨O5, as5, F5, w5, g5, s5, ?_⟩
    cases b with
    | false =>
      simp only [Bool.false_eq_true, if_false] at q5 ⊢
      obtain ⟨O'', e5, j5⟩ := q5
      exact ⟨O'', sub, e5, j5, hacc, by rw [et]; exact hsub.trans (List.sublist_append_left _ _)⟩
    | true =>
      simp only [if_true] at q5 ⊢
      intro s0 H0 C cl fp
      refine (q5 s0 H0 C cl fp).mono fun y O6 ⟨O'', e6, j6, e8⟩ => ?_
      subst e6 e8
      have hlen2 : O''.length = O1.length := (jc O'' j6).1
      refine ⟨acc, by rw [← hlen2]; simp, hl, O'', sub ++ [x], by rw [← hlen2]; simp, j6, by rw [hacc]; simp, ?_⟩
      rw [et]
      exact hsub.append (List.Sublist.refl _)
  · rintro acc O2 ⟨O', sub, rfl, hj, hacc, hsub⟩
    obtain ⟨h1, h2, _⟩ := jc O' hj
    subst hacc
    rw [← h1]
    rw [List.length_map, List.take_length] at hsub
    exact gh_list0 h2 (by omega) (done O' sub hj hsub)
end
theorem at_mem {α : Type} {xs : List α} {r : Int} (h0 : 0 ≤ r) (h1 : r < xs.length) : ∃ x, atI xs r = some x ∧ x ∈ xs := by
  obtain ⟨k, rfl⟩ := Int.eq_ofNat_of_zero_le h0
  have hm : k < xs.length := by omega
  exact ⟨_, atI_nat (List.getElem?_eq_getElem hm), List.getElem_mem hm⟩
theorem set_app {O l : Own} {h : Nat} {y : AO} (hh : h < O.length) : O.set h y ++ l = (O ++ l).set h y := by rw [List.set_append_left _ _ hh]
theorem app_lt {O l : Own} {h : Nat} (hh : h < O.length) : h < (O ++ l).length := by rw [List.length_append]; omega
theorem app_last {O : Own} {h : Nat} {y x : AO} (hh : h < O.length) : ((O ++ [x]).set h y)[O.length]? = some x := by
  rw [List.getElem?_set_ne (by omega)]; simp
theorem set_last {O : Own} {h : Nat} {y x x' : AO} (hh : h < O.length) : ((O ++ [x]).set h y).set O.length x' = (O ++ [x']).set h y := by
  rw [← set_app hh, ← set_app hh, List.set_append_right _ _ (by rw [List.length_set]; omega)]
  simp
theorem lst_below {n : Nat} (ds : List PyData) : (AO.lst (ds.map PV.d)).below n = true := by
  show (ds.map PV.d).all _ = true
  rw [List.all_map]
  exact List.all_eq_true.mpr fun _ _ => rfl
/-- a tuple of data and, last, an owned list of data: both frozen -/
theorem gh_tupL {Φ : PV → Own → Prop} {O : Own} {ds pre : List PyData} (cl : ClO O) (k : Φ (pT (pre ++ [.list ds])) O) : Gh O.length Φ (.o (O.length + 1)) (O ++ [.lst (ds.map PV.d)] ++ [.tup (pre.map PV.d ++ [.o O.length])]) := by
  have e1 : frzO O.length (.list ds) (O ++ [.lst (ds.map PV.d)] ++ [.tup (pre.map PV.d ++ [.o O.length])]) = O ++ [.gone] ++ [.tup ((pre ++ [PyData.list ds]).map PV.d)] := by
    unfold frzO
    rw [List.append_assoc, List.set_append_right _ _ (Nat.le_refl _), Nat.sub_self, List.map_append, own_frz_below cl]
    have e2 : (pre.map PV.d).map (PV.frz O.length (.list ds)) = pre.map PV.d := by rw [List.map_map]; rfl
    simp [AO.frz, e2, PV.frz]
  have n1 : (PV.o (O.length + 1)).frz O.length (.list ds) = PV.o (O.length + 1) := by
    show (if O.length + 1 = O.length then PV.d (.list ds) else PV.o (O.length + 1)) = _
    rw [if_neg (by omega)]
  refine .frL O.length (ds := ds) (by simp) ?_
  rw [e1, n1]
  refine .frT (O.length + 1) (ds := pre ++ [.list ds]) (by simp) ?_
  have n2 : (PV.o (O.length + 1)).frz (O.length + 1) (.tuple (pre ++ [.list ds])) = pT (pre ++ [.list ds]) := by
    show (if O.length + 1 = O.length + 1 then PV.d (.tuple (pre ++ [.list ds])) else PV.o (O.length + 1)) = _
    rw [if_pos rfl]
  rw [n2]
  have e3 : (frzO (O.length + 1) (.tuple (pre ++ [.list ds])) (O ++ [.gone] ++ [.tup ((pre ++ [PyData.list ds]).map PV.d)])).take O.length = O := by
    unfold frzO
    rw [← List.map_take, List.take_set_of_le (Nat.le_succ _), List.append_assoc, take_app, own_frz_below]
    exact List.all_eq_true.mpr fun y hy => ao_below_mono (Nat.le_succ _) (List.all_eq_true.mp cl y hy)
  refine .drop O.length (Nat.le_refl _) rfl (by rw [e3]; exact cl) ?_
  rw [e3]
  exact .keep k
theorem eqv_stD (s t : Stp) : PyData.eqv (stD s) (stD t) = decide (s = t) := by
  obtain ⟨a, c, b⟩ := s
  obtain ⟨a', c', b'⟩ := t
  rw [Bool.eq_iff_iff, decide_eq_true_eq]
  simp only [PyData.eqv, PyData.eqvAll, Bool.and_eq_true, beq_iff_eq, and_true, Prod.mk.injEq]
  constructor
  · rintro ⟨h1, h2, h3⟩
    refine ⟨by omega, ?_, by omega⟩
    have := congrArg Str.cps h2
    simpa using this
  · rintro ⟨rfl, rfl, rfl⟩
    exact ⟨rfl, rfl, rfl⟩
theorem any_sts (sts : List Stp) (t : Stp) : ((sts.map stD).any fun y => PyData.eqv y (stD t)) = decide (t ∈ sts) := by
  rw [Bool.eq_iff_iff, List.any_eq_true, decide_eq_true_eq]
  constructor
  · rintro ⟨d, hd, he⟩
    obtain ⟨x, hx, rfl⟩ := List.mem_map.mp hd
    rw [eqv_stD, decide_eq_true_eq] at he
    exact he ▸ hx
  · intro h
    exact ⟨stD t, List.mem_map.mpr ⟨t, h, rfl⟩, by rw [eqv_stD, decide_eq_true_eq]⟩
theorem sgn_lt {c : Nat} (h : sgn c = true) : c < 1114112 := by have := sgn_iff.mp h; omega
theorem shp_st {n k : Nat} {t : Stp} (h : StOk n t) : Shp (k + 1) (stD t) := shp_tup fun d hd => by
  simp only [List.mem_cons, List.not_mem_nil, or_false] at hd
  rcases hd with rfl | rfl | rfl
  · exact shp_int _
  · exact shp_str (ok_one (sgn_lt h.c))
  · exact shp_int _
theorem shp_sts {n k : Nat} {sts : List Stp} (h : ∀ t ∈ sts, StOk n t) : Shp (k + 2) (stsD sts) := shp_list fun d hd => by
  obtain ⟨t, ht, rfl⟩ := List.mem_map.mp hd
  exact shp_st (h t ht)
theorem LetOk.ok {z : Str} (h : LetOk z) : Ok 26 z := ⟨h.l1, fun c hc => sgn_lt (h.all c hc)⟩
theorem letOk_lit {z : Str} (h : (decide (1 ≤ z.length) && decide (z.length ≤ 26) && (cds z).all sgn) = true) : LetOk z := by
  rw [Bool.and_eq_true, Bool.and_eq_true, List.all_eq_true] at h
  exact ⟨of_decide_eq_true h.1.1, of_decide_eq_true h.1.2, h.2⟩
theorem rooms_at {O : Own} {h : Nat} {a s : Int} {n : Nat} {Φ : PV → Own → Prop} (hh : h < O.length) (ok : HandOk a s) (n0 : 1 ≤ n) (n1 : n ≤ 100) (cl : ClO O) (k : ∀ rs a' s', HandOk a' s' → Rms n rs → Φ (.d (rmsD rs)) (O.set h (hnd a' s'))) : rRooms [.o h, .d (iD n)] (O.set h (hnd a s)) Φ :=
  ⟨h, a, s, n, rfl, List.getElem?_set_self hh, ok, n0, n1, cl_hnd cl, fun rs a' s' o1 hr => by rw [List.set_set]; exact k rs a' s' o1 hr⟩
theorem rms_sub {n : Nat} {rs : List Nat} (h : List.Sublist rs (List.range n)) : Rms n rs := ⟨(List.pairwise_lt_range (n := n)).sublist h, fun r hr => List.mem_range.mp (h.subset hr)⟩
end Al
namespace Al
open PySem PySem.Spec L2
open PyProof.Rows hiding St
theorem first_of (l : List Int) : ∃ c, atI (l.map PyData.int ++ [PyData.int 0]) 0 = some (PyData.int c) := by
  cases l with
  | nil => exact ⟨0, rfl⟩
  | cons x r => exact ⟨x, atI_nat (j := 0) rfl⟩
end Al
namespace Al
open L2
theorem at_last {α : Type} (l : List α) (x : α) : atI (l ++ [x]) (-1) = some x := by
  unfold atI ixN
  rw [if_neg (by decide), if_pos (by rw [List.length_append, List.length_singleton]; omega)]
  have e : ((-1 : Int) + ((l ++ [x]).length : Nat)).toNat = l.length := by rw [List.length_append, List.length_singleton]; omega
  show (l ++ [x])[((-1 : Int) + ((l ++ [x]).length : Nat)).toNat]? = some x
  rw [e]
  simp
end Al
namespace Al
open PySem PySem.Spec L2
open PyProof.Rows hiding St
end Al
namespace Al
open PySem L2
end Al
namespace Al
open PySem PySem.Spec L2
open PyProof.Rows hiding St
/-! ### the end of a law, where the promise may lean on «nothing is being shown» -/
section
variable {P : Program} {w : World} {K : PySem.W.Frag} {mg mb : Str → Option Value} {k : Nat} {fa a : Addr} {fd : FuncData} {x : Str} {sp : Sp} {s₁ : Shared} {vs : List Value} {ns : List Int}
/-- the call, from an abstract heap that tracks at most the script -/
theorem call_from (KX : K.In s₁.heap) (hns : s₁.heap.Ns mainGlobals mg) (hb : s₁.heap.Ns builtinsNs mb) (hbb : ∀ x : Str, x ≠ "__name__" → mb x = bootBuiltins x) (hlim : s₁.heap.NoLimit) (hg : s₁.gens = #[])
    (ha : s₁.heap.get? a = some { cls := .type "list", data := .seq vs.toArray }) (hr : Room k callerA)
    (F : ∀ base : Heap, K.In base → base.Ns mainGlobals mg → FnA P w K mg base (CX P w) k fa fd [x] sp) (hbind : ∀ (s : Shared) (u : Value), BindsTo s fd ⟨[u], []⟩ [(x, u)])
    {H : Hp} (hO : Only H) (hsp : sp [.ref a] H (fun v _ => v = .bl true) fun _ _ _ => False) (hok : HOk P w H s₁.heap) (hA : ∀ b, H b ≠ none → b = a) (hK : H a ≠ none → K.lookup a = none) :
    codeAny (model P w) callerA (.call (.ref fa) ⟨[.ref a], []⟩) (fun r s' => r = .ok (.ret (.bool true)) ∧ OldK s₁.heap s'.heap ∧ s'.os = s₁.os ∧ AllBare s'.gens) s₁ := by
  have dict_free : ∀ {b : Addr} {o : Obj} {es : Array DictEntry} {ep : Nat}, s₁.heap.get? b = some o → o.data = .dict es ep → H b = none := by
    intro b o es ep e d
    refine Option.eq_none_iff_forall_ne_some.mpr fun u q => ?_
    have e' : b = a := hA b (fun z => by rw [z] at q; cases q)
    rw [e', ha] at e
    cases e
    cases d
  have ns_of : ∀ {b : Addr} {m : Str → Option Value}, s₁.heap.Ns b m → (hidT s₁.heap H).Ns b m := fun {b m} z => by
    obtain ⟨o, es, ep, e, d, r⟩ := z
    exact ⟨o, es, ep, hidT_get e (dict_free e d), d, r⟩
  have K_in : K.In (hidT s₁.heap H) := by
    intro b o e
    refine hidT_get (KX b o e) (Option.eq_none_iff_forall_ne_some.mpr fun u q => ?_)
    have q' : H b ≠ none := fun z => by rw [z] at q; cases q
    have e' : b = a := hA b q'
    rw [e'] at q' e
    rw [hK q'] at e
    cases e
  have M : Mod K mg (hidT s₁.heap H) := by
    obtain ⟨mc, h1, h2⟩ := hlim
    exact ⟨K_in, ns_of hns, ⟨mb, ns_of hb, hbb⟩, mc, ns_of h1, h2⟩
  have e0 : Env0 P w K mg (hidT s₁.heap H) callerA [] s₁ H := { frames := rfl, mod := M, bs := fun b o e => of_hidT e, bsz := Nat.le_of_eq (hidT_size _ _), funs := trivial, frf := fun b hb => (List.not_mem_nil (show b ∈ ([] : List Addr) from hb)).elim, hok := hok, bare := .of_eq hg }
  have z := (F _ K_in (ns_of hns)).run callerA [] s₁ H ⟨[.ref a], []⟩ [.ref a] [.ref a] _ _ ⟨hr, rfl⟩ e0 (hbind s₁ (.ref a)) (.cons rfl .nil) hsp
  refine codeAny_mono z fun r s' h => ?_
  match r, h with
  | .error e, h =>
    obtain ⟨_, _, _, _, _, _, _, _, _, _, _, _, q⟩ := h
    exact q.elim
  | .ok (.ret u), ⟨v, H', os, bare, un, hok', r', q⟩ =>
    obtain rfl : v = .bl true := q
    obtain rfl : u = Value.bool true := r'
    refine ⟨rfl, OldK.of_keep fun b o e => ?_, os, bare⟩
    rcases hO b with q | ⟨ob, xs, q⟩
    · exact un.keep b o e q (fun z => List.not_mem_nil (show b ∈ ([] : List Addr) from z)) (List.not_mem_nil)
    · have e1 := (hok b _ q).1
      rw [e] at e1
      cases e1
      exact (hok' b _ (un.frzs b _ _ q)).1
theorem law_callA (KX : K.In s₁.heap) (hns : s₁.heap.Ns mainGlobals mg) (hb : s₁.heap.Ns builtinsNs mb) (hbb : ∀ x : Str, x ≠ "__name__" → mb x = bootBuiltins x) (hlim : s₁.heap.NoLimit) (hg : s₁.gens = #[])
    (ha : s₁.heap.get? a = some { cls := .type "list", data := .seq vs.toArray }) (hi : IntsAre vs ns) (hl : ns.length ≤ sizeLine) (hr : Room k callerA)
    (F : ∀ base : Heap, K.In base → base.Ns mainGlobals mg → FnA P w K mg base (CX P w) k fa fd [x] sp) (hbind : ∀ (s : Shared) (u : Value), BindsTo s fd ⟨[u], []⟩ [(x, u)])
    (hsp : ∀ H : Hp, SqL K H a (ns.map V.int) → sp [.ref a] H (fun v _ => v = .bl true) fun _ _ _ => False) :
    codeAny (model P w) callerA (.call (.ref fa) ⟨[.ref a], []⟩) (fun r s' => r = .ok (.ret (.bool true)) ∧ OldK s₁.heap s'.heap ∧ s'.os = s₁.os ∧ AllBare s'.gens) s₁ := by
  have rv := vals_ints hi
  have lenV := hi.length
  by_cases hk : K.lookup a = none
  · have no : ∀ {b : Addr}, b ≠ a → (fun b => if b = a then some (HO.frz { cls := .type "list", data := .seq vs.toArray } (.lst (ns.map V.int))) else none : Hp) b = none := fun {b} h => if_neg h
    have at_a : (fun b => if b = a then some (HO.frz { cls := .type "list", data := .seq vs.toArray } (.lst (ns.map V.int))) else none : Hp) a = some (HO.frz { cls := .type "list", data := .seq vs.toArray } (.lst (ns.map V.int))) := if_pos rfl
    refine call_from (H := fun b => if b = a then some (HO.frz { cls := .type "list", data := .seq vs.toArray } (.lst (ns.map V.int))) else none) KX hns hb hbb hlim hg ha hr F hbind (fun b => ?_) (hsp _ (.inl (.inr ⟨_, at_a⟩))) (fun b u z => ?_) (fun b z => ?_) fun _ => hk
    · by_cases e : b = a
      · subst e; exact .inr ⟨_, _, at_a⟩
      · exact .inl (no e)
    · by_cases e : b = a
      · subst e
        have e2 := at_a.symm.trans z
        cases e2
        exact ⟨ha, by rw [List.length_map]; exact hl, vs, _, rv, ha⟩
      · rw [no e] at z; cases z
    · exact Decidable.byContradiction fun e => z (no e)
  · obtain ⟨o, hk⟩ := Option.ne_none_iff_exists'.mp hk
    have e := KX a o hk
    rw [ha] at e
    cases e
    refine call_from (H := fun _ => none) KX hns hb hbb hlim hg ha hr F hbind (fun _ => .inl rfl) (hsp _ (.inr ⟨_, vs.toArray, _, hk, rfl, rfl, rfl, ?_, ?_⟩)) (fun b u z => by cases z) (fun b z => absurd rfl z) fun z => absurd rfl z
    · rw [List.size_toArray, lenV]; exact hl
    · simpa using rv
end
theorem walk_ofA {l : PySem.W.OpenLaw} {n k : Nat} {q : Program} {loose : List Str} {XP : (Str → Option Value) → Heap → Prop} {YP : World → Heap → Prop} {d : DefRec} {K : Params → PySem.W.Frag} {x : Str} {R : RX}
    (hn : l.most = some n) (hn2 : n ≤ sizeLine) (hdf : d.params.defaults = []) (hr : Room k callerA) (hY : ∀ (w : World) (h : Heap), YP w h → (K w.params).In h)
    (F : ∀ (w : World) (mg : Str → Option Value) (fa : Addr) (h : Heap), (K w.params).In h → h.Ns mainGlobals mg → mg d.name = some (.ref fa) →
      ∃ fd : FuncData, (∀ (s : Shared) (u : Value), BindsTo s fd ⟨[u], []⟩ [(x, u)]) ∧ ∀ base : Heap, (K w.params).In base → base.Ns mainGlobals mg → Fn ⟨l.prog, w, K w.params, mg, base⟩ k fa fd [x] R)
    (hsp : ∀ (K : PySem.W.Frag) (mg : Str → Option Value) (H : Hp) (a : Addr) (ns : List Int), ns.length ≤ n → SqL K H a (ns.map V.int) → spA K mg R [.ref a] H (fun v _ => v = .bl true) fun _ _ _ => False) :
    PySem.W.WalkO q loose XP YP l.row.toRowW d [] (fun f vs => PySem.call f vs) := by
  refine Att.attach_call hn hdf fun w s₀ s₁ mg mb fa o pm cd doc a vs ns G Y ho hd hcd hmg hobj hints hlen hg => ?_
  obtain ⟨fd, hb, hF⟩ := F w mg fa _ (hY w _ Y) G.T.g hmg
  exact law_callA (hY w _ Y) G.T.g G.T.b G.T.builtins G.T.nolimit hg hobj hints (Nat.le_trans hlen hn2) hr hF hb fun H hS => hsp _ mg H a ns hlen hS
end Al
namespace Al
open PySem PySem.Spec L2
open PyProof.Rows hiding St
/-! ### repr -/
/-- data that may be shown -/
structure Rp (n : Nat) (d : PyData) : Prop where
  sh : PyData.showable d = true
  ls : PyData.leavesShort 600 d = true
  wt : PyData.weight d ≤ n
theorem Rp.mono {m n : Nat} {d : PyData} (h : Rp m d) (hmn : m ≤ n) : Rp n d := ⟨h.sh, h.ls, Nat.le_trans h.wt hmn⟩
theorem Rp.len {n : Nat} {d : PyData} (h : Rp n d) (hn : n ≤ 27000) : d.shown.length ≤ sizeLine := by
  have h1 := PyData.shown_le 600 (by decide) d h.ls
  have h2 : (600 + 2) * d.weight ≤ 602 * 27000 := Nat.mul_le_mul (by decide) (Nat.le_trans h.wt hn)
  rw [sizeLine_eq]
  omega
section
variable {X : Ax} {O : Own} {Φ : PV → Own → Prop}
mutual
/-- v reads as x; its dicts are empty, and none is the modules' -/
inductive Rz (hp : Heap) : Value → PyData → List Addr → Prop
  | rnon : Rz hp .none .none []
  | rbl (b : Bool) : Rz hp (.bool b) (.bool b) []
  | rint (i : Int) (t : Tok) : Rz hp (.int i t) (.int i) []
  | rstr (x : Str) (t : Tok) : Rz hp (.str x t) (.str x) []
  | rlst {q : Addr} {ob : Obj} {its : Array Value} {n : Nat} {zs : List PyData} {bs : List Addr} (c1 : hp.get? q = some ob) (c2 : ob.cls = .type "list") (c3 : ob.data = .seq its n) (c4 : RzAll hp its.toList zs bs) : Rz hp (.ref q) (.list zs) (q :: bs)
  | rtup {q : Addr} {ob : Obj} {its : Array Value} {n : Nat} {zs : List PyData} {bs : List Addr} (c1 : hp.get? q = some ob) (c2 : ob.cls = .type "tuple") (c3 : ob.data = .seq its n) (c4 : RzAll hp its.toList zs bs) : Rz hp (.ref q) (.tuple zs) bs
  | rdct {q : Addr} {ob : Obj} {n : Nat} (c1 : hp.get? q = some ob) (c2 : ob.cls = .type "dict") (c3 : ob.data = .dict #[] n) (c4 : (q == sysModules) = false) : Rz hp (.ref q) (.dict []) [q]
inductive RzAll (hp : Heap) : List Value → List PyData → List Addr → Prop
  | rnil : RzAll hp [] [] []
  | rcons {v : Value} {vs : List Value} {z : PyData} {zs : List PyData} {cs bs : List Addr} : Rz hp v z cs → RzAll hp vs zs bs → RzAll hp (v :: vs) (z :: zs) (cs ++ bs)
end
mutual
theorem Rz.rd {hp : Heap} : ∀ {v : Value} {z : PyData} {bs : List Addr}, Rz hp v z bs → Reads hp v z bs
  | _, _, _, .rnon => .none
  | _, _, _, .rbl b => .bool b
  | _, _, _, .rint i t => .int i t
  | _, _, _, .rstr x t => .str x t
  | _, _, _, .rlst c1 c2 c3 c4 => .list c1 c2 c3 c4.rd
  | _, _, _, .rtup c1 c2 c3 c4 => .tuple c1 c2 c3 c4.rd
  | _, _, _, .rdct c1 c2 c3 _ => Reads.dict (kvs := []) (as := []) (bs := []) c1 c2 c3 .nil .nil
theorem RzAll.rd {hp : Heap} : ∀ {v : List Value} {z : List PyData} {bs : List Addr}, RzAll hp v z bs → ReadsAll hp v z bs
  | _, _, _, .rnil => .nil
  | _, _, _, .rcons a b => .cons a.rd b.rd
end
end
end Al
/-! ### own exceptions over any built-in class: the call and the __init__, for classes whose __new__ is their base's -/
namespace PySem
open PySem.HandSPX (excO)
/-- what makes a class whose bases are bm -/
def NewF (bm : List Value) (newId : String) : Prop := ∃ B initId bmB, ExcBaseFacts B newId initId bmB ∧ bm.contains (.type B) = true ∧ bm.contains (.type "AttributeError") = false ∧ bm.contains (.type "NameError") = false
/-- what B.__init__ is -/
structure IniF (B initId : String) (bm : List Value) : Prop where
  has : bm.contains (.type B) = true
  init : Slot B "__init__" initId
  entry : entryFor table initId = some Builtin.«BaseException.__init__»
  split : splitId initId = some (B, "__init__")
  kind : builtinKind initId = some .slot
  row : Manifest.signature? initId = some ⟨.positional, "*", B, .self, [⟨"args", .varPos, false⟩]⟩
  star : (B != "*") = true
end PySem
/-! ### own exceptions over any built-in class: made by their __init__ -/
namespace Al
open PySem PySem.Spec L2
open PyProof.Rows hiding St
open PySem.W (Looks findIn subIn typeIn keepIn clsIn)
/-- what the written part says of an own exception class at C over B -/
structure XC (K : PySem.W.Frag) (C : Addr) (B : String) (bm : List Value) (newId initId : String) : Prop where
  fn : NewF bm newId
  fi : IniF B initId bm
  st : StoreFacts B bm "object.__setattr__" "object"
  cls : ∃ nm q N bs sn sub ab col dd k0 k1 k2 k3 k5, K.lookup C = some (excClassObj nm q C N bs bm true sn sub ab col dd k0 k1 k2 k3 k5 newId)
  sa : findIn K (.ref C) "__setattr__" = some (some (.builtin "object.__setattr__"))
  exC : subIn K (.ref C) (.type "BaseException") = some true
  tyC : typeIn K (.ref C) = some (.type "type")
  kC : keepIn K (.ref C) = true
/-! ### __init__ of such a class -/
end Al
namespace Al
open PySem PySem.Spec L2
open PyProof.Rows hiding St
open PySem.W (Looks findIn subIn typeIn keepIn clsIn)
/-- the promise of __init__: the fields fs, the last one first -/
def spI (C : Addr) (fs : List Str) : Sp := fun vs H Q _ => ∃ (a : Addr) (ys : List V), vs = .ref a :: ys ∧ ys.length = fs.length ∧ H a = some (exo a C none) ∧ (fs = [] → Q .non H) ∧ (fs ≠ [] → ∀ dx, H dx = none → dx ≠ a → Q .non (upd (upd H dx (exd dx (fs.zip ys).reverse)) a (exo a C (some dx))))
/-! ### C(e, ..), made -/
end Al
namespace Al
open PySem PySem.Spec L2
open PyProof.Rows hiding St
section
variable {X : Ax} {e a b c : Expr} {es : List Expr} {ρ : Env1} {O : Own} {Φ : PV → Own → Prop} {as : List Addr} {F H : Hp} {σ : L2.St} {pos p p2 kpos tpos pos' : Pos} {D : AEnds} {sts : List Stmt}
/-- p is a list of the values xs, frozen or owned -/
def IsL (O : Own) (p : PV) (xs : List PV) : Prop := (∃ ds, p = pL ds ∧ xs = ds.map PV.d) ∨ ∃ n, p = .o n ∧ O[n]? = some (.lst xs)
theorem isL_d {ds : List PyData} : IsL O (pL ds) (ds.map PV.d) := .inl ⟨ds, rfl, rfl⟩
theorem isL_o {n : Nat} {xs : List PV} (h : O[n]? = some (.lst xs)) : IsL O (.o n) xs := .inr ⟨n, rfl, h⟩
theorem IsL.look {K : KF} {q : PV} {xs : List PV} {v : V} (h : IsL O q xs) (w : Wd K O as F H) (r : RPV K F as q v) : ∃ l vs, v = .ref l ∧ SqL K.K H l vs ∧ RPs K F as xs vs := by
  rcases h with ⟨ds, rfl, rfl⟩ | ⟨n, rfl, h⟩
  · cases (show Dq F v (.list ds) from r) with
    | lst hs ha => exact ⟨_, _, rfl, SqL.of (w.rd hs), data_rps ha⟩
  · obtain ⟨p, hp, rfl⟩ := r
    obtain ⟨p', h1, fn, ho, hh, vs, rfl, rvs⟩ := w.at_ h
    have e6 : p' = p := Option.some.inj (h1.symm.trans hp)
    subst e6
    exact ⟨_, _, rfl, SqL.of hh, rvs⟩
theorem IsL.app {q : PV} {xs : List PV} {l : Own} (h : IsL O q xs) : IsL (O ++ l) q xs := by
  rcases h with h | ⟨n, h, e⟩
  · exact .inl h
  · exact .inr ⟨n, h, by rw [List.getElem?_append_left (List.getElem?_eq_some_iff.mp e).1]; exact e⟩
/-! ### zip -/
theorem ag_tup2 {n1 n2 : Expr} {k : Nat} {x y : PV} {Ψ : Env1 → Own → Prop} (hc : X.calm = true) (h : AGs X [n1, n2] [x, y] ρ O Ψ) (hn : (assignEach [n1, n2] X.env).length = 2 := by rfl) (hst : (assignEach [n1, n2] X.env).findIdx? (·.1) = none := by rfl) : AG X (.Tuple [n1, n2] k pos) (.p x y) ρ O Ψ := fun as F σ H v w r rv => by
  refine tG_of (pg_tup hc pgs_tGs hn hst) ?_
  obtain ⟨q, u1, u2, rfl, hq, r1, r2⟩ := rv
  exact ⟨_, _, rfl, SqT.of (w.rd hq), rfl, h as F σ H _ w r (.cons r1 (.cons r2 .nil))⟩
/-! ### == of owned lists of data -/
/-- p is the data d, frozen or an owned list of it -/
def IsD (O : Own) (p : PV) (d : PyData) : Prop := p = .d d ∨ ∃ n ds, d = .list ds ∧ p = .o n ∧ O[n]? = some (.lst (ds.map PV.d))
theorem isD_d {d : PyData} : IsD O (.d d) d := .inl rfl
theorem isD_o {n : Nat} {ds : List PyData} (h : O[n]? = some (.lst (ds.map PV.d))) : IsD O (.o n) (.list ds) := .inr ⟨n, ds, rfl, rfl, h⟩
theorem IsD.dp {K : KF} {q : PV} {d : PyData} {v : V} (h : IsD O q d) (w : Wd K O as F H) (r : RPV K F as q v) (hc : PyData.canLay0 d = true) : Dp K.K H v d := by
  rcases h with rfl | ⟨n, ds, rfl, rfl, h⟩
  · exact (Dq_same w.ex r).dp hc
  · exact own_dp w h r hc
theorem b_inX {q : PV} {x : PyData} {xs : List PyData} (h2 : IsD O q (.list xs)) (hu : X.A.units + 65 < cLine) (ha : SeqAt.shaped x = true) (hb : SeqAt.shaped (.list xs) = true) (k : Φ (pB (xs.any fun y => PyData.eqv y x)) O) : BinA X (compareOp .In) (.d x) q O Φ := bina_of (op_inD hu) fun as F H vx vy w rx ry =>
  ⟨x, xs, (Dq_same w.ex rx).dp (sh_cl ha), h2.dp w ry (sh_cl hb), ha, hb, PQ.mk w (show RPV X.k F as (pB _) _ from Dq.bl _) k⟩
/-! ### methods of owned lists -/
theorem own_lst {K : KF} {n : Nat} {xs : List PV} {v : V} (w : Wd K O as F H) (hO : O[n]? = some (.lst xs)) (r : RPV K F as (.o n) v) : ∃ q vs, v = .ref q ∧ as[n]? = some q ∧ F q = none ∧ H q = some (.lst vs) ∧ RPs K F as xs vs := by
  obtain ⟨q, rfl, h1, fn, ho, hh, vs, rfl, rvs⟩ := own_at w hO r
  exact ⟨q, vs, rfl, h1, fn, hh, rvs⟩
theorem rps_take {K : KF} : ∀ {ps : List PV} {vs : List V} (i : Nat), RPs K F as ps vs → RPs K F as (ps.take i) (vs.take i)
  | _, _, 0, _ => .nil
  | _, _, _ + 1, .nil => .nil
  | _, _, i + 1, .cons h t => .cons h (rps_take i t)
theorem rps_drop {K : KF} : ∀ {ps : List PV} {vs : List V} (i : Nat), RPs K F as ps vs → RPs K F as (ps.drop i) (vs.drop i)
  | _, _, 0, h => h
  | _, _, _ + 1, .nil => .nil
  | _, _, i + 1, .cons _ t => rps_drop i t
/-! ### list(x), tuple(x) -/
theorem c_list {q : PV} {xs : List PV} (h : IsL O q xs) (k : Φ (.o O.length) (O ++ [.lst xs])) : CallA X (.type "list") [q] O Φ := calla_of call_list_of fun as F H vs w rx => by
  obtain ⟨v, rfl, r⟩ := rps1 rx
  obtain ⟨l, vs, rfl, sq, rvs⟩ := h.look w r
  refine ⟨l, vs, rfl, .inl sq, fun q hq => ?_⟩
  exact ⟨.o O.length, _, _, F, w.new (ob := .lst xs) (h := .lst vs) hq ⟨_, rfl, rvs⟩ (fun z => nomatch z), Gr.app _ _, Same.refl _, ⟨q, w.at_new q, rfl⟩, k⟩
end
end Al
namespace Al
open PySem PySem.Spec L2
end Al
namespace Al
open PySem PySem.Spec L2
open PyProof.Rows hiding St
/-! ### ways as lists of rooms -/
def lastR (p : List Nat) : Nat := p.getLastD 0
/-- where they end -/
def ends (ps : List (List Nat)) : List Nat := ps.map lastR
theorem Rms.nd {n : Nat} {rs : List Nat} (h : Rms n rs) : rs.Nodup := h.up.imp fun h => Nat.ne_of_lt h
end Al
namespace Al
open PySem PySem.Spec L2
open PyProof.Rows hiding St
/-! ### promises of the laws' own -/
end Al
namespace Al
open PySem PySem.Spec L2
open PyProof.Rows hiding St
theorem MOk.shp {m : Mach} (h : MOk m) : Shp 3 (mD m) := shp_tup fun d hd => by
  simp only [List.mem_cons, List.not_mem_nil, or_false] at hd
  rcases hd with rfl | rfl | rfl | rfl
  · exact shp_int _
  · exact shp_rms _
  · exact shp_rms _
  · exact shp_sts h.st
end Al
namespace Al
open PySem PySem.Spec L2
open PyProof.Rows hiding St
open PySem.W (Looks findIn subIn typeIn keepIn clsIn)
/-! ### raise -/
/-- what is known of the own exception class x, whose fields are fs -/
def ClsX (G : Gx) (x : Str) (fs : List Str) : Prop := ∃ C B bm newId initId fI fd ps, XC G.K C B bm newId initId ∧ findIn G.K (.ref C) "__init__" = some (some (.ref fI)) ∧ typeIn G.K (.ref fI) = some (.type "function") ∧ FnOk G.P G.w G.K G.mg G.base CX0 1 fI fd ps (spI C fs) ∧ Binds G.K fd ps [] ∧ G.mg x = some (.ref C)
/-! ### try -/
end Al
namespace Al
open PySem PySem.Spec L2
open PyProof.Rows hiding St
open PySem.W (Looks findIn subIn typeIn keepIn clsIn)
/-! ### try -/
def AEnds.un (D : AEnds) (i : Nat) : AEnds := { nx := fun ρ' O' => D.nx (ρ'.set i none) O', rt := D.rt, bk := fun ρ' O' => D.bk (ρ'.set i none) O', ct := fun ρ' O' => D.ct (ρ'.set i none) O' }
theorem RS.floor {K : KF} {as : List Addr} {F : Hp} {a1 : List Addr} {F1 : Hp} {ρ : Env1} {σ : L2.St} (r : RS K F as ρ σ) : RS ⟨K.K, K.mg, a1, F1⟩ F as ρ σ := Paired.mapP r fun p q z pv hp => let ⟨v, h1, h2⟩ := z pv hp; ⟨v, h1, rpv_floor h2⟩
/-! ### e.f, isinstance(e, c) of an exception that was caught -/
/-- what the class named x says of its instances' attributes -/
structure GetX (K : PySem.W.Frag) (C : Addr) : Prop where
  ga : findIn K (.ref C) "__getattribute__" = some (some (.builtin "BaseException.__getattribute__"))
  gg : findIn K (.ref C) "__getattr__" = some none
  sb : subIn K (.ref C) (.type "BaseException") = some true
  hd : PySem.W.hasDictIn K C = true
  ha : findIn K (.ref C) "__class__" = some (some (.builtin "object.__class__"))
  hn : PySem.W.specialIn K (.builtin "object.__class__") "__get__" = some (some (.builtin "getset_descriptor.__get__"))
  ht : PySem.W.takesIn K (.builtin "object.__class__") = some true
  hm : PySem.W.mroIn K C (.type "object") = some true
def NoAttr (G : Gx) (x f : Str) : Prop := ∀ C, G.mg x = some (.ref C) → findIn G.K (.ref C) f = some none
end Al
namespace PySem.W
open PySem.Calls PyProof.Rows
end PySem.W
namespace Al
open PySem PySem.Spec L2
open PyProof.Rows hiding St
open PySem.W (Looks findIn subIn typeIn keepIn clsIn)
end Al
/-! ### reversed(text) -/
namespace Al
open PySem PySem.Spec L2
open PyProof.Rows hiding St
def IsRs (h : Heap) (a : Addr) (x : Str) (t : Tok) (i : Int) : Prop := ∃ o, h.get? a = some o ∧ o.cls = .type "reversed" ∧ o.data = .fields #[.str x t, rawInt i]
section
variable {prog : Program} {w : World} {A : Around} {E : Value → Shared → Prop} {s : Shared}
theorem IsRs.typeIs {a : Addr} {x : Str} {t : Tok} {i : Int} (h : IsRs s.heap a x t i) : s.TypeIs (.ref a) "reversed" := let ⟨o, ho, hc, _⟩ := h; ⟨o, ho, hc⟩
end
/-- the signs of x, the last one first -/
def Itr (x : Str) : It := ⟨fun i _ => i < x.cps.size, fun i H v H' => H' = H ∧ ∃ c, x.cps[x.cps.size - 1 - i]? = some c ∧ v = .str ⟨#[c]⟩, fun i _ => x.cps.size ≤ i⟩
/-! ### own exception classes, together -/
open PySem.W (Looks findIn subIn typeIn keepIn clsIn)
/-- the own exception class x with the fields fs -/
structure XI (G : Gx) (x : Str) (fs : List Str) (C : Addr) : Prop where
  mg : G.mg x = some (.ref C)
  cls : ClsX G x fs
  get : GetX G.K C
  no : ∀ f ∈ fs, findIn G.K (.ref C) f = some none
  sb : subIn G.K (.ref C) (.type "BaseException") = some true
  ty : typeIn G.K (.ref C) = some (.type "type")
  cd : (clsIn G.K C).isSome = true
def XD (G : Gx) (x : Str) (fs : List Str) : Prop := ∃ C, XI G x fs C
section
variable {G : Gx} {X : Ax} {x c : Str} {fs : List Str} {b : Bool} {T : String}
theorem XD.cls (h : XD G x fs) : ClsX G x fs := h.choose_spec.cls
theorem XD.nm (h : XD (gx X) x fs) (hg : Gl X.c x) (hdb : (x == ("__debug__" : Str)) = false) : ∃ cv, Names X.c x cv := by
  obtain ⟨C', h⟩ := h
  exact ⟨_, hg, hdb, .inl h.mg⟩
theorem XI.self {C : Addr} (h : XI G x fs C) : subIn G.K (.ref C) (.ref C) = some true := by
  obtain ⟨C', B, bm, newId, initId, fI, fd, ps, xc, _, _, _, _, hm⟩ := h.cls
  have e := hm.symm.trans h.mg
  cases e
  obtain ⟨nm, q, N, bs, sn, sub, ab, col, dd, k0, k1, k2, k3, k5, hC⟩ := xc.cls
  have e1 : PySem.W.clsIn G.K C = some { name := nm, bases := bs, mro := .ref C :: bm, ns := N, qualname := q, hasDict := true, slotNames := sn, subclasses := sub, abstract := ab, collection := col, hasDel := false } := by unfold PySem.W.clsIn; rw [hC] <;> rfl
  show PySem.W.mroIn G.K C (.ref C) = some true
  unfold PySem.W.mroIn
  rw [e1, Option.bind_some]
  show (if (Value.ref C :: bm).isEmpty = true then none else some ((Value.ref C :: bm).contains (Value.ref C))) = some true
  rw [if_neg (by simp), List.contains_cons]
  simp
end
end Al
namespace Al
open PySem PySem.Spec L2
open PyProof.Rows hiding St
open PySem.W (Looks findIn subIn typeIn keepIn clsIn)
end Al
namespace PySem.F
end PySem.F
namespace Al
open PySem PySem.Spec L2
open PyProof.Rows hiding St
open PySem.W (Looks findIn subIn typeIn keepIn clsIn)
end Al
namespace Al
open PySem PySem.Spec L2
open PyProof.Rows hiding St
/-! ### ways by number: the mathematics -/
/-- the rooms to which steps from r by c lead -/
def nx (m : Mach) (r c : Nat) : List Nat := (m.st.filter fun s => decide (s.1 = r) && decide (s.2.1 = c)).map fun s => s.2.2
/-- in how many ways cs leads from r to a last -/
def ev (m : Mach) : List Nat → Nat → Nat
  | [], r => if r ∈ m.ls then 1 else 0
  | c :: cs, r => ((nx m r c).map (ev m cs)).sum
/-- how many stand ahead of place k -/
def pre (f : Nat → Nat) (os : List Nat) (k : Nat) : Nat := ((os.take k).map f).sum
/-- what may stand at number i of a way -/
def opt (m : Mach) (cs : List Nat) (w : List Nat) : Nat → List Nat
  | 0 => m.fs
  | i + 1 => nx m (w.getD i 0) (cs.getD i 0)
end Al
/-! ### rules -/
namespace Al
open PySem PySem.Spec L2
open PyProof.Rows hiding St
section
variable {X : Ax} {e a b c : Expr} {es : List Expr} {ρ : Env1} {O : Own} {Φ : PV → Own → Prop} {as : List Addr} {F H : Hp} {σ : L2.St} {pos p p2 kpos tpos pos' : Pos} {D : AEnds} {i j : Int}
theorem ai_enumL {elts : List Expr} {kk : Nat} {Ψ : List PV → (Own → Prop) → Own → Prop} (hg : Gl X.c "enumerate") (hm : X.mg "enumerate" = none) (h : AE X e ρ O fun x O1 => ∃ ds, IsL O1 x (ds.map PV.d) ∧ Ψ (enD ds) (fun O => IsL O x (ds.map PV.d)) O1) (hs : starEach [e] X.env = [(false, eval e X.env)] := by rfl) :
    AI X (.Tuple elts kk tpos) (.Call (.Name "enumerate" p) [e] [] pos) ρ O Ψ := fun as F σ H w r R k => by
  refine tI_of (pi_enum hg hm pa_tA hs) ?_
  have h' : AA X [e] ρ O fun xs O1 => ∃ q ds, xs = [q] ∧ IsL O1 q (ds.map PV.d) ∧ Ψ (enD ds) (fun O => IsL O q (ds.map PV.d)) O1 := aa_cons (h.mono fun x O1 ⟨ds, ex, q⟩ => aa_nil ⟨x, ds, rfl, ex, q⟩) hs
  refine h'.run w r fun xs O1 as1 F1 v1 H1 w1 g1 s1 rx r1 ⟨q, ds, ex, hL, hq⟩ => ?_
  subst ex
  obtain ⟨v, rfl, rv⟩ := rps1 rx
  obtain ⟨l, vs, rfl, sq, _⟩ := hL.look w1 rv
  refine ⟨l, vs, rfl, sq, k _ H1 _ _ O1 as1 F1 w1 g1 s1 (fun O' as' F' H' w' g' s' hG => ?_) hq⟩
  obtain ⟨l', ws, e1, t1, rr⟩ := hG.look w' (rv.mono s' g')
  cases e1
  refine ⟨fun i hi => ⟨ws, t1, by rw [enD_len] at hi; rw [← rr.len, List.length_map]; exact hi⟩, fun i x hx => ?_⟩
  obtain ⟨d, hd, rfl⟩ := enD_at hx
  obtain ⟨v, hv, hdv⟩ := rr.get (i := i) (x := PV.d d) (by rw [List.getElem?_map, hd]; rfl)
  refine ⟨⟨ws, v, t1, hv⟩, fun v' H2 hy => ?_⟩
  obtain ⟨T, x, rfl, hT, rfl, hy⟩ := hy
  have e3 : v = x := Option.some.inj (hv.symm.trans (hy ws t1))
  subst e3
  obtain ⟨w2, s2⟩ := w'.data (h := .tup [.int (i : Nat), v]) hT
  exact ⟨_, w2, s2, Dq.tup upd_same (.cons (.int _) (.cons (Dq_same s2 (show Dq F' v d from hdv)) .nil))⟩
/-- xs.index(x) -/
theorem m_index {q : PV} {ds : List PyData} {d z : PyData} {j : Nat} (hu : X.A.units + 65 < cLine) (h : IsD O q (.list ds)) (s1 : SeqAt.shaped (.list ds) = true) (s2 : SeqAt.shaped d = true) (hz : ds[j]? = some z) (he : PyData.eqv z d = true) (hno : ∀ (m : Nat) (z' : PyData), m < j → ds[m]? = some z' → PyData.eqv z' d = false) (k : Φ (pI (j : Nat)) O) : MtA X "list.index" q [.d d] O Φ := mta_of (mt_indexD hu) fun as F H v vs w rx rxs => by
  obtain ⟨u, rfl, r1⟩ := rps1 rxs
  have hq := h.dp w rx (sh_cl s1)
  obtain ⟨l, rfl⟩ : ∃ l, v = .ref l := by
    cases hq <;> exact ⟨_, rfl⟩
  exact ⟨l, u, d, ds, j, z, rfl, rfl, hq, (Dq_same w.ex r1).dp (sh_cl s2), s1, s2, hz, he, hno, PQ.mk w (show RPV X.k F as (pI _) _ from Dq.int _) k⟩
end
/-! ### promises -/
def isWh : PyData → Bool
  | .int _ => true
  | _ => false
def rWholeG : RA := fun args O Φ => ∃ x, args = [.d x] ∧ Φ (pB (isWh x)) O
end Al
namespace Al
open PySem PySem.Spec L2
open PyProof.Rows hiding St
end Al
namespace Al
open PySem PySem.Spec L2
theorem rng_at {n i : Nat} {x : PV} (h : (rngP 0 n)[i]? = some x) : i < n ∧ x = .d (iD i) := by
  rw [rng_map, List.getElem?_map, Option.map_eq_some_iff] at h
  obtain ⟨j, h1, rfl⟩ := h
  obtain ⟨h2, h3⟩ := List.getElem?_eq_some_iff.mp h1
  rw [List.length_range] at h2
  rw [List.getElem_range] at h3
  subst h3
  exact ⟨h2, rfl⟩
end Al
namespace Al
open PySem PySem.Spec L2
open PyProof.Rows hiding St
/-! ### two rooms that lead to both -/
def m2 : Mach := ⟨2, [0, 1], [0, 1], [(0, 97, 0), (0, 97, 1), (1, 97, 0), (1, 97, 1)]⟩
end Al
namespace Al
open PySem
end Al
namespace Al
open PySem PySem.Spec L2
open PyProof.Rows hiding St
end Al
namespace Al
open PySem PySem.Spec L2
open PyProof.Rows hiding St
/-! ### tries: the mathematics -/
/-- all tries from r by cs, in order -/
def tr (m : Mach) : List Nat → Nat → List (List Nat)
  | [], r => [[r]]
  | c :: cs, r => [r] :: ((nx m r c).flatMap (tr m cs)).map (r :: ·)
/-- what is still to come behind a beginning -/
def rst (m : Mach) (cs : List Nat) (p : List Nat) : List (List Nat) := (tr m (cs.drop (p.length - 1)) (lastR p)).map (p.dropLast ++ ·)
end Al
namespace Al
open PySem PySem.Spec L2
open PyProof.Rows hiding St
/-! ### tries: the mathematics, on -/
/-- where those stand that a test lets by -/
def idx {α : Type} (p : α → Bool) (T : List α) : List Nat := (List.range T.length).filter fun i => (T[i]?).any p
end Al
namespace Al
open PySem PySem.Spec L2
open PyProof.Rows hiding St
/-! ### promises -/
end Al
namespace Al
open PySem PySem.Spec L2
open PyProof.Rows hiding St
/-! ### rules: text[::-1], sorted of ints, list(range(n)) -/
def revT (z : Str) : Str := ⟨z.cps.toList.reverse.toArray⟩
theorem cds_rev (z : Str) : cds (revT z) = (cds z).reverse := by unfold revT cds; simp
theorem rev_len (z : Str) : (revT z).length = z.length := by rw [← cds_len, cds_rev, List.length_reverse, cds_len]
def tRevS (te : TE) : TE := fun σ H Q => te σ H fun x H1 => ∃ z, x = .str z ∧ z.length ≤ sizeLine ∧ Q (.str (revT z)) H1
theorem pe_revS {X : Cx} {e : Expr} {te : TE} {k : Nat} {p1 p2 p3 pos : Pos} (he : PE X e te) : PE X (.Subscript e (.Slice none none (some (.UnaryOp .USub (.Constant (.int 1) k p1) p2)) p3) pos) (tRevS te) := by
  refine ⟨fun pins s σ H Q I h => ?_⟩
  refine Subscript_ (thn (he.run pins s σ H _ I h) fun v s1 ⟨x, H1, I1, r1, q1⟩ => ?_)
  obtain ⟨z, ex, hz, q⟩ := q1
  subst ex
  obtain ⟨t, rfl⟩ := r1
  have hst : PO X (some (.UnaryOp .USub (.Constant (.int 1) k p1) p2)) (tPart (tUn (rU fun i => .int (-i)) (tC (.int 1)))) := po_some (pe_un un_neg pe_int)
  refine wpAny_Slice (thn (po_none.run pins s1 σ H1 (fun o H2 => o = none ∧ H2 = H1) I1 ⟨rfl, rfl⟩) fun vl s2 ⟨l, H2, I2, pl, el, e2⟩ => ?_)
  subst el e2
  refine thn (po_none.run pins s2 σ H2 (fun o H3 => o = none ∧ H3 = H2) I2 ⟨rfl, rfl⟩) fun vu s3 ⟨u, H3, I3, pu, eu, e3⟩ => ?_
  subst eu e3
  refine thn (hst.run pins s3 σ H3 (fun o H4 => o = some (-1) ∧ H4 = H3) I3 ⟨1, rfl, -1, rfl, rfl, rfl⟩) fun vs s4 ⟨o, H4, I4, ps, eo, e4⟩ => ?_
  subst eo e4
  have I5 : Inv X pins σ H4 { s4 with heap := s4.heap.push { cls := .type "slice", data := .fields #[vl, vu, vs] } } := I4.kept (t' := s4.toks) fun b ob q => Heap.get?_push_of_some _ q
  obtain ⟨ll, rfl, hl⟩ := IsPart.raw pl
  obtain ⟨uu, rfl, hu⟩ := IsPart.raw pu
  obtain ⟨ss, rfl, hs⟩ := IsPart.raw ps
  obtain rfl : ll = none := by cases ll <;> first | rfl | cases hl
  obtain rfl : uu = none := by cases uu <;> first | rfl | cases hu
  obtain ⟨tk, rfl⟩ : ∃ tk, ss = some (-1, tk) := by
    cases ss with
    | none => cases hs
    | some a => obtain ⟨i, tk⟩ := a; cases hs; exact ⟨tk, rfl⟩
  refine tail_any (ops := [.str z t, .ref s4.heap.objs.size]) (typeIs_str _ _ _) (F.slot_str_getitem.lookup) ?_ (by with_unfolding_all rfl)
  refine wpAny_getItem_str_slice (l := none) (u := none) (st := some (-1, tk)) ⟨_, Heap.get?_push_size _ rfl, rfl, rfl⟩ rfl ?_
  have e1 : slicePicked z none none (some (-1, tk)) = (List.range z.length).reverse := by
    show Builtin.Str.strSliceIndices none none (-1) z.length = _
    have : Builtin.Str.strSliceIndices none none (-1) z.length = sliceRange ((z.length : Int) - 1) (-1) (-1) := rfl
    rw [this, PySem.W.krv_sliceRange, PySem.W.krv_range]
  have e2 : (slicePicked z none none (some (-1, tk))).filterMap (z.cps[·]?) = z.cps.toList.reverse := by
    rw [e1, List.filterMap_reverse]
    have := PySem.W.krv_all z.cps
    rw [show z.length = z.cps.size from rfl, this]
  show Made.post (if ((-1 : Int) == 1 && (slicePicked z none none (some (-1, tk))).length == z.length) = true then Made.val (.str z t) else Made.str ⟨((slicePicked z none none (some (-1, tk))).filterMap (z.cps[·]?)).toArray⟩) (EP X pins σ Q) _
  rw [if_neg (by simp), e2]
  have hlen : (revT z).length ≤ sizeLine := by rw [rev_len]; exact hz
  exact ⟨hlen, .str (revT z), H4, I5.tok _, ⟨_, rfl⟩, q⟩
section
variable {X : Ax} {e a b c : Expr} {es : List Expr} {ρ : Env1} {O : Own} {Φ : PV → Own → Prop} {as : List Addr} {F H : Hp} {σ : L2.St} {pos p p2 kpos tpos pos' : Pos} {D : AEnds} {i j : Int}
theorem ae_revS {k : Nat} {p1 p2 p3 : Pos} (h : AE X e ρ O fun x O1 => ∃ z, x = pS z ∧ z.length ≤ 16000000 ∧ Φ (pS (revT z)) O1) : AE X (.Subscript e (.Slice none none (some (.UnaryOp .USub (.Constant (.int 1) k p1) p2)) p3) pos) ρ O Φ := fun as F σ H w r => by
  refine tE_of (pe_revS pe_tE) ?_
  refine h.run w r fun x O1 as1 F1 v1 H1 w1 g1 s1 rx r1 ⟨z, ex, hz, q⟩ => ?_
  subst ex
  cases (show Dq F1 v1 (.str z) from rx)
  exact ⟨z, rfl, sz hz, (PQ.mk w1 (show RPV X.k F1 as1 (pS _) _ from Dq.str _) q).back g1 s1⟩
end
end Al
namespace Al
open PySem PySem.Spec L2
open PyProof.Rows hiding St
/-! ### ways: linear, parted, turned about, called otherwise -/
/-- called otherwise -/
structure Ord (n : Nat) (od : List Nat) : Prop where
  p : od.Perm (List.range n)
abbrev sg (od : List Nat) (r : Nat) : Nat := od.getD r 0
theorem Ord.len {n : Nat} {od : List Nat} (h : Ord n od) : od.length = n := by rw [h.p.length_eq, List.length_range]
theorem Ord.nd {n : Nat} {od : List Nat} (h : Ord n od) : od.Nodup := h.p.nodup_iff.mpr List.nodup_range
theorem Ord.get {n : Nat} {od : List Nat} (h : Ord n od) {r : Nat} (hr : r < n) : od[r]? = some (sg od r) := by
  rw [sg, List.getD_eq_getElem?_getD, List.getElem?_eq_getElem (by rw [h.len]; exact hr)]; rfl
theorem Ord.lt {n : Nat} {od : List Nat} (h : Ord n od) {r : Nat} (hr : r < n) : sg od r < n := List.mem_range.mp (h.p.mem_iff.mp (List.mem_of_getElem? (h.get hr)))
theorem Ord.inj {n : Nat} {od : List Nat} (h : Ord n od) {r t : Nat} (hr : r < n) (ht : t < n) (e : sg od r = sg od t) : r = t := by
  have h1 := h.get hr
  have h2 := h.get ht
  rw [e] at h1
  obtain ⟨p1, q1⟩ := List.getElem?_eq_some_iff.mp h1
  obtain ⟨p2, q2⟩ := List.getElem?_eq_some_iff.mp h2
  exact (List.getElem_inj h.nd).mp (q1.trans q2.symm)
def sgS (od : List Nat) (s : Stp) : Stp := (sg od s.1, s.2.1, sg od s.2.2)
/-- m' is m, its rooms called by od -/
structure Cld (m : Mach) (od : List Nat) (m' : Mach) : Prop where
  n : m'.n = m.n
  fs : m'.fs.Perm (m.fs.map (sg od))
  ls : m'.ls.Perm (m.ls.map (sg od))
  st : m'.st = m.st.map (sgS od)
theorem sgS_ok {m : Mach} {od : List Nat} (hm : ∀ s ∈ m.st, StOk m.n s) (ho : Ord m.n od) : ∀ s ∈ m.st.map (sgS od), StOk m.n s := fun s hs => by
  obtain ⟨t, ht, rfl⟩ := List.mem_map.mp hs
  have := hm t ht
  exact ⟨ho.lt this.a, this.c, ho.lt this.b⟩
theorem map_sg_nd {n : Nat} {od rs : List Nat} (ho : Ord n od) (nd : rs.Nodup) (h : ∀ r ∈ rs, r < n) : (rs.map (sg od)).Nodup := by
  rw [List.Nodup, List.pairwise_map]
  refine List.Pairwise.imp_of_mem ?_ nd
  intro a b ha hb hab e
  exact hab (ho.inj (h a ha) (h b hb) e)
theorem rms_sorted {n : Nat} {rs rs' : List Nat} (p : rs'.Perm rs) (nd : rs.Nodup) (h : ∀ r ∈ rs, r < n) (hs : rs'.Pairwise (· ≤ ·)) : Rms n rs' := by
  refine ⟨?_, fun r hr => h r (p.mem_iff.mp hr)⟩
  have nd' : rs'.Nodup := p.nodup_iff.mpr nd
  exact hs.and nd' |>.imp fun {a b} ⟨h1, h2⟩ => Nat.lt_of_le_of_ne h1 h2
theorem Cld.ok {m m' : Mach} {od : List Nat} (h : MOk m) (ho : Ord m.n od) (c : Cld m od m') (hf : m'.fs.Pairwise (· ≤ ·)) (hl : m'.ls.Pairwise (· ≤ ·)) : MOk m' := by
  have lt : ∀ rs : List Nat, (∀ r ∈ rs, r < m.n) → ∀ r ∈ rs.map (sg od), r < m.n := fun rs h r hr => by
    obtain ⟨t, ht, rfl⟩ := List.mem_map.mp hr
    exact ho.lt (h t ht)
  refine ⟨by rw [c.n]; exact h.n0, by rw [c.n]; exact h.n1, ?_, ?_, ?_, ?_, ?_⟩
  · rw [c.n]; exact rms_sorted c.fs (map_sg_nd ho h.fs.nd h.fs.lt) (lt _ h.fs.lt) hf
  · rw [c.n]; exact rms_sorted c.ls (map_sg_nd ho h.ls.nd h.ls.lt) (lt _ h.ls.lt) hl
  · rw [c.st, c.n]; exact sgS_ok h.st ho
  · rw [c.st, List.Nodup, List.pairwise_map]
    refine List.Pairwise.imp_of_mem ?_ h.nd
    intro a b ha hb hab e
    refine hab ?_
    obtain ⟨a1, a2, a3⟩ := a
    obtain ⟨b1, b2, b3⟩ := b
    have e1 : sg od a1 = sg od b1 := congrArg Prod.fst e
    have e2 : a2 = b2 := congrArg (fun s => s.2.1) e
    have e3 : sg od a3 = sg od b3 := congrArg (fun s => s.2.2) e
    have ka := h.st _ ha
    have kb := h.st _ hb
    have f1 : a1 = b1 := ho.inj ka.a kb.a e1
    have f3 : a3 = b3 := ho.inj ka.b kb.b e3
    rw [f1, e2, f3]
  · rw [c.st, List.length_map]; exact h.len
end Al
namespace Al
open PySem PySem.Spec L2
open PyProof.Rows hiding St
/-! ### a tuple of owned lists, frozen; promises of k16 -/
theorem cds_cutHi (z : Str) (k : Nat) : cds (cutS z none (some (k : Nat))) = (cds z).take k := by
  unfold cutS cds
  simp only [List.toList_toArray]
  rw [show HT.sIx z.length z.length (some ((k : Nat) : Int)) = min k z.length from HT.sIx_nat _ _ k, show HT.sIx z.length 0 none = 0 from rfl, List.drop_zero, Nat.sub_zero]
  rw [show z.length = z.cps.toList.length by rw [Array.length_toList]; rfl, ← List.take_eq_take_min]
end Al
namespace Al
open PySem PySem.Spec L2
open PyProof.Rows hiding St
end Al
namespace Al
open PySem PySem.Spec L2
open PyProof.Rows hiding St
/-! ### rules: xs[a::2], += of texts, <<=, *= -/
def pick {α : Type} (xs : List α) (idx : List Nat) : List α := idx.filterMap (xs[·]?)
def stepIx (n : Nat) (l : Option Int) (k : Int) : List Nat := sliceRange (sliceBounds l none (some k) n).1 (sliceBounds l none (some k) n).2.1 (sliceBounds l none (some k) n).2.2
theorem vals_get {vs : List V} {us : List Value} (h : Vals vs us) (i : Nat) : (vs[i]? = none ∧ us[i]? = none) ∨ ∃ v u, vs[i]? = some v ∧ us[i]? = some u ∧ RelV v u := by
  induction h generalizing i with
  | nil => exact .inl ⟨rfl, rfl⟩
  | cons r _ ih =>
    cases i with
    | zero => exact .inr ⟨_, _, rfl, rfl, r⟩
    | succ i => exact ih i
theorem vals_pick {vs : List V} {us : List Value} (h : Vals vs us) : ∀ idx : List Nat, Vals (pick vs idx) (pick us idx)
  | [] => .nil
  | i :: idx => by
    unfold pick
    rcases vals_get h i with ⟨h1, h2⟩ | ⟨v, u, h1, h2, r⟩
    · rw [List.filterMap_cons_none h1, List.filterMap_cons_none h2]; exact vals_pick h idx
    · rw [List.filterMap_cons_some h1, List.filterMap_cons_some h2]; exact .cons r (vals_pick h idx)
theorem dq_pick {F : Hp} {vs : List V} {xs : List PyData} (h : DqAll F vs xs) : ∀ idx : List Nat, DqAll F (pick vs idx) (pick xs idx)
  | [] => .nil
  | i :: idx => by
    unfold pick
    cases hx : xs[i]? with
    | none =>
      have hl := h.len
      have hv : vs[i]? = none := by rw [List.getElem?_eq_none_iff] at hx ⊢; omega
      rw [List.filterMap_cons_none hx, List.filterMap_cons_none hv]; exact dq_pick h idx
    | some x =>
      obtain ⟨v, hv, r⟩ := h.get hx
      rw [List.filterMap_cons_some hx, List.filterMap_cons_some hv]; exact .cons r (dq_pick h idx)
section
variable {X : Ax} {e a b c : Expr} {es : List Expr} {ρ : Env1} {O : Own} {Φ : PV → Own → Prop} {as : List Addr} {F H : Hp} {σ : L2.St} {pos p p2 kpos tpos pos' : Pos} {D : AEnds} {i j : Int} {x y : Str}
theorem ib_addS (hz : x.length + y.length ≤ sizeLine) (k : Φ (pS (x ++ y)) O) : BinA X (inplaceOp .Add) (pS x) (pS y) O Φ := bina_of iop_add_str fun as F H vx vy w rx ry => by
  cases (show Dq F vx (.str x) from rx)
  cases (show Dq F vy (.str y) from ry)
  exact ⟨_, _, rfl, rfl, hz, PQ.mk w (show RPV X.k F as (pS _) _ from Dq.str _) k⟩
end
/-! ### pumps laid: mathematics -/
end Al
namespace Al
open PySem PySem.Spec L2
open PyProof.Rows hiding St
/-! ### rules: {} as data, isinstance with a tuple of classes, str(xs) -/
/-! ### what is no way -/
/-- r can stand behind w -/
def Stands (m : Mach) (cs w : List Nat) (r : Nat) : Prop := w.length ≤ cs.length ∧ r ∈ opt m cs w w.length ∧ (w.length = cs.length → r ∈ m.ls)
/-- all of w stands -/
inductive Sts (m : Mach) (cs : List Nat) : List Nat → Prop
  | nil : Sts m cs []
  | snoc {w : List Nat} {r : Nat} : Sts m cs w → Stands m cs w r → Sts m cs (w ++ [r])
theorem Sts.init {m : Mach} {cs w : List Nat} {r : Nat} (h : Sts m cs (w ++ [r])) : Sts m cs w ∧ Stands m cs w r := by
  generalize e : w ++ [r] = x at h
  cases h with
  | nil => simp at e
  | snoc h1 h2 =>
    obtain ⟨e1, e2⟩ := List.append_inj' e rfl
    cases e2
    subst e1
    exact ⟨h1, h2⟩
theorem Sts.take {m : Mach} {cs : List Nat} : ∀ {w : List Nat}, Sts m cs w → ∀ k, Sts m cs (w.take k)
  | _, .nil, k => by rw [List.take_nil]; exact .nil
  | _, .snoc (w := w) (r := r) h1 h2, k => by
    by_cases hk : k ≤ w.length
    · rw [List.take_append_of_le_length hk]
      exact h1.take k
    · rw [List.take_of_length_le (by rw [List.length_append, List.length_singleton]; omega)]
      exact .snoc h1 h2
theorem Sts.at {m : Mach} {cs : List Nat} : ∀ {w : List Nat}, Sts m cs w → ∀ k r, w[k]? = some r → Stands m cs (w.take k) r
  | _, .nil, k, r, e => by simp at e
  | _, .snoc (w := w) (r := t) h1 h2, k, r, e => by
    by_cases hk : k < w.length
    · rw [List.getElem?_append_left hk] at e
      rw [List.take_append_of_le_length (by omega)]
      exact h1.at k r e
    · have hk2 : k = w.length := by
        have := (List.getElem?_eq_some_iff.mp e).1
        simp at this
        omega
      subst hk2
      rw [List.getElem?_append_right (Nat.le_refl _), Nat.sub_self] at e
      cases e
      rw [List.take_left]
      exact h2
theorem Sts.len {m : Mach} {cs w : List Nat} (h : Sts m cs w) : w.length ≤ cs.length + 1 := by
  cases h with
  | nil => exact Nat.zero_le _
  | snoc _ h2 => rw [List.length_append, List.length_singleton]; have := h2.1; omega
end Al
namespace Al
open PySem PySem.Spec L2
open PyProof.Rows hiding St
/-- the rooms that can stand at i, of any i -/
def optX (m : Mach) (cs w : List Nat) (i : Nat) : List Nat := if i ≤ cs.length then opt m cs w i else []
end Al
namespace Al
open PySem PySem.Spec L2
end Al
namespace Al
open PySem PySem.Spec L2
open PyProof.Rows hiding St
end Al
namespace Al
open PySem PySem.Spec L2
open PyProof.Rows hiding St
/-- list of a list of data, to stay as it is -/
theorem c_listD {X : Ax} {O : Own} {Φ : PV → Own → Prop} {q : PV} {ds : List PyData} (h : IsL O q (ds.map PV.d)) (k : Φ (pL ds) O) : CallA X (.type "list") [q] O Φ := calla_of call_list_of fun as F H vs w rx => by
  obtain ⟨v, rfl, r⟩ := rps1 rx
  obtain ⟨l, vs, rfl, sq, rvs⟩ := h.look w r
  refine ⟨l, vs, rfl, .inl sq, fun q hq => ?_⟩
  obtain ⟨w2, s2⟩ := w.data (h := .lst vs) hq
  exact ⟨pL ds, O, as, _, w2, Gr.refl _, s2, Dq.lst upd_same (DqAll_same s2 (rps_data rvs)), k⟩
end Al
namespace Al
open PySem PySem.Spec L2
open PyProof.Rows hiding St
/-! ### rules: sorted(set(xs)), max(xs), max(xs, default=0), text.find(sign), text[a:b:c] -/
end Al
namespace Al
open PySem PySem.Spec L2
open PyProof.Rows hiding St
end Al
namespace Al
open PySem PySem.Spec L2
open PyProof.Rows hiding St
/-! ### text[a:b:c] -/
end Al
namespace Al
open PySem PySem.Spec L2
open PyProof.Rows hiding St
/-! ### defs that call themselves; calls by names alone -/
/-! ### patterns -/
inductive Pat where
  | non | sgn (z : Str) | aga (p : Pat) | thn (p q : Pat) | orr (p q : Pat)
namespace Pat
def hd : Pat → Str
  | .non => "none" | .sgn _ => "sign" | .aga _ => "again" | .thn _ _ => "then" | .orr _ _ => "or"
def D : Pat → PyData
  | .non => .tuple [.str "none"]
  | .sgn z => .tuple [.str "sign", .str z]
  | .aga p => .tuple [.str "again", p.D]
  | .thn p q => .tuple [.str "then", p.D, q.D]
  | .orr p q => .tuple [.str "or", p.D, q.D]
def subs : Pat → List Pat
  | .non => [] | .sgn _ => [] | .aga p => [p] | .thn p q => [p, q] | .orr p q => [p, q]
def pt : Pat → Nat
  | .non => 1 | .sgn _ => 1 | .aga p => 1 + p.pt | .thn p q => 1 + p.pt + q.pt | .orr p q => 1 + p.pt + q.pt
def dp : Pat → Nat
  | .non => 1 | .sgn _ => 1 | .aga p => 1 + p.dp | .thn p q => 1 + max p.dp q.dp | .orr p q => 1 + max p.dp q.dp
end Pat
/-- letters of a sign -/
structure LetsOk (z : Str) : Prop where
  l0 : 1 ≤ z.length
  l1 : z.length ≤ 8
  all : ∀ c ∈ cds z, sgn c = true
  up : (cds z).Pairwise (· < ·)
theorem LetsOk.ok {z : Str} (h : LetsOk z) : Ok 8 z := ⟨h.l1, fun c hc => sgn_lt (h.all c hc)⟩
inductive PatOk : Pat → Prop
  | non : PatOk .non
  | sgn {z : Str} : LetsOk z → PatOk (.sgn z)
  | aga {p : Pat} : PatOk p → PatOk (.aga p)
  | thn {p q : Pat} : PatOk p → PatOk q → PatOk (.thn p q)
  | orr {p q : Pat} : PatOk p → PatOk q → PatOk (.orr p q)
theorem PatOk.sub {p q : Pat} (h : PatOk p) (hq : q ∈ p.subs) : PatOk q := by
  cases h with
  | non => cases hq
  | sgn _ => cases hq
  | aga h => rw [show q = _ from List.mem_singleton.mp hq]; exact h
  | thn h1 h2 => simp only [Pat.subs, List.mem_cons, List.not_mem_nil, or_false] at hq; rcases hq with rfl | rfl <;> assumption
  | orr h1 h2 => simp only [Pat.subs, List.mem_cons, List.not_mem_nil, or_false] at hq; rcases hq with rfl | rfl <;> assumption
theorem hd_ok : ∀ p : Pat, Ok 8 p.hd
  | .non => ok_lit (z := "none") (by decide)
  | .sgn _ => ok_lit (z := "sign") (by decide)
  | .aga _ => ok_lit (z := "again") (by decide)
  | .thn _ _ => ok_lit (z := "then") (by decide)
  | .orr _ _ => ok_lit (z := "or") (by decide)
theorem PatOk.shp {p : Pat} (h : PatOk p) : Shp p.dp p.D := by
  induction h with
  | non =>
    refine shp_tup fun d hd => ?_
    rw [List.mem_singleton] at hd
    subst hd
    exact shp_str (hd_ok .non)
  | sgn hz =>
    refine shp_tup fun d hd => ?_
    simp only [List.mem_cons, List.not_mem_nil, or_false] at hd
    rcases hd with rfl | rfl
    · exact shp_str (hd_ok (.sgn ""))
    · exact shp_str hz.ok
  | @aga p _ ih =>
    refine (shp_tup (k := p.dp) fun d hd => ?_).mono (by simp only [Pat.dp]; omega)
    simp only [List.mem_cons, List.not_mem_nil, or_false] at hd
    rcases hd with rfl | rfl
    · exact shp_str (hd_ok (.aga .non))
    · exact ih
  | @thn p q _ _ i1 i2 =>
    refine (shp_tup (k := max p.dp q.dp) fun d hd => ?_).mono (by simp only [Pat.dp]; omega)
    simp only [List.mem_cons, List.not_mem_nil, or_false] at hd
    rcases hd with rfl | rfl | rfl
    · exact shp_str (hd_ok (.thn .non .non))
    · exact i1.mono (Nat.le_max_left _ _)
    · exact i2.mono (Nat.le_max_right _ _)
  | @orr p q _ _ i1 i2 =>
    refine (shp_tup (k := max p.dp q.dp) fun d hd => ?_).mono (by simp only [Pat.dp]; omega)
    simp only [List.mem_cons, List.not_mem_nil, or_false] at hd
    rcases hd with rfl | rfl | rfl
    · exact shp_str (hd_ok (.orr .non .non))
    · exact i1.mono (Nat.le_max_left _ _)
    · exact i2.mono (Nat.le_max_right _ _)
end Al
namespace Al
open PySem PySem.Spec L2
open PyProof.Rows hiding St
end Al
namespace Al
open PySem PySem.Spec L2
end Al
namespace Al
open PySem PySem.Spec L2
open PyProof.Rows hiding St
theorem chr_map (z : Str) : chrP z = (cds z).map fun c => pS ⟨#[c]⟩ := rfl
end Al
namespace Al
open PySem PySem.Spec L2
end Al
namespace Al
open PySem PySem.Spec L2
open PyProof.Rows hiding St
/-! ### instances of own classes: fields, methods, making -/
/-- the class named c -/
def ClsK (G : Gx) (c : Str) : Prop := ∀ C, G.mg c = some (.ref C) → Cls G.K C
/-- no class of it has the name f -/
def FldK (G : Gx) (c f : Str) : Prop := ∀ C, G.mg c = some (.ref C) → L2.NoAttr G.K C f
/-- the method m of the class c -/
def MetA (G : Gx) (k : Nat) (c m : Str) (ps : List Str) (dps : List PV) (R : RX) : Prop :=
  ∃ C f fd ds dvs, G.mg c = some (.ref C) ∧ Cls G.K C ∧ Meth G.K C m f ∧ Fn G k f fd ps R ∧ Binds G.K fd ps ds ∧ Vals dvs ds ∧ ∀ KK F as, RPs KK F as dps dvs
/-- the class c made: R of its __init__ -/
def MakA (G : Gx) (k : Nat) (c : Str) (ps : List Str) (dps : List PV) (R : RX) : Prop :=
  ∃ C f fd ds dvs, G.mg c = some (.ref C) ∧ Mk G.K C f ∧ Fn G k f fd ps R ∧ Binds G.K fd ps ds ∧ Vals dvs ds ∧ ∀ KK F as, RPs KK F as dps dvs
def putP (f : Str) (x : PV) : List (Str × PV) → List (Str × PV)
  | [] => [(f, x)]
  | (k, y) :: r => if k = f then (k, x) :: r else (k, y) :: putP f x r
section
variable {K : KF} {F : Hp} {as : List Addr}
abbrev RFs (K : KF) (F : Hp) (as : List Addr) : List (Str × PV) → List (Str × V) → Prop := Paired (fun (p : Str × PV) (q : Str × V) => p.1 = q.1 ∧ RPV K F as p.2 q.2)
theorem rfs_look : ∀ {fs : List (Str × PV)} {ws : List (Str × V)}, RFs K F as fs ws → ∀ {f : Str} {x : PV}, fs.lookup f = some x → ∃ v, ws.lookup f = some v ∧ RPV K F as x v
  | _, _, .nil, _, _, h => nomatch h
  | (a, p) :: fs, (b, q) :: ws, .cons ⟨e, r⟩ t, f, x, h => by
    have e' : a = b := e
    subst e'
    rw [List.lookup_cons] at h ⊢
    split at h
    · cases h
      exact ⟨q, rfl, r⟩
    · exact rfs_look t h
theorem rfs_none : ∀ {fs : List (Str × PV)} {ws : List (Str × V)}, RFs K F as fs ws → ∀ {f : Str}, fs.lookup f = none → ws.lookup f = none
  | _, _, .nil, _, _ => rfl
  | (a, p) :: fs, (b, q) :: ws, .cons ⟨e, r⟩ t, f, h => by
    have e' : a = b := e
    subst e'
    rw [List.lookup_cons] at h ⊢
    split at h
    · cases h
    · exact rfs_none t h
theorem rfs_put {f : Str} {x : PV} {v : V} (hr : RPV K F as x v) : ∀ {fs : List (Str × PV)} {ws : List (Str × V)}, RFs K F as fs ws → RFs K F as (putP f x fs) (putF f v ws)
  | _, _, .nil => .cons ⟨rfl, hr⟩ .nil
  | (a, p) :: fs, (b, q) :: ws, .cons ⟨e, r⟩ t => by
    have e' : a = b := e
    subst e'
    show RFs K F as (if a = f then (a, x) :: fs else (a, p) :: putP f x fs) (if a = f then (a, v) :: ws else (a, q) :: putF f v ws)
    split
    · exact .cons ⟨rfl, hr⟩ t
    · exact .cons ⟨rfl, r⟩ (rfs_put hr t)
theorem rfs_len {fs : List (Str × PV)} {ws : List (Str × V)} (h : RFs K F as fs ws) : fs.length = ws.length := Paired.length h
end
section
variable {X : Ax} {o e : Expr} {es : List Expr} {ρ : Env1} {O : Own} {Φ : PV → Own → Prop} {Ψ : Env1 → Own → Prop} {pos p apos : Pos} {f m : Str} {c : Str} {y : PV}
theorem own_ins {K : KF} {F H : Hp} {as : List Addr} {O : Own} {n : Nat} {c : Str} {fs : List (Str × PV)} {v : V} (w : Wd K O as F H) (hO : O[n]? = some (.ins c fs)) (r : RPV K F as (.o n) v) : ∃ q C dx ws, v = .ref q ∧ as[n]? = some q ∧ F q = none ∧ K.mg c = some (.ref C) ∧ H q = some (.ins C dx ws) ∧ RFs K F as fs ws := by
  obtain ⟨q, hq, rfl⟩ := r
  obtain ⟨q', h1, fn, ho, hh, C, dx, ws, hc, rfl, rw⟩ := w.at_ hO
  have e6 : q' = q := Option.some.inj (h1.symm.trans hq)
  subst e6
  exact ⟨q', C, dx, ws, rfl, h1, fn, hc, hh, rw⟩
/-- e.f -/
theorem ae_fld (h : AE X o ρ O fun x O1 => ∃ n c fs z, x = .o n ∧ O1[n]? = some (.ins c fs) ∧ ClsK (gx X) c ∧ FldK (gx X) c f ∧ fs.lookup f = some z ∧ Φ z O1) (hb : attributeBase o f X.env (eval o X.env) = eval o X.env := by rfl) : AE X (.Attribute o f pos) ρ O Φ := fun as F σ H w r => by
  refine tE_of (pe_fld pe_tE hb) ?_
  refine h.run w r fun x O1 as1 F1 v1 H1 w1 g1 s1 rx r1 ⟨n, c, fs, z, e1, hO, kc, kf, hl, q⟩ => ?_
  subst e1
  obtain ⟨a, C, dx, ws, rfl, h1, fn, hc, hh, rf⟩ := own_ins w1 hO rx
  obtain ⟨v, hv, rv⟩ := rfs_look rf hl
  exact ⟨a, C, dx, ws, v, rfl, hh, kc C hc, kf C hc, hv, (PQ.mk w1 rv q).back g1 s1⟩
/-- e.f = v -/
theorem ag_fld (h : AE X o ρ O fun x O1 => ∃ n c fs, x = .o n ∧ O1[n]? = some (.ins c fs) ∧ ClsK (gx X) c ∧ FldK (gx X) c f ∧ fs.length < 1000 ∧ Ψ ρ (O1.set n (.ins c (putP f y fs)))) : AG X (.Attribute o f pos) y ρ O Ψ := fun as F σ H v w r rv => by
  refine tG_of (t := fun v σ H Q => tE X.c o σ H fun x H1 => ∃ a C dx ws, x = .ref a ∧ H1 a = some (.ins C dx ws) ∧ Cls X.c.K C ∧ L2.NoAttr X.c.K C f ∧ ws.length < 1000 ∧ Q σ (upd H1 a (.ins C dx (putF f v ws)))) ⟨fun pins s σ H v u Q I ru hh => ?_⟩ ?_
  · rw [assign_Attribute]
    refine wpAny_bind (wpAny_holding (thn (pe_tE.run pins s σ H _ I hh) fun ov s1 ⟨x, H1, I1, rx, a, C, dx, ws, ex, ea, kc, kf, hl, q⟩ => ?_))
    subst ex
    obtain rfl : ov = Value.ref a := rx
    refine wpAny_bind (wpAny_standAt (wpAny_bind (wpAny_holding (setattr_ok I1 ea kc kf hl ru fun s2 I2 => ?_))))
    exact wpAny_release ⟨σ, _, I2, q⟩
  · refine h.run w r fun x O1 as1 F1 v1 H1 w1 g1 s1 rx r1 ⟨n, c, fs, e1, hO, kc, kf, hl, q⟩ => ?_
    subst e1
    obtain ⟨a, C, dx, ws, rfl, h1, fn, hc, hh, rf⟩ := own_ins w1 hO rx
    have rv1 := rv.mono s1 g1
    exact ⟨a, C, dx, ws, rfl, hh, kc C hc, kf C hc, by rw [← rfs_len rf]; exact hl, ρ, _, as1, F1, w1.set (ob := .ins c (putP f y fs)) (h := .ins C dx (putF f v ws)) h1 fn ⟨C, dx, _, hc, rfl, rfs_put rv1 rf⟩ (fun z => nomatch z), g1, s1, r1, q⟩
/-- o.m(e, ..) -/
theorem ae_methX {k : Nat} {ps : List Str} {dps : List PV} {R : RX} {Ξ : Ex → Env1 → Own → Prop} (G : MetA (gx X) k c m ps dps R) (hr : RoomG k X.A) (tk : TakesA X Ξ)
    (h : AE X o ρ O fun x O1 => ∃ n fs, x = .o n ∧ O1[n]? = some (.ins c fs) ∧ fs.lookup m = none ∧ AA X (e :: es) ρ O1 fun args O2 => R (.o n :: (args ++ dps)) O2 Φ fun ex O3 => Ξ ex ρ O3) {pl : Sem Bool}
    (hst : starEach (e :: es) X.env = (false, eval e X.env) :: starEach es X.env := by rfl) (hpl : (backTo pos (starEach es X.env)).any (·.1) = false := by rfl)
    (ht : eval (.Call (.Attribute o m apos) (e :: es) [] pos) X.env = (do
      let ov ← eval o X.env
      standAt apos.atName
      let (f, first) ← holding [ov] (getMethod ov m pl)
      callWith pos f first (backTo pos (starEach (e :: es) X.env)) (backToKw pos (keywordEach [] X.env))) := by rfl) : AE X (.Call (.Attribute o m apos) (e :: es) [] pos) ρ O Φ := fun as F σ H w r => by
  obtain ⟨C, f, fd, ds, dvs, hC, kc, km, h1, h4, h5, h6⟩ := G
  refine tE_of (t := fun σ H Q => tE X.c o σ H fun x H1 => ∃ a dx ws, x = .ref a ∧ H1 a = some (.ins C dx ws) ∧ ws.lookup m = none ∧ tA X.c (e :: es) σ H1 fun vs H2 => ∃ E : XK, spA X.c.K X.c.mg R (.ref a :: (vs ++ dvs)) H2 Q E ∧ ∀ cls d H', E cls d H' → ∃ e ρ O as F, Wd X.k O as F H' ∧ RS X.k F as ρ σ ∧ XRel X.k F e cls d ∧ Ξ e ρ O) ⟨fun pins s σ H Q I hh => ?_⟩ ?_
  · refine PySem.W.methodCall_KW (pl := pl) (thn (pe_tE.run pins s σ H _ I hh) fun u s1 ⟨x, H1, I1, rx, a, dx, ws, ex, ea, l, q⟩ => ?_) ht
    subst ex
    obtain rfl : u = Value.ref a := rx
    refine getmeth_ok I1 ea kc km l ?_
    refine PySem.W.callWith_K (first := [.ref a]) (h₀ := X.c.base) I1.ok.mod.kin km.kp (thn (pa_tA.run pos pins s1 σ H1 _ I1 q) fun us s2 ⟨vs, H2, I2, r2, E, q2, hW⟩ => ⟨I2.kIn, ?_⟩) hst hpl
    exact runA (us := .ref a :: us) (vs := .ref a :: vs) h1 hr h4 h5 tk hW I2 (.cons rfl r2) q2
  · refine h.run w r fun x O1 as1 F1 v1 H1 w1 g1 s1 rx r1 ⟨n, fs, e1, hO, hl, q⟩ => ?_
    subst e1
    obtain ⟨a, C', dx, ws, rfl, ha, fn, hc, hh, rf⟩ := own_ins w1 hO rx
    have eC : C' = C := by have := hc.symm.trans hC; cases this; rfl
    subst eC
    refine ⟨a, dx, ws, rfl, hh, rfs_none rf hl, ?_⟩
    refine q.run w1 r1 fun args O2 as2 F2 vs H2 w2 g2 s2 ry r2 q2 => ?_
    refine ⟨XQ ⟨X.c.K, X.c.mg, as2, F2⟩ as2 F2 (fun ex O2 => Ξ ex ρ O2), ⟨O2, as2, F2, .o n :: (args ++ dps), Φ, _, w2.floor (Gr.refl _) (Same.refl _), ?_, q2, fun v H' z => ?_, fun _ _ _ z => z⟩, fun cls d H' z => ?_⟩
    · exact rps_floor (K := X.k) (.cons ⟨a, g2 n a ha, rfl⟩ (rps_app ry (h6 _ F2 as2)))
    · exact PQ.back (g1.trans g2) (s1.trans s2) (PQ.lift (K := X.k) w2.fa w2.fF z)
    · obtain ⟨ex, O3, as3, F3, w3, g3, s3, rr, q3⟩ := XQ.lift (K := X.k) w2.fa w2.fF z
      exact ⟨ex, ρ, O3, as3, F3, w3, r2.mono s3 g3, rr, q3⟩
/-- o.m() -/
theorem ae_meth0X {k : Nat} {ps : List Str} {dps : List PV} {R : RX} {Ξ : Ex → Env1 → Own → Prop} (G : MetA (gx X) k c m ps dps R) (hr : RoomG k X.A) (tk : TakesA X Ξ)
    (h : AE X o ρ O fun x O1 => ∃ n fs, x = .o n ∧ O1[n]? = some (.ins c fs) ∧ fs.lookup m = none ∧ R (.o n :: dps) O1 Φ fun ex O3 => Ξ ex ρ O3) {pl : Sem Bool}
    (ht : eval (.Call (.Attribute o m apos) [] [] pos) X.env = (do
      let ov ← eval o X.env
      standAt apos.atName
      let (f, first) ← holding [ov] (getMethod ov m pl)
      callWith pos f first (backTo pos (starEach [] X.env)) (backToKw pos (keywordEach [] X.env))) := by rfl) : AE X (.Call (.Attribute o m apos) [] [] pos) ρ O Φ := fun as F σ H w r => by
  obtain ⟨C, f, fd, ds, dvs, hC, kc, km, h1, h4, h5, h6⟩ := G
  refine tE_of (t := fun σ H Q => tE X.c o σ H fun x H1 => ∃ a dx ws, x = .ref a ∧ H1 a = some (.ins C dx ws) ∧ ws.lookup m = none ∧ ∃ E : XK, spA X.c.K X.c.mg R (.ref a :: dvs) H1 Q E ∧ ∀ cls d H', E cls d H' → ∃ e ρ O as F, Wd X.k O as F H' ∧ RS X.k F as ρ σ ∧ XRel X.k F e cls d ∧ Ξ e ρ O) ⟨fun pins s σ H Q I hh => ?_⟩ ?_
  · refine PySem.W.methodCall_KW (pl := pl) (thn (pe_tE.run pins s σ H _ I hh) fun u s1 ⟨x, H1, I1, rx, a, dx, ws, ex, ea, l, E, q2, hW⟩ => ?_) ht
    subst ex
    obtain rfl : u = Value.ref a := rx
    refine getmeth_ok I1 ea kc km l ?_
    exact PySem.W.callWith_K0 (first := [.ref a]) I1.kIn km.kp (runA (us := [.ref a]) (vs := [.ref a]) h1 hr h4 h5 tk hW I1 (.cons rfl .nil) q2)
  · refine h.run w r fun x O1 as1 F1 v1 H1 w1 g1 s1 rx r1 ⟨n, fs, e1, hO, hl, q⟩ => ?_
    subst e1
    obtain ⟨a, C', dx, ws, rfl, ha, fn, hc, hh, rf⟩ := own_ins w1 hO rx
    have eC : C' = C := by have := hc.symm.trans hC; cases this; rfl
    subst eC
    refine ⟨a, dx, ws, rfl, hh, rfs_none rf hl, XQ ⟨X.c.K, X.c.mg, as1, F1⟩ as1 F1 (fun ex O2 => Ξ ex ρ O2), ⟨O1, as1, F1, .o n :: dps, Φ, _, w1.floor (Gr.refl _) (Same.refl _), ?_, q, fun v H' z => ?_, fun _ _ _ z => z⟩, fun cls d H' z => ?_⟩
    · exact rps_floor (K := X.k) (.cons ⟨a, ha, rfl⟩ (h6 _ F1 as1))
    · exact PQ.back g1 s1 (PQ.lift (K := X.k) w1.fa w1.fF z)
    · obtain ⟨ex, O3, as3, F3, w3, g3, s3, rr, q3⟩ := XQ.lift (K := X.k) w1.fa w1.fF z
      exact ⟨ex, ρ, O3, as3, F3, w3, r1.mono s3 g3, rr, q3⟩
end
section
variable {X : Ax} {e : Expr} {es : List Expr} {ρ : Env1} {O : Own} {Φ : PV → Own → Prop} {pos p : Pos} {x : Str} {σ : L2.St}
theorem room_under {k : Nat} {A : Around} (r : RoomG (k + 1) A) (C : Addr) (us : List Value) (kw : List (Str × Value)) : RoomG k (A.under (.builtin "type.__call__" ⟨.ref C :: us, kw⟩)) :=
  ⟨r.r.make C us kw, by first | exact r.g | (simpa [Around.under] using r.g)⟩
theorem run_mk {k : Nat} {C f : Addr} {fd : FuncData} {ps : List Str} {sp : Sp} {ds : List Value} {dvs : List V} {W : WX} {pins : List (Addr × Obj)} {H : Hp} {s : Shared} {Q : VK} {us : List Value} {vs : List V} {E : XK} (M : Mk X.c.K C f) (F : FnA X.c.prog X.c.w X.c.K X.c.mg X.c.base (CX X.c.prog X.c.w) k f fd ps sp) (hr : RoomG (k + 1) X.c.A) (hb : Binds X.c.K fd ps ds) (hd : Vals dvs ds) (tk : Takes X.c W)
    (hW : ∀ cls d H', E cls d H' → W cls d σ H') (I : Inv X.c pins σ H s) (r : Vals vs us)
    (h : ∀ a dx, H a = none → H dx = none → dx ≠ a → sp (.ref a :: (vs ++ dvs)) (upd (upd H dx (.own a)) a (.ins C dx [])) (fun v H2 => v = .non ∧ Q (.ref a) H2) E) : wpAny (model X.c.prog X.c.w) X.c.A (call (.ref C) us) (L2.EP X.c pins σ Q) X.c.xe s := by
  have hq := h (s.heap.objs.size + 1) s.heap.objs.size (I.hok.fresh (Nat.le_succ _)) (I.hok.fresh (Nat.le_refl _)) (Nat.ne_of_lt (Nat.lt_succ_self _))
  have J := Inv.made (C := C) I
  have r2 : Vals (V.ref (s.heap.objs.size + 1) :: (vs ++ dvs)) (Value.ref (s.heap.objs.size + 1) :: (us ++ ds)) := .cons rfl (r.append hd)
  have hl : (Value.ref (s.heap.objs.size + 1) :: us ++ ds).length = ps.length := (r2.length.symm.trans (F.len _ _ _ _ hq))
  refine wpAny_call (make_map (f := f) I.kIn M.makes M.init (beq_iff_eq.mp M.fn) (codeAny_mono (F.run _ X.c.stack _ _ ⟨Value.ref (s.heap.objs.size + 1) :: us, []⟩ (Value.ref (s.heap.objs.size + 1) :: (us ++ ds)) _ _ E (room_under hr C us []) (J.env0.make C us []) (hb _ (Value.ref (s.heap.objs.size + 1) :: us) J.kIn hl) r2 hq) fun r s' hq' => ?_))
  match r, hq' with
  | .error e, hq' => exact tk e s' (XE.of_call J hW hq')
  | .ok (.ret u), hq' =>
    obtain ⟨v, H', I3, rv, ev, q3⟩ := J.after hq'
    subst ev
    exact ⟨rv, ⟨V.ref (s.heap.objs.size + 1), H', I3, rfl, q3⟩⟩
  | .ok .next, hq' => exact hq'.elim
  | .ok .brk, hq' => exact hq'.elim
  | .ok .cont, hq' => exact hq'.elim
/-- C(e, ..) -/
theorem ae_mkX {k : Nat} {ps : List Str} {dps : List PV} {R : RX} {Ξ : Ex → Env1 → Own → Prop} (G : MakA (gx X) k x ps dps R) (hr : RoomG (k + 1) X.A) (tk : TakesA X Ξ)
    (h : AA X (e :: es) ρ O fun args O1 => R (.o O1.length :: (args ++ dps)) (O1 ++ [.ins x []]) (fun v O2 => v = pN ∧ Φ (.o O1.length) O2) fun ex O2 => Ξ ex ρ O2) (hg : Gl X.c x := by rfl) (hdb : (x == ("__debug__" : Str)) = false := by decide) (he : starEach (e :: es) X.env = (false, eval e X.env) :: starEach es X.env := by rfl) (hpl : (backTo pos (starEach es X.env)).any (·.1) = false := by rfl) : AE X (.Call (.Name x p) (e :: es) [] pos) ρ O Φ := fun as F σ H w r => by
  obtain ⟨C, f, fd, ds, dvs, hC, M, h1, h4, h5, h6⟩ := G
  refine tE_of (t := fun σ H Q => tA X.c (e :: es) σ H fun vs H1 => ∃ E : XK, (∀ a dx, H1 a = none → H1 dx = none → dx ≠ a → spA X.c.K X.c.mg R (.ref a :: (vs ++ dvs)) (upd (upd H1 dx (.own a)) a (.ins C dx [])) (fun v H2 => v = .non ∧ Q (.ref a) H2) E) ∧ ∀ cls d H', E cls d H' → ∃ e ρ O as F, Wd X.k O as F H' ∧ RS X.k F as ρ σ ∧ XRel X.k F e cls d ∧ Ξ e ρ O) ⟨fun pins s σ H Q I hh => ?_⟩ ?_
  · refine wpAny_Call_Name_kw (ld_glob I hg hC ?_ hdb)
    refine PySem.W.callWith_K (h₀ := X.c.base) I.ok.mod.kin M.kp (thn (pa_tA.run pos pins s σ H _ I hh) fun us s1 ⟨vs, H1, I1, r1, E, q, hW⟩ => ⟨I1.kIn, ?_⟩) he hpl
    exact run_mk M h1 hr h4 h5 tk hW I1 r1 q
  · refine h.run w r fun args O1 as1 F1 vs H1 w1 g1 s1 rx r1 q => ?_
    refine ⟨XQ ⟨X.c.K, X.c.mg, as1, F1⟩ as1 F1 (fun ex O2 => Ξ ex ρ O2), fun a dx ha hdx hne => ?_, fun cls d H' z => ?_⟩
    · have w2 := w1.side (h := .own a) hdx
      have ha2 : upd H1 dx (.own a) a = none := by rw [upd_ne (Ne.symm hne)]; exact ha
      have w3 := w2.new (ob := .ins x []) (h := .ins C dx []) ha2 ⟨C, dx, [], hC, rfl, .nil⟩ (fun z => nomatch z)
      have gg : Gr as1 (as1 ++ [a]) := Gr.app _ _
      refine ⟨O1 ++ [.ins x []], as1 ++ [a], F1, .o O1.length :: (args ++ dps), _, (fun ex O2 => Ξ ex ρ O2), w3.floor (Gr.refl _) (Same.refl _), ?_, q, fun v H' z => ?_, fun cls d H' z => ?_⟩
      · exact rps_floor (K := X.k) (.cons ⟨a, w1.at_new a, rfl⟩ (rps_app (RPs.mono (Same.refl _) gg rx) (h6 _ F1 _)))
      · obtain ⟨pv, O2, as2, F2, w4, g4, s4, r4, e4, q4⟩ := PQ.lift (K := X.k) w3.fa w3.fF z
        subst e4
        cases (show Dq F2 v .none from r4)
        exact ⟨rfl, .o O1.length, O2, as2, F2, w4, g1.trans (gg.trans g4), s1.trans s4, ⟨a, g4 _ _ (w1.at_new a), rfl⟩, q4⟩
      · obtain ⟨ex, O3, as3, F3, w4, g4, s4, rr, q4⟩ := XQ.lift (K := X.k) w3.fa w3.fF z
        exact ⟨ex, O3, as3, F3, w4.floor (gg.trans g4) s4, gg.trans g4, s4, rr, q4⟩
    · obtain ⟨ex, O3, as3, F3, w3, g3, s3, rr, q3⟩ := XQ.lift (K := X.k) w1.fa w1.fF z
      exact ⟨ex, ρ, O3, as3, F3, w3, r1.mono s3 g3, rr, q3⟩
/-- what raises nothing -/
theorem ae_meth {k : Nat} {ps : List Str} {dps : List PV} {R : RA} {c m : Str} {o : Expr} {apos : Pos} (G : MetA (gx X) k c m ps dps (up R)) (hr : RoomG k X.A)
    (h : AE X o ρ O fun x O1 => ∃ n fs, x = .o n ∧ O1[n]? = some (.ins c fs) ∧ fs.lookup m = none ∧ AA X (e :: es) ρ O1 fun args O2 => R (.o n :: (args ++ dps)) O2 Φ) {pl : Sem Bool}
    (hst : starEach (e :: es) X.env = (false, eval e X.env) :: starEach es X.env := by rfl) (hpl : (backTo pos (starEach es X.env)).any (·.1) = false := by rfl)
    (ht : eval (.Call (.Attribute o m apos) (e :: es) [] pos) X.env = (do
      let ov ← eval o X.env
      standAt apos.atName
      let (f, first) ← holding [ov] (getMethod ov m pl)
      callWith pos f first (backTo pos (starEach (e :: es) X.env)) (backToKw pos (keywordEach [] X.env))) := by rfl) : AE X (.Call (.Attribute o m apos) (e :: es) [] pos) ρ O Φ := ae_methX (Ξ := fun _ _ _ => False) G hr takes_none h hst hpl ht
theorem ae_meth0 {k : Nat} {ps : List Str} {dps : List PV} {R : RA} {c m : Str} {o : Expr} {apos : Pos} (G : MetA (gx X) k c m ps dps (up R)) (hr : RoomG k X.A)
    (h : AE X o ρ O fun x O1 => ∃ n fs, x = .o n ∧ O1[n]? = some (.ins c fs) ∧ fs.lookup m = none ∧ R (.o n :: dps) O1 Φ) {pl : Sem Bool}
    (ht : eval (.Call (.Attribute o m apos) [] [] pos) X.env = (do
      let ov ← eval o X.env
      standAt apos.atName
      let (f, first) ← holding [ov] (getMethod ov m pl)
      callWith pos f first (backTo pos (starEach [] X.env)) (backToKw pos (keywordEach [] X.env))) := by rfl) : AE X (.Call (.Attribute o m apos) [] [] pos) ρ O Φ := ae_meth0X (Ξ := fun _ _ _ => False) G hr takes_none h ht
end
end Al
namespace Al
open PySem PySem.Spec L2
open PyProof.Rows hiding St
theorem inst_of {P : Program} {w : World} {H : Hp} {h : Heap} {a C dx : Addr} {ws : List (Str × V)} (hok : HOk P w H h) (e : H a = some (.ins C dx ws)) : ∃ ox od, PySem.W.InstAt h a ox C od := by
  obtain ⟨mA, O, _⟩ := ins_get hok e
  obtain ⟨od, ho, _⟩ := lookIn_ns O.ns
  exact ⟨PySem.W.instObj C dx, some od, O.obj, rfl, rfl, ho⟩
section
variable {X : Ax} {O : Own} {Φ : PV → Own → Prop}
/-- len(e), the class's own -/
theorem c_lenI {k : Nat} {c : Str} {ps : List Str} {R : RA} {n : Nat} {fs : List (Str × PV)} (G : MetA (gx X) k c "__len__" ps [] (up R)) (hr : RoomG (k + 1) X.A) (hO : O[n]? = some (.ins c fs)) (h : R [.o n] O fun v O' => ∃ j : Nat, v = .d (iD j) ∧ j ≤ 16000000 ∧ Φ (.d (iD j)) O') : CallA X (.builtin "len") [.o n] O Φ := by
  obtain ⟨C, f, fd, ds, dvs, hC, kc, km, h1, h4, h5, h6⟩ := G
  have hdv : dvs = [] := by
    have := h6 X.k X.F0 []
    cases this
    rfl
  subst hdv
  cases h5
  refine calla_of (r := fun xs H Q => ∃ a dx ws, xs = [.ref a] ∧ H a = some (.ins C dx ws) ∧ spA X.c.K X.c.mg (up R) [.ref a] H (fun v H' => ∃ j : Nat, v = .int (j : Nat) ∧ j ≤ 16000000 ∧ Q (.int (j : Nat)) H') fun _ _ _ => False) ?_ ?_
  · intro pins s σ H xs us Q I r hh
    obtain ⟨a, dx, ws, rfl, ea, q⟩ := hh
    obtain rfl := Vals.ref1 r
    obtain ⟨ox, od, J⟩ := inst_of I.hok ea
    obtain ⟨mm, hfr⟩ := I.fr
    refine PySem.W.len_K hfr I.ok.mod.kin J km.at_ km.fn ?_
    have hl : ([Value.ref a] ++ ([] : List Value)).length = ps.length := h1.len _ _ _ _ q
    refine wpAny_call (codeAny_mono (h1.run X.c.A.in1 X.c.stack s H ⟨[.ref a], []⟩ [.ref a] [.ref a] _ _ ⟨hr.r.in1, hr.g⟩ I.env0.in1 (h4 s [.ref a] I.kIn hl) (.cons rfl .nil) q) fun r s' hq => ?_)
    match r, hq with
    | .error e, hq => exact takes_none (X := X) e s' (XE.of_call I (W := fun cls d σ H => ∃ e ρ O as F, Wd X.k O as F H ∧ RS X.k F as ρ σ ∧ XRel X.k F e cls d ∧ False) (fun _ _ _ z => z.elim) hq)
    | .ok (.ret u), hq =>
      obtain ⟨v, H', I', rv, j, ev, hj, qj⟩ := I.after hq
      subst ev
      obtain ⟨t, rfl⟩ := rv
      exact ⟨⟨by omega, by omega⟩, .int (j : Nat), H', I'.tok _, ⟨_, rfl⟩, qj⟩
    | .ok .next, hq => exact hq.elim
    | .ok .brk, hq => exact hq.elim
    | .ok .cont, hq => exact hq.elim
  · intro as F H vs w rx
    obtain ⟨v, rfl, r1⟩ := rps1 rx
    obtain ⟨a, C', dx, ws, rfl, ha, fn, hc, hh, rf⟩ := own_ins w hO r1
    have eC : C' = C := by have := hc.symm.trans hC; cases this; rfl
    subst eC
    refine ⟨a, dx, ws, rfl, hh, O, as, F, [.o n], _, (fun _ _ => False), w.floor (Gr.refl _) (Same.refl _), rps_floor (K := X.k) (.cons ⟨a, ha, rfl⟩ .nil), h, fun v H' z => ?_, fun cls d H' z => ?_⟩
    · obtain ⟨pv, O2, as2, F2, w4, g4, s4, r4, j, e4, hj, q4⟩ := PQ.lift (K := X.k) w.fa w.fF z
      subst e4
      cases (show Dq F2 v (iD j) from r4)
      exact ⟨j, rfl, hj, PQ.mk w4 (show RPV X.k F2 as2 (pI _) _ from Dq.int _) q4 |>.back g4 s4⟩
    · obtain ⟨_, _, _, _, _, _, _, _, z⟩ := z
      exact z
end
end Al
namespace Al
open PySem PySem.Spec L2
open PyProof.Rows hiding St
/-! ### e.f op= value -/
section
variable {X : Ax} {o e : Expr} {ρ : Env1} {O : Own} {D : AEnds} {pos tpos : Pos} {f : Str}
theorem as_augF {op : Operator} (h : AE X o ρ O fun x O1 => ∃ n c fs z, x = .o n ∧ O1[n]? = some (.ins c fs) ∧ ClsK (gx X) c ∧ FldK (gx X) c f ∧ fs.length < 1000 ∧ fs.lookup f = some z ∧
      AE X e ρ O1 fun y O3 => BinA X (inplaceOp op) z y O3 fun u O4 => O4[n]? = some (.ins c fs) ∧ D.nx ρ (O4.set n (.ins c (putP f u fs)))) : AS X (.AugAssign (.Attribute o f tpos) op e pos) ρ O D := fun as F σ H w r => by
  refine tS_of (ps_fldaug (rd := rB X.c (inplaceOp op)) pe_tE pe_tE (fun pins s σ H x y u v Q I r1 r2 q => op_rB pins s σ H x y u v Q I r1 r2 q)) ?_
  refine h.run w r fun x O1 as1 F1 v1 H1 w1 g1 s1 rx r1 ⟨n, c, fs, z, e1, hO, kc, kf, hl, hz, h2⟩ => ?_
  subst e1
  obtain ⟨a, C, dx, ws, rfl, h1, fn, hc, hh, rf⟩ := own_ins w1 hO rx
  obtain ⟨v, hv, rv⟩ := rfs_look rf hz
  refine ⟨a, C, dx, ws, v, rfl, hh, kc C hc, kf C hc, hv, ?_⟩
  refine h2.run w1 r1 fun y O3 as3 F3 v3 H3 w3 g3 s3 ry r3 h3 => ?_
  refine rB_mono (h3 as3 F3 H3 v v3 w3 (rv.mono s3 g3) ry) fun v4 H4 ⟨u, O4, as4, F4, w4, g4, s4, ru, hO4, q⟩ => ?_
  obtain ⟨a2, C2, dx2, ws2, ea, h12, fn2, hc2, hh2, rf2⟩ := own_ins w4 hO4 (show RPV X.k F4 as4 (.o n) (.ref a) from ⟨a, (g3.trans g4) n a h1, rfl⟩)
  cases ea
  have eC : C2 = C := by have := hc2.symm.trans hc; cases this; rfl
  subst eC
  refine ⟨dx2, ws2, hh2, by rw [← rfs_len rf2]; exact hl, ρ, _, as4, F4, w4.set (ob := .ins c (putP f u fs)) (h := .ins C2 dx2 (putF f v4 ws2)) h12 fn2 ⟨C2, dx2, _, hc2, rfl, rfs_put ru rf2⟩ (fun z => nomatch z), (g1.trans g3).trans g4, (s1.trans s3).trans s4, r3.mono s4 g4, q⟩
end
theorem putP_lt {f : Str} {x : PV} : ∀ {fs : List (Str × PV)} {k : Nat}, fs.length < k → (putP f x fs).length < k + 1
  | [], _, h => Nat.succ_lt_succ h
  | (a, p) :: fs, k, h => by
    show (if a = f then (a, x) :: fs else (a, p) :: putP f x fs).length < k + 1
    split
    · exact Nat.lt_succ_of_lt h
    · cases k with
      | zero => exact absurd h (Nat.not_lt_zero _)
      | succ k => exact Nat.succ_lt_succ (putP_lt (Nat.lt_of_succ_lt_succ h))
/-! ### a trier: the mathematics -/
def oq (m : Mach) (cs w : List Nat) : List Nat := optX m cs w w.length
def rest (m : Mach) (cs : List Nat) : List Nat → List Nat → Nat → List (List Nat)
  | [], _, at_ => ((oq m cs []).drop at_).flatMap fun r => rst m cs [r]
  | x :: rw, tu, at_ => ((oq m cs (rw.reverse ++ [x])).drop at_).flatMap (fun r => rst m cs (rw.reverse ++ [x] ++ [r])) ++ rest m cs rw tu.tail (tu.headD 0 + 1)
/-! ### a trier's fields -/
/-! ### promises -/
end Al
namespace Al
open PySem PySem.Spec L2
open PyProof.Rows hiding St
/-! ### a trier asked: the next way, or the end -/
end Al
namespace Al
open PySem PySem.Spec L2
open PyProof.Rows hiding St
/-! ### C(e, .., k = v, ..) of an own class -/
section
variable {X : Ax} {e : Expr} {es : List Expr} {kws : List Keyword} {ρ : Env1} {O : Own} {Φ : PV → Own → Prop} {pos p : Pos} {x : Str} {σ : L2.St}
/-! ### a slice of an owned list: a new owned list -/
def cutP (xs : List PV) (lo hi : Option Int) : List PV := (xs.drop (HT.sIx xs.length 0 lo)).take (HT.sIx xs.length xs.length hi - HT.sIx xs.length 0 lo)
theorem cutP_take (xs : List PV) (k : Nat) : cutP xs none (some ((k : Nat) : Int)) = xs.take k := by
  unfold cutP
  have e : ∀ n d, HT.sIx n d (some ((k : Nat) : Int)) = min k n := fun n d => HT.sIx_nat n d k
  have e0 : ∀ n, HT.sIx n 0 none = 0 := fun n => rfl
  rw [e, e0, List.drop_zero, Nat.sub_zero]
  refine List.ext_getElem? fun i => ?_
  rw [List.getElem?_take, List.getElem?_take]
  by_cases h : i < k
  · rw [if_pos h]
    by_cases h2 : i < xs.length
    · rw [if_pos (by omega)]
    · rw [List.getElem?_eq_none (by omega)]; simp
  · rw [if_neg h, if_neg (by omega)]
theorem rps_cut {K : KF} {F : Hp} {as : List Addr} {xs : List PV} {vs : List V} (h : RPs K F as xs vs) (lo hi : Option Int) : RPs K F as (cutP xs lo hi) (cutV vs lo hi) := by
  unfold cutP cutV
  rw [h.len]
  exact rps_take _ (rps_drop _ h)
theorem sl_O {n : Nat} {xs : List PV} {lo hi : Option Int} (hO : O[n]? = some (.lst xs)) (k : Φ (.o O.length) (O ++ [.lst (cutP xs lo hi)])) : ∀ as F H vx, Wd X.k O as F H → RPV X.k F as (.o n) vx → rSlL X.K vx lo hi H (PQ X.k as F Φ) := fun as F H vx w rx => by
  obtain ⟨q, vs, rfl, h1, fn, hh, rvs⟩ := own_lst w hO rx
  refine ⟨_, _, rfl, SqL.of hh, fun p hp => ?_⟩
  exact ⟨.o O.length, _, _, F, w.new (ob := .lst (cutP xs lo hi)) (h := .lst (cutV vs lo hi)) hp ⟨_, rfl, rps_cut rvs lo hi⟩ (fun z => nomatch z), Gr.app _ _, Same.refl _, ⟨p, w.at_new p, rfl⟩, k⟩
end
/-! ### a reader -/
def mkS (l : List Nat) : Str := ⟨l.toArray⟩
theorem cds_mkS (l : List Nat) : cds (mkS l) = l := by unfold cds mkS; simp
theorem mkS_len (l : List Nat) : (mkS l).length = l.length := by rw [← cds_len, cds_mkS]
abbrev RdI (m : Mach) (z : Str) (q : Nat) : AO := .ins "Reader" [("read_machine", .d (mD m)), ("word", pS z), ("vectors", .o q)]
abbrev rws (m : Mach) (cs : List Nat) : AO := .lst (((rowsV m m.fs cs).map vD).map PV.d)
abbrev vecR (m : Mach) (cs : List Nat) : List Int := mvs m (alone m.n m.fs) cs
theorem rowsV_split (m : Mach) (fs cs : List Nat) : ∃ l, rowsV m fs cs = l ++ [mvs m (alone m.n fs) cs] ∧ l.length = cs.length := by
  refine ⟨(List.range cs.length).map fun i => mvs m (alone m.n fs) (cs.take i), ?_, by simp⟩
  unfold rowsV
  rw [List.range_succ, List.map_append, List.map_singleton, List.take_length]
theorem rowsV_snoc (m : Mach) (fs cs : List Nat) (c : Nat) : rowsV m fs (cs ++ [c]) = rowsV m fs cs ++ [mvs m (alone m.n fs) (cs ++ [c])] := by
  unfold rowsV
  rw [List.length_append, List.length_singleton, List.range_succ (n := cs.length + 1), List.map_append, List.map_singleton]
  congr 1
  · refine List.map_congr_left fun i hi => ?_
    have hi := List.mem_range.mp hi
    rw [List.take_append_of_le_length (by omega)]
  · rw [List.take_of_length_le (by simp)]
theorem rowsV_take (m : Mach) (fs cs : List Nat) {k : Nat} (h : k ≤ cs.length) : (rowsV m fs cs).take (k + 1) = rowsV m fs (cs.take k) := by
  unfold rowsV
  rw [← List.map_take, List.take_range, List.length_take, Nat.min_eq_left h, Nat.min_eq_left (by omega)]
  refine List.map_congr_left fun i hi => ?_
  have hi := List.mem_range.mp hi
  rw [List.take_take, Nat.min_eq_left (by omega)]
theorem rws_last (m : Mach) (cs : List Nat) : atI (((rowsV m m.fs cs).map vD).map PV.d) (-1) = some (.d (vD (vecR m cs))) := by
  obtain ⟨l, e, _⟩ := rowsV_split m m.fs cs
  rw [e, List.map_append, List.map_append]
  exact at_last _ _
theorem rws_snoc (m : Mach) (cs : List Nat) (c : Nat) : rws m (cs ++ [c]) = .lst (((rowsV m m.fs cs).map vD).map PV.d ++ [PV.d (vD (mvd m.n m.st (vecR m cs) c))]) := by
  show AO.lst (((rowsV m m.fs (cs ++ [c])).map vD).map PV.d) = _
  rw [rowsV_snoc, mvs_snoc, List.map_append, List.map_append]; rfl
theorem cl_rdI {O : Own} {n q : Nat} {m : Mach} {z : Str} (cl : ClO O) (hq : q < O.length) : ClO (O.set n (RdI m z q)) := by
  refine cl_set cl ?_
  show (true && (true && (decide (q < O.length) && true))) = true
  rw [decide_eq_true hq]; rfl
/-! promises -/
def rGoOn : RA := fun args O Φ => ∃ n q m z c, args = [.o n, pS ⟨#[c]⟩] ∧ O[n]? = some (RdI m z q) ∧ O[q]? = some (rws m (cds z)) ∧ n ≠ q ∧ MOk m ∧ z.length ≤ 400 ∧ ClO O ∧ Φ pN ((O.set n (RdI m (mkS (cds z ++ [c])) q)).set q (rws m (cds z ++ [c])))
def rTakeR : RA := fun args O Φ => ∃ n q m z t, args = [.o n, pS t] ∧ O[n]? = some (RdI m z q) ∧ O[q]? = some (rws m (cds z)) ∧ n ≠ q ∧ MOk m ∧ WordOk t ∧ z.length + t.length ≤ 400 ∧ ClO O ∧ Φ pN ((O.set n (RdI m (mkS (cds z ++ cds t)) q)).set q (rws m (cds z ++ cds t)))
def rBackR : RA := fun args O Φ => ∃ (n q : Nat) (m : Mach) (z : Str) (k : Nat), args = [.o n, .d (iD k)] ∧ O[n]? = some (RdI m z q) ∧ O[q]? = some (rws m (cds z)) ∧ n ≠ q ∧ 1 ≤ k ∧ k ≤ z.length ∧ z.length ≤ 400 ∧ ClO O ∧ Φ pN (O.set n (RdI m (mkS ((cds z).take (z.length - k))) O.length) ++ [rws m ((cds z).take (z.length - k))])
def rWaysR : RA := fun args O Φ => ∃ n q m z, args = [.o n] ∧ O[n]? = some (RdI m z q) ∧ O[q]? = some (rws m (cds z)) ∧ MOk m ∧ ClO O ∧ Φ (pI (waysN m (cds z) m.fs m.ls)) O
end Al
namespace Al
open PySem PySem.Spec L2
open PyProof.Rows hiding St
/-! ### what is looked at, whatever it is -/
/-! promises -/
def okT (x : PyData) : Prop := ∀ a z b, x = .tuple [a, .str z, b] → z.length ≤ 16000000
end Al
namespace Al
open PySem PySem.Spec L2
open PyProof.Rows hiding St
/-! ### triers and readers refused -/
end Al
namespace L2
open PySem PySem.Spec PyProof.Rows
end L2
namespace Al
open PySem PySem.Spec L2
end Al
namespace Al
open PySem PySem.Spec L2
open PyProof.Rows hiding St
/-! ### isinstance of a caught exception with any own class -/
/-- an own class, by its name alone -/
def NmC (G : Gx) (x : Str) : Prop := ∃ C, G.mg x = some (.ref C) ∧ (PySem.W.clsIn G.K C).isSome = true ∧ PySem.W.typeIn G.K (.ref C) = some (.type "type")
section
variable {X : Ax} {ρ : Env1} {O : Own} {Φ : PV → Own → Prop} {pos : Pos} {x : Str} {fs : List Str} {b : Bool}
/-- the class named, and isinstance with it -/
theorem ae_cls (h : NmC (gx X) x) (k : ∀ C, X.mg x = some (.ref C) → (PySem.W.clsIn X.c.K C).isSome = true → PySem.W.typeIn X.c.K (.ref C) = some (.type "type") → Φ (.v (.ref C)) O) (hg : Gl X.c x := by rfl) (hd : (x == ("__debug__" : Str)) = false := by decide) : AE X (.Name x pos) ρ O Φ := by
  obtain ⟨C, hC, h1, h2⟩ := h
  exact ae_glob (v := .ref C) (pv := .v (.ref C)) hg hC rfl (fun _ _ => rfl) (k C hC h1 h2) hd
end
end Al
namespace Al
open PySem PySem.Spec L2
end Al
namespace Al
open PySem PySem.Spec L2
open PyProof.Rows hiding St
/-! ### owned objects seen as data -/
theorem own_tup {K : KF} {O : Own} {as : List Addr} {F H : Hp} {n : Nat} {xs : List PV} {v : V} (w : Wd K O as F H) (hO : O[n]? = some (.tup xs)) (r : RPV K F as (.o n) v) : ∃ q vs, v = .ref q ∧ as[n]? = some q ∧ F q = none ∧ H q = some (.tup vs) ∧ RPs K F as xs vs := by
  obtain ⟨q, hq, rfl⟩ := r
  obtain ⟨q', h1, fn, ho, hh, vs, rfl, rvs⟩ := w.at_ hO
  have e6 : q' = q := Option.some.inj (h1.symm.trans hq)
  subst e6
  exact ⟨q', vs, rfl, h1, fn, hh, rvs⟩
section
variable {X : Ax} {es : List Expr} {ρ : Env1} {O : Own} {Φ : PV → Own → Prop} {Ψ : Env1 → Own → Prop} {pos : Pos} {p q : PV} {a b d : PyData} {i : Int}
/-- a, b, .. = an owned tuple -/
theorem ag_tupO {n k : Nat} {xs : List PV} (hc : X.calm = true) (hO : O[n]? = some (.tup xs)) (h : AGs X es xs ρ O Ψ) (hn : (assignEach es X.env).length = xs.length := by rfl) (hst : (assignEach es X.env).findIdx? (·.1) = none := by rfl) : AG X (.Tuple es k pos) (.o n) ρ O Ψ := fun as F σ H v w r rv => by
  refine tG_of (pg_tup hc pgs_tGs hn hst) ?_
  obtain ⟨q, vs, rfl, h1, fn, hh, rvs⟩ := own_tup w hO rv
  exact ⟨_, _, rfl, SqT.of hh, rvs.len.symm, h as F σ H _ w r rvs⟩
/-- t[i] of an owned tuple -/
theorem ix_TO {n : Nat} {ps : List PV} {x : PV} (hO : O[n]? = some (.tup ps)) (h : atI ps i = some x) (k : Φ x O) : IxA X (.o n) (pI i) O Φ := ixa_of ix_tup fun as F H vx vy w rx ry => by
  cases (show Dq F vy (.int i) from ry)
  obtain ⟨q, vs, rfl, h1, fn, hh, rvs⟩ := own_tup w hO rx
  obtain ⟨v, h2, h3⟩ := rvs.atI h
  exact ⟨_, _, i, v, rfl, rfl, SqT.of hh, h2, PQ.mk w h3 k⟩
/-- len of an owned tuple -/
theorem c_lenTO {n : Nat} {ps : List PV} (hO : O[n]? = some (.tup ps)) (k : Φ (pI (ps.length : Nat)) O) : CallA X (.builtin "len") [.o n] O Φ := calla_of call_len_seq fun as F H vs w rx => by
  obtain ⟨v, rfl, r1⟩ := rps1 rx
  obtain ⟨q, us, rfl, h1, fn, hh, rvs⟩ := own_tup w hO r1
  refine ⟨q, us, rfl, .inr (SqT.of hh), ?_⟩
  rw [← rvs.len]
  exact PQ.mk w (show RPV X.k F as (pI _) _ from Dq.int _) k
end
end Al
namespace Al
open PySem PySem.Spec L2
open PyProof.Rows hiding St
/-! ### a machine, frozen or owned part by part -/
def IsM (O : Own) (p : PV) (m : Mach) : Prop := p = .d (mD m) ∨ ∃ i a b c, p = .o i ∧ O[i]? = some (.tup [.d (iD m.n), .o a, .o b, .o c]) ∧ O[a]? = some (lr m.fs) ∧ O[b]? = some (lr m.ls) ∧ O[c]? = some (.lst ((m.st.map stD).map PV.d))
theorem isM_d {O : Own} {m : Mach} : IsM O (.d (mD m)) m := .inl rfl
theorem IsM.app {O l : Own} {p : PV} {m : Mach} (h : IsM O p m) : IsM (O ++ l) p m := by
  rcases h with h | ⟨i, a, b, c, h0, h1, h2, h3, h4⟩
  · exact .inl h
  · have g : ∀ {j : Nat} {ob : AO}, O[j]? = some ob → (O ++ l)[j]? = some ob := fun {j ob} e => by
      rw [List.getElem?_append_left (List.getElem?_eq_some_iff.mp e).1]; exact e
    exact .inr ⟨i, a, b, c, h0, g h1, g h2, g h3, g h4⟩
abbrev IsRm (O : Own) (p : PV) (rs : List Nat) : Prop := IsL O p ((rs.map iD).map PV.d)
abbrev IsSs (O : Own) (p : PV) (st : List Stp) : Prop := IsL O p ((st.map stD).map PV.d)
section
variable {X : Ax} {e1 e2 e3 e4 : Expr} {ρ : Env1} {O : Own} {Φ : PV → Own → Prop} {Ψ : Env1 → Own → Prop} {pos : Pos} {p : PV} {m : Mach}
/-- a, b, c, d = a machine -/
theorem ag_tupM {k : Nat} (hc : X.calm = true) (h : IsM O p m) (q : ∀ pf pl ps, IsRm O pf m.fs → IsRm O pl m.ls → IsSs O ps m.st → AGs X [e1, e2, e3, e4] [.d (iD m.n), pf, pl, ps] ρ O Ψ) (hn : (assignEach [e1, e2, e3, e4] X.env).length = 4 := by rfl) (hst : (assignEach [e1, e2, e3, e4] X.env).findIdx? (·.1) = none := by rfl) : AG X (.Tuple [e1, e2, e3, e4] k pos) p ρ O Ψ := by
  rcases h with rfl | ⟨i, a, b, c, rfl, h1, h2, h3, h4⟩
  · exact ag_tup hc (q _ _ _ isL_d isL_d isL_d) hn hst
  · exact ag_tupO hc h1 (q _ _ _ (isL_o h2) (isL_o h3) (isL_o h4)) hn hst
theorem ixM0 (h : IsM O p m) (k : Φ (.d (iD m.n)) O) : IxA X p (pI 0) O Φ := by
  rcases h with rfl | ⟨i, a, b, c, rfl, h1, h2, h3, h4⟩
  · exact ix_T (a := iD m.n) rfl k
  · exact ix_TO h1 rfl k
theorem ixM1 (h : IsM O p m) (k : ∀ q, IsRm O q m.fs → Φ q O) : IxA X p (pI 1) O Φ := by
  rcases h with rfl | ⟨i, a, b, c, rfl, h1, h2, h3, h4⟩
  · exact ix_T (a := rmsD m.fs) rfl (k _ isL_d)
  · exact ix_TO h1 rfl (k _ (isL_o h2))
theorem c_isTupM (h : IsM O p m) (k : Φ (pB true) O) : CallA X (.builtin "isinstance") [p, .v (.ty "tuple")] O Φ := by
  rcases h with rfl | ⟨i, a, b, c, rfl, h1, h2, h3, h4⟩
  · exact c_isTup k
  · exact c_isiO h1 (fun e => nomatch e) (fun _ _ e => nomatch e) (show kitB "tuple" "tuple" = some true by decide +kernel) k
theorem c_isLstL {xs : List PV} (h : IsL O p xs) (k : Φ (pB true) O) : CallA X (.builtin "isinstance") [p, .v (.ty "list")] O Φ := by
  rcases h with ⟨ds, rfl, _⟩ | ⟨n, rfl, h⟩
  · exact c_isList k
  · exact c_isiO h (fun e => nomatch e) (fun _ _ e => nomatch e) (show kitB "list" "list" = some true by decide +kernel) k
theorem c_lenM (h : IsM O p m) (k : Φ (pI 4) O) : CallA X (.builtin "len") [p] O Φ := by
  rcases h with rfl | ⟨i, a, b, c, rfl, h1, h2, h3, h4⟩
  · exact c_lenT k
  · exact c_lenTO h1 k
theorem c_lenIL {xs : List PV} (h : IsL O p xs) (k : Φ (pI (xs.length : Nat)) O) : CallA X (.builtin "len") [p] O Φ := by
  rcases h with ⟨ds, rfl, e⟩ | ⟨n, rfl, h⟩
  · subst e
    rw [List.length_map] at k
    exact c_lenL k
  · exact c_lenO h k
end
/-! promises -/
def rLookRoomsM : RA := fun args O Φ => ∃ (n : Nat) (q p : PV) (rs : List Nat), args = [.d (iD n), q, p] ∧ IsRm O p rs ∧ Rms n rs ∧ Φ pN O
def rLookStepsM : RA := fun args O Φ => ∃ (n : Nat) (st : List Stp) (p : PV), args = [.d (iD n), p] ∧ IsSs O p st ∧ (∀ s ∈ st, StOk n s) ∧ st.Nodup ∧ st.length ≤ 200 ∧ ClO O ∧ Φ pN O
def rLookMm : RA := fun args O Φ => ∃ m p, args = [p] ∧ IsM O p m ∧ MOk m ∧ ClO O ∧ Φ pN O
def rCopiedM : RA := fun args O Φ => ∃ m p, args = [p] ∧ IsM O p m ∧ Φ (.d (mD m)) O
end Al
namespace Al
open PySem PySem.Spec L2
open PyProof.Rows hiding St
/-! ### rooms come to, useful rooms, the machine trimmed: the mathematics -/
/-- come to from rs by the pairs E -/
inductive Rch (E : List (Nat × Nat)) (rs : List Nat) : Nat → Prop
  | base {r : Nat} : r ∈ rs → Rch E rs r
  | step {a b : Nat} : Rch E rs a → (a, b) ∈ E → Rch E rs b
theorem Rch.mono {E E' : List (Nat × Nat)} {rs rs' : List Nat} (hE : ∀ e ∈ E, e ∈ E') (hr : ∀ r ∈ rs, r ∈ rs') {r : Nat} (h : Rch E rs r) : Rch E' rs' r := by
  induction h with
  | base h => exact .base (hr _ h)
  | step _ he ih => exact .step ih (hE _ he)
/-- what is closed and holds the rooms holds all that is come to -/
theorem Rch.sub {E : List (Nat × Nat)} {rs : List Nat} {S : Nat → Prop} (h0 : ∀ r ∈ rs, S r) (h1 : ∀ a b, S a → (a, b) ∈ E → S b) {r : Nat} (h : Rch E rs r) : S r := by
  induction h with
  | base h => exact h0 _ h
  | step _ he ih => exact h1 _ _ ih he
theorem Rch.lt {E : List (Nat × Nat)} {rs : List Nat} {n : Nat} (h0 : ∀ r ∈ rs, r < n) (h1 : ∀ e ∈ E, e.2 < n) {r : Nat} (h : Rch E rs r) : r < n :=
  h.sub (S := fun r => r < n) h0 fun _ _ _ he => h1 _ he
end Al
namespace Al
open PySem PySem.Spec L2
open PyProof.Rows hiding St
end Al
namespace Al
open PySem PySem.Spec L2
open PyProof.Rows hiding St
end Al
namespace Al
open PySem PySem.Spec L2
end Al
namespace Al
open PySem PySem.Spec L2
open PyProof.Rows hiding St
/-! ### a part of an owned tuple; what goes through one -/
end Al
namespace Al
open PySem PySem.Spec L2
open PyProof.Rows hiding St
/-! ### a tail of owned objects behind others -/
theorem get_at {O T : Own} (k : Nat) : (O ++ T)[O.length + k]? = T[k]? := by
  rw [List.getElem?_append_right (by omega), Nat.add_sub_cancel_left]
theorem get_at0 {O T : Own} : (O ++ T)[O.length]? = T[0]? := get_at (O := O) (T := T) 0
theorem set_at {O T : Own} {x : AO} (k : Nat) : (O ++ T).set (O.length + k) x = O ++ T.set k x := by
  rw [List.set_append_right _ _ (by omega), Nat.add_sub_cancel_left]
theorem set_at0 {O T : Own} {x : AO} : (O ++ T).set O.length x = O ++ T.set 0 x := set_at (O := O) (T := T) 0
theorem cl_ext {O T : Own} (c : ClO O) (h : ∀ x ∈ T, x.below (O.length + T.length) = true) : ClO (O ++ T) := by
  unfold ClO
  rw [List.all_append, Bool.and_eq_true, List.length_append]
  exact ⟨List.all_eq_true.mpr fun y hy => ao_below_mono (by omega) (List.all_eq_true.mp c y hy), List.all_eq_true.mpr h⟩
/-! ### a list of new lists -/
/-! ### promises -/
/-! ### where a way stands -/
/-! ### the state of the law -/
/-! ### one machine of one room, one of two -/
end Al
namespace Al
open PySem PySem.Spec L2
open PyProof.Rows hiding St
/-! ### long words of one letter: which tries come first -/
/-! ### the long words -/
end Al
namespace Al
open PySem PySem.Spec L2
open PyProof.Rows hiding St
/-! ### repr of an instance, an f-string of three parts, a method called by names -/
theorem isL_isD {O : Own} {p : PV} {ds : List PyData} (h : IsL O p (ds.map PV.d)) : IsD O p (.list ds) := by
  rcases h with ⟨es, rfl, e⟩ | ⟨n, rfl, h⟩
  · have inj : ∀ {x y : PyData}, PV.d x = PV.d y → x = y := fun e => by cases e; rfl
    rw [List.map_inj_right (fun _ _ e => inj e) |>.mp e]
    exact isD_d
  · exact isD_o h
theorem IsM.set_ins {O : Own} {p : PV} {m : Mach} {n : Nat} {c : Str} {fs : List (Str × PV)} {x : AO} (h : IsM O p m) (hn : O[n]? = some (.ins c fs)) : IsM (O.set n x) p m := by
  rcases h with h | ⟨i, a, b, c, h0, h1, h2, h3, h4⟩
  · exact .inl h
  · have g : ∀ {j : Nat} {ob : AO}, O[j]? = some ob → (∀ c fs, ob ≠ .ins c fs) → (O.set n x)[j]? = some ob := fun {j ob} e ne => by
      rw [List.getElem?_set_ne (fun hj => by subst hj; rw [hn] at e; exact ne _ _ (Option.some.inj e).symm)]
      exact e
    exact .inr ⟨i, a, b, c, h0, g h1 (fun _ _ e => nomatch e), g h2 (fun _ _ e => nomatch e), g h3 (fun _ _ e => nomatch e), g h4 (fun _ _ e => nomatch e)⟩
/-! ### how many beginnings there can be -/
/-! ### promises -/
def rAloneM : RA := fun args O Φ => ∃ m p q rs, args = [p, q] ∧ IsM O p m ∧ IsRm O q rs ∧ m.n ≤ 100 ∧ Φ (.o O.length) (O ++ [lv (alone m.n rs)])
def rReaderNewM : RA := fun args O Φ => ∃ n p m, args = [.o n, p] ∧ O[n]? = some (.ins "Reader" []) ∧ IsM O p m ∧ MOk m ∧ ClO O ∧ Φ pN (O.set n (RdI m ⟨#[]⟩ O.length) ++ [rws m []])
def rFeedR : RA := fun args O Φ => ∃ n q m z c, args = [.o n, pS ⟨#[c]⟩] ∧ O[n]? = some (RdI m z q) ∧ O[q]? = some (rws m (cds z)) ∧ n ≠ q ∧ MOk m ∧ z.length < 400 ∧ sgn c = true ∧ ClO O ∧ Φ pN ((O.set n (RdI m (mkS (cds z ++ [c])) q)).set q (rws m (cds z ++ [c])))
def rTextR : RA := fun args O Φ => ∃ n q m z, args = [.o n] ∧ O[n]? = some (RdI m z q) ∧ Φ (pS z) O
def rLenR : RA := fun args O Φ => ∃ n q m z, args = [.o n] ∧ O[n]? = some (RdI m z q) ∧ z.length ≤ 400 ∧ Φ (.d (iD z.length)) O
def rCounts2 : RA := fun args O Φ => ∃ n q m z, args = [.o n] ∧ O[n]? = some (RdI m z q) ∧ O[q]? = some (rws m (cds z)) ∧ Φ (.o O.length) (O ++ [lv (vecR m (cds z))])
def rReached2 : RA := fun args O Φ => ∃ n q m z, args = [.o n] ∧ O[n]? = some (RdI m z q) ∧ O[q]? = some (rws m (cds z)) ∧ MOk m ∧ Φ (.o O.length) (O ++ [lr (inV (vecR m (cds z)))])
def rTwinR : RA := fun args O Φ => ∃ n q m z, args = [.o n] ∧ O[n]? = some (RdI m z q) ∧ O[q]? = some (rws m (cds z)) ∧ MOk m ∧ WordOk z ∧ ClO O ∧ Φ (.o O.length) (O ++ [RdI m z (O.length + 1), rws m (cds z)])
end Al
namespace Al
open PySem PySem.Spec L2
open PyProof.Rows hiding St
/-! ### rooms called otherwise: the mathematics -/
def clR (n : Nat) (od rs : List Nat) : List Nat := (List.range n).filter fun r => decide (r ∈ rs.map (sg od))
def cl (m : Mach) (od : List Nat) : Mach := ⟨m.n, clR m.n od m.fs, clR m.n od m.ls, m.st.map (sgS od)⟩
/-! ### promises -/
/-! ### what is no order -/
/-! ### what was told, lengthened -/
end Al
namespace Al
open PySem PySem.Spec L2
open PyProof.Rows hiding St
end Al
namespace Al
open PySem PySem.Spec L2
open PyProof.Rows hiding St
/-! ### the law's own look (k06) -/
end Al
namespace Al
open PySem PySem.Spec L2
open PyProof.Rows hiding St
/-! ### xs[::-1] of a list -/
theorem stepN (n : Nat) : stepIx n none (-1) = (List.range n).reverse := by
  show sliceRange ((n : Int) - 1) (-1) (-1) = _
  rw [PySem.W.krv_sliceRange, PySem.W.krv_range]
theorem pick_rev {α : Type} (xs : List α) : pick xs (List.range xs.length).reverse = xs.reverse := by
  unfold pick
  rw [List.filterMap_reverse]
  congr 1
  have := PySem.W.krv_all xs.toArray
  simpa using this
theorem pe_revL {X : Cx} {e : Expr} {te : TE} {k : Nat} {p1 p2 p3 pos : Pos} (he : PE X e te) :
    PE X (.Subscript e (.Slice none none (some (.UnaryOp .USub (.Constant (.int 1) k p1) p2)) p3) pos) (fun σ H Q => te σ H fun x H1 => ∃ a xs, x = .ref a ∧ SqL X.K H1 a xs ∧ ∀ p, H1 p = none → Q (.ref p) (upd H1 p (.lst xs.reverse))) := by
  refine ⟨fun pins s σ H Q I h => ?_⟩
  refine Subscript_ (thn (he.run pins s σ H _ I h) fun v s1 ⟨x, H1, I1, r1, q1⟩ => ?_)
  obtain ⟨a, xs, ex, hx, q⟩ := q1
  subst ex
  cases r1
  have hst : PO X (some (.UnaryOp .USub (.Constant (.int 1) k p1) p2)) (tPart (tUn (rU fun i => .int (-i)) (tC (.int 1)))) := po_some (pe_un un_neg pe_int)
  refine wpAny_Slice (thn (po_none.run pins s1 σ H1 (fun o H2 => o = none ∧ H2 = H1) I1 ⟨rfl, rfl⟩) fun vl s2 ⟨l', H2, I2, pl, el, e2⟩ => ?_)
  subst el e2
  refine thn (po_none.run pins s2 σ H2 (fun o H3 => o = none ∧ H3 = H2) I2 ⟨rfl, rfl⟩) fun vu s3 ⟨u, H3, I3, pu, eu, e3⟩ => ?_
  subst eu e3
  refine thn (hst.run pins s3 σ H3 (fun o H4 => o = some (-1) ∧ H4 = H3) I3 ⟨1, rfl, -1, rfl, rfl, rfl⟩) fun vs s4 ⟨o, H4, I4, ps, eo, e4⟩ => ?_
  subst eo e4
  have I5 : Inv X pins σ H4 { s4 with heap := s4.heap.push { cls := .type "slice", data := .fields #[vl, vu, vs] } } := I4.kept (t' := s4.toks) fun b ob q => Heap.get?_push_of_some _ q
  obtain ⟨its, r, ht, hz⟩ := I5.list hx
  have hlen := r.length
  refine tail_any (ops := [.ref a, .ref s4.heap.objs.size]) ht.isList.typeIs (slot_list_getitem.lookup) ?_ (by with_unfolding_all rfl)
  refine wpAny_getItem_list_slice ht.isList ⟨_, Heap.get?_push_size _ rfl, rfl, rfl⟩ pl pu ps (by intro z; cases z) ?_ (by rw [List.size_toArray] <;> omega)
  have e1 : slicePick its.toArray none none (some (-1)) = (pick its (stepIx xs.length none (-1))).toArray := by
    unfold slicePick pick stepIx
    rw [List.size_toArray, hlen]
    simp
  rw [e1, stepN, hlen, pick_rev]
  have hv : Vals xs.reverse its.reverse := by
    have := vals_pick r (List.range xs.length).reverse
    rw [pick_rev] at this
    rwa [hlen, pick_rev] at this
  have hzz : xs.reverse.length ≤ sizeLine := by rw [List.length_reverse]; exact hz
  refine ⟨.ref _, _, I5.laid (t' := s4.toks) (o := .lst xs.reverse) (fun b ob q => Heap.get?_push_of_some _ q) (Nat.le_refl _) ?_, rfl, q _ (I5.hok.fresh (Nat.le_refl _))⟩
  exact ⟨hzz, _, 0, hv, Heap.get?_push_size _ rfl⟩
theorem dq_rev {F : Hp} : ∀ {vs : List V} {xs : List PyData}, DqAll F vs xs → DqAll F vs.reverse xs.reverse := fun {vs xs} h => by
  have := dq_pick h (List.range xs.length).reverse
  rw [pick_rev] at this
  rwa [← h.len, pick_rev] at this
section
variable {X : Ax} {e a b c : Expr} {es : List Expr} {ρ : Env1} {O : Own} {Φ : PV → Own → Prop} {as : List Addr} {F H : Hp} {σ : L2.St} {pos p p2 kpos tpos pos' : Pos} {D : AEnds} {i j : Int} {x y : Str}
theorem ae_revL {k : Nat} {p1 p3 : Pos} (h : AE X e ρ O fun x O1 => ∃ ds, x = pL ds ∧ Φ (pL ds.reverse) O1) : AE X (.Subscript e (.Slice none none (some (.UnaryOp .USub (.Constant (.int 1) k p1) p2)) p3) pos) ρ O Φ := fun as F σ H w r => by
  refine tE_of (pe_revL pe_tE) ?_
  refine h.run w r fun x O1 as1 F1 v1 H1 w1 g1 s1 rx r1 ⟨ds, ex, q⟩ => ?_
  subst ex
  cases (show Dq F1 v1 (.list ds) from rx) with
  | lst hs ha =>
    refine ⟨_, _, rfl, .inl (.inl (w1.rd hs)), fun p hp => ?_⟩
    obtain ⟨w2, s2⟩ := w1.data hp
    have hd := dq_rev (DqAll_same s2 ha)
    exact ⟨pL ds.reverse, O1, as1, _, w2, g1, s1.trans s2, Dq.lst upd_same hd, q⟩
end
/-! ### bent machines (k06) -/
def okE (m : Nat) (y : PyData) : Prop := okT y ∧ Rp m y ∧ PyData.depth y ≤ 5
theorem okE.mono {m n : Nat} {y : PyData} (h : okE m y) (hn : m ≤ n) : okE n y := ⟨h.1, h.2.1.mono hn, h.2.2⟩
end Al
namespace Al
open PySem PySem.Spec L2
open PyProof.Rows hiding St
/-! ### ==, != of instances whose class has its own __eq__ -/
/-- where a call stands below the running body -/
structure SubA (X : Ax) (k : Nat) (A : Around) : Prop where
  room : RoomG k A
  fr : A.frames = X.c.A.frames
theorem SubA.here {X : Ax} {k : Nat} (h : RoomG k X.A) : SubA X k X.A := ⟨h, rfl⟩
theorem SubA.in1 {X : Ax} {k : Nat} {A : Around} (h : SubA X (k + 1) A) : SubA X k A.in1 := ⟨⟨h.room.r.in1, h.room.g⟩, h.fr⟩
theorem SubA.mono {X : Ax} {j k : Nat} {A : Around} (h : SubA X k A) (hj : j ≤ k) : SubA X j A := ⟨h.room.mono hj, h.fr⟩
theorem runAt {X : Ax} {A : Around} {k : Nat} {f : Addr} {fd : FuncData} {ps : List Str} {sp : Sp} {ds : List Value} {dvs : List V} {pins : List (Addr × Obj)} {σ : L2.St} {H : Hp} {s : Shared} {Q : VK} {us : List Value} {vs : List V} (F : FnA X.c.prog X.c.w X.c.K X.c.mg X.c.base (CX X.c.prog X.c.w) k f fd ps sp) (sb : SubA X k A) (hb : Binds X.c.K fd ps ds) (hd : Vals dvs ds)
    (I : Inv X.c pins σ H s) (r : Vals vs us) (h : sp (vs ++ dvs) H Q fun _ _ _ => False) : wpAny (model X.c.prog X.c.w) A (call (.ref f) us) (L2.EP X.c pins σ Q) X.c.xe s := by
  have r2 : Vals (vs ++ dvs) (us ++ ds) := r.append hd
  have hl : (us ++ ds).length = ps.length := by rw [← r2.length]; exact F.len _ _ _ _ h
  have e0 : Env0 X.c.prog X.c.w X.c.K X.c.mg X.c.base A X.c.stack s H := by
    have e := I.env0
    exact ⟨by rw [sb.fr]; exact e.frames, e.mod, e.bs, e.bsz, e.funs, e.frf, e.hok, e.bare⟩
  have tk : Takes X.c fun _ _ _ _ => False := fun u s' ⟨_, _, _, _, _, _, _, _, _, _, _, _, _, _, _, _, z⟩ => z.elim
  refine wpAny_call (codeAny_mono (F.run A X.c.stack s H ⟨us, []⟩ (us ++ ds) (vs ++ dvs) Q _ sb.room e0 (hb s us I.kIn hl) r2 h) fun r s' hq => ?_)
  cases r with
  | error e => exact tk e s' (XE.of_call I (fun _ _ _ z => z) hq)
  | ok fl =>
    cases fl with
    | ret u => exact I.after hq
    | next => exact False.elim hq
    | brk => exact False.elim hq
    | cont => exact False.elim hq
/-- what stands behind a step that leaves the owned objects as they are -/
def Stays (X : Ax) (as : List Addr) (F : Hp) (O : Own) (pins : List (Addr × Obj)) (σ : L2.St) (s' : Shared) : Prop := ∃ as' F' H', Wd X.k O as' F' H' ∧ Gr as as' ∧ Same F F' ∧ Inv X.c pins σ H' s'
theorem Stays.back {X : Ax} {as as1 : List Addr} {F F1 : Hp} {O : Own} {pins : List (Addr × Obj)} {σ : L2.St} {s' : Shared} (g : Gr as as1) (e : Same F F1) (h : Stays X as1 F1 O pins σ s') : Stays X as F O pins σ s' :=
  let ⟨as', F', H', w, g', e', I⟩ := h
  ⟨as', F', H', w, g.trans g', e.trans e', I⟩
/-- p op q gives b, and leaves the owned objects as they are -/
def CmpOk (X : Ax) (A : Around) (op : CmpOp) (p q : PV) (O : Own) (b : Bool) : Prop := ∀ as F σ H pins s vp vq u v, Wd X.k O as F H → Inv X.c pins σ H s → RPV X.k F as p vp → RPV X.k F as q vq → RelV vp u → RelV vq v →
  wpAny (model X.c.prog X.c.w) A (richCompare op u v) (fun r s' => r = .bool b ∧ Stays X as F O pins σ s') X.c.xe s
/-- q's kind is not looked at ahead of the class c -/
def KindN (X : Ax) (c : Str) (q : PV) (O : Own) : Prop := ∀ as F σ H pins s vq v C, Wd X.k O as F H → Inv X.c pins σ H s → RPV X.k F as q vq → RelV vq v → X.c.mg c = some (.ref C) →
  ∃ tb, PySem.W.Looks (model X.c.prog X.c.w) s.heap (typeOf v) tb ∧ PySem.W.notFirst X.c.K C tb = true
theorem kindN_ins {X : Ax} {c : Str} {O : Own} {m : Nat} {fs : List (Str × PV)} (hO : O[m]? = some (.ins c fs)) : KindN X c (.o m) O := fun as F σ H pins s vq v C w I rq rv hC => by
  obtain ⟨a, C', dx, ws, rfl, h1, fn, hc, hh, rf⟩ := own_ins w hO rq
  have eC : C' = C := by have := hc.symm.trans hC; cases this; rfl
  subst eC
  obtain rfl : v = Value.ref a := rv
  obtain ⟨mB, J', _⟩ := ins_get I.hok hh
  obtain ⟨od', J', _⟩ := J'.look
  exact ⟨.ref C', J'.type, by simp [PySem.W.notFirst]⟩
theorem looks_is {M : Model} {s : Shared} {v : Value} {T : String} (h : s.TypeIs v T) : PySem.W.Looks M s.heap (typeOf v) (.type T) := fun A Q E s2 k q => by
  have h2 : s2.TypeIs v T := by
    cases v with
    | ref a => exact let ⟨o, e, c⟩ := h; ⟨o, k _ _ e, c⟩
    | _ => exact h
  exact wpAny_typeOf h2 q
/-- the call of the own __eq__ -/
def EqP (X : Ax) (f C : Addr) (n : Nat) (q : PV) (O : Own) (b : Bool) (k : Nat) : Prop := ∀ (A : Around) (as : List Addr) (F : Hp) (σ : L2.St) (H : Hp) (pins : List (Addr × Obj)) (s : Shared) (a : Addr) (vq : V) (v : Value), SubA X k A → Wd X.k O as F H → Inv X.c pins σ H s → as[n]? = some a → RPV X.k F as q vq → RelV vq v →
  wpAny (model X.c.prog X.c.w) A (call (.ref f) [.ref a, v]) (fun r s' => r = .bool b ∧ Stays X as F O pins σ s') X.c.xe s
theorem eqP_of {X : Ax} {c : Str} {k : Nat} {ps : List Str} {R : RA} {n : Nat} {q : PV} {O : Own} {b : Bool} (G : MetA (gx X) k c "__eq__" ps [] (up R)) (hR : R [.o n, q] O fun p O' => p = pB b ∧ O' = O) :
    ∃ C f, X.c.mg c = some (.ref C) ∧ PySem.W.findIn X.c.K (.ref C) "__eq__" = some (some (.ref f)) ∧ PySem.W.isFn X.c.K (.ref f) = true ∧ EqP X f C n q O b k := by
  obtain ⟨C, f, fd, ds, dvs, hC, kc, km, h1, h4, h5, h6⟩ := G
  refine ⟨C, f, hC, km.at_, km.fn, fun A as F σ H pins s a vq v sb w I ha rq rv => ?_⟩
  have e5 : dvs = [] := by
    have := (h6 X.k F as)
    cases this; rfl
  subst e5
  have e4 : ds = [] := by cases h5; rfl
  subst e4
  refine wpAny_mono (runAt (us := [.ref a, v]) (vs := [.ref a, vq]) (Q := PQ X.k as F fun p O' => p = pB b ∧ O' = O) h1 sb h4 .nil I (.cons rfl (.cons rv .nil)) ?_) (fun r s' hq => ?_) fun _ _ z => z
  · refine ⟨O, as, F, [.o n, q], _, fun _ _ => False, w.floor (Gr.refl _) (Same.refl _), rps_floor (K := X.k) (.cons ⟨a, ha, rfl⟩ (.cons rq .nil)), hR, fun v H' z => PQ.lift (K := X.k) w.fa w.fF z, fun cls d H' z => ?_⟩
    obtain ⟨_, _, _, _, _, _, _, _, q9⟩ := z
    exact q9.elim
  · obtain ⟨v', H', I', rv', pv, O', as', F', w', g', s1, rp, rfl, rfl⟩ := hq
    cases (show Dq F' v' (.bool b) from rp)
    exact ⟨rv', as', F', H', w', g', s1, I'⟩
theorem eq_ins {X : Ax} {A : Around} {c : Str} {k : Nat} {ps : List Str} {R : RA} {n : Nat} {fs : List (Str × PV)} {q : PV} {O : Own} {b : Bool} (G : MetA (gx X) k c "__eq__" ps [] (up R)) (hO : O[n]? = some (.ins c fs)) (sb : SubA X k A) (hk : KindN X c q O) (hR : R [.o n, q] O fun p O' => p = pB b ∧ O' = O) : CmpOk X A .Eq (.o n) q O b := fun as F σ H pins s vp vq u v w I rp rq ru rv => by
  obtain ⟨C, f, hC, hs, hf, run⟩ := eqP_of G hR
  obtain ⟨a, C', dx, ws, rfl, h1, fn, hc, hh, rf⟩ := own_ins w hO rp
  have eC : C' = C := by have := hc.symm.trans hC; cases this; rfl
  subst eC
  obtain rfl : u = Value.ref a := ru
  obtain ⟨mA, J, _⟩ := ins_get I.hok hh
  obtain ⟨od, J, _⟩ := J.look
  obtain ⟨m, hF⟩ := I.fr
  obtain ⟨tb, l1, l2⟩ := hk as F σ H pins s vq v C' w I rq rv hC
  refine PySem.W.cmp_K (op := .Eq) (tb := tb) sb.room.units0 hF I.ok.mod.kin J l1 l2 hs hf ?_
  refine wpAny_mono (run A as F σ H pins s a vq v sb w I h1 rq rv) (fun r s' hq => ?_) fun _ _ z => z
  obtain ⟨rfl, hq⟩ := hq
  exact ⟨rfl, hq⟩
/-! != -/
section
open PySem.W
variable {prog : Program} {w : World} {A : Around} {E : Value → Shared → Prop} {s : Shared} {K : Frag} {x C f : Addr} {ox : Obj} {od : Option Obj} {name : Str} {b : Value}
theorem ifBound_B {M : Model} {id T : String} {args : List Value} {Q : Option Value → Shared → Prop} (X : K.In s.heap) (I : InstAt s.heap x ox C od) (hs : findIn K (.ref C) name = some (some (.builtin id))) (S : Slot T name id)
    (h : wpAny M A (call (.builtin id) (.ref x :: args)) (fun v => Q (some v)) E s) : wpAny M A (callSpecialIfBound? (.ref x) name args) Q E s := by
  simp only [callSpecialIfBound?, bindSpecialIfBound?]
  refine wpAny_holding (wpAny_bind (wpAny_bind (wpAny_bind (I.type.here ((looks_findIn X hs).here ?_)))))
  simp only [S.bind]
  refine wpAny_bind (wpAny_askSetting (wpAny_ite ?_))
  have fin : wpAny M A (call (.builtin id) ([.ref x] ++ args) >>= fun v => pure (some v)) Q E s := wpAny_bind (wpAny_mono h (fun v s' h' => wpAny_pure h') fun _ _ h' => h')
  split
  · exact wpAny_bind (wpAny_pure (wpAny_pure fin))
  · exact wpAny_tryCatch (wpAny_bind (wpAny_pure (wpAny_pure fin)))
theorem isInst_K {M : Model} {T : String} {r : Bool} {Q : Bool → Shared → Prop} (X : K.In s.heap) (I : InstAt s.heap x ox C od) (hm : mroIn K C (.type T) = some r) (h : Q r s) : wpAny M A (isInstance (.ref x) (.type T)) Q E s := by
  unfold isInstance
  exact wpAny_bind (I.type.here ((looks_mroIn X hm).here h))
theorem check_K {M : Model} {id owner n : String} {rest : List Value} {Q : Unit → Shared → Prop} (hk : builtinKind id = some .slot) (hs : splitId id = some (owner, n)) (ha : argsOk id ⟨.ref x :: rest, []⟩) (X : K.In s.heap) (I : InstAt s.heap x ox C od) (hm : mroIn K C (.type owner) = some true)
    (hq : Q () s) : wpAny M A (checkBuiltinCall id ⟨.ref x :: rest, []⟩) Q E s := by
  simp only [checkBuiltinCall, hk, hs]
  refine wpAny_bind (isInst_K X I hm ?_)
  cases hsig : Manifest.signature? id with
  | none => exact wpAny_pure hq
  | some sig =>
    simp only [argsOk, hsig] at ha
    have h2 : Bind.checkArgs id sig ⟨.ref x :: rest, []⟩ = pure () := ha
    show wpAny M A (Bind.checkArgs id sig ⟨.ref x :: rest, []⟩) Q E _
    rw [h2]; exact wpAny_pure hq
theorem ne_K {tb : Value} {r : Bool} {Q : Value → Shared → Prop} {m : Str → Option Value} {h₀ : Heap} {L : Addr} (hu : A.units + 1 < cLine) (FR : Fr h₀ L s.heap m) (X₀ : K.In h₀) (I : InstAt s.heap x ox C od) (hb : Looks (model prog w) s.heap (typeOf b) tb) (hn : notFirst K C tb = true)
    (hne : findIn K (.ref C) "__ne__" = some (some (.builtin "object.__ne__"))) (hm : mroIn K C (.type "object") = some true) (hs : findIn K (.ref C) "__eq__" = some (some (.ref f))) (hf : isFn K (.ref f) = true)
    (h : wpAny (model prog w) A.in1 (call (.ref f) [.ref x, b]) (fun v s' => v = .bool r ∧ Q (.bool (!r)) s') E s) : wpAny (model prog w) A (richCompare .NotEq (.ref x) b) Q E s := by
  have X := X₀.keeps FR.keep
  have one : wpAny (model prog w) A (tryCompare (.ref x) "__ne__" b) (fun q s' => ∃ v, q = some v ∧ Q v s') E s := by
    unfold tryCompare
    refine wpAny_bind (ifBound_B X I hne F.cmp_object.ne (wpAny_call (codeAny_call_builtin F.cmp_object.ne.plain F.cmpEntry_ne (check_K F.cmpKind_ne F.cmpSplit_ne (F.cmpArgs_ne _ _) X I hm ?_))))
    obtain ⟨hp, g, d, tk, os⟩ := s
    unfold Builtin.«object.__ne__»
    repeat (first | with_reducible refine wpAny_cRoomFor hu ?_ | (with_reducible refine ifBound_K X I hs hf (wpAny_mono h (fun v s' hq => ?_) fun _ _ z => z); (obtain ⟨rfl, hq⟩ := hq); (obtain ⟨hp2, g2, d2, tk2, os2⟩ := s')) | wp_step)
    exact ⟨_, rfl, hq⟩
  unfold richCompare
  simp only [oneThing_ref]
  refine wpAny_holding (wpAny_bind (wpAny_cRoomFor (by omega) ?_))
  refine wpAny_bind (I.type.here (wpAny_bind (hb.here ?_)))
  split
  · rename_i q
    have e : subIn K tb (.ref C) = some false := by
      rcases Bool.or_eq_true_iff.mp hn with e | e
      · rw [beq_iff_eq.mp e] at q; simp at q
      · exact beq_iff_eq.mp e
    refine wpAny_bind ((looks_subIn X e).here ?_)
    simp only [Bool.false_eq_true, if_false]
    refine wpAny_bind (wpAny_mono one (fun r s' z => ?_) fun _ _ e => e)
    obtain ⟨v, rfl, hq⟩ := z
    exact wpAny_pure hq
  · refine wpAny_bind (wpAny_pure ?_)
    simp only [Bool.false_eq_true, if_false]
    refine wpAny_bind (wpAny_mono one (fun r s' z => ?_) fun _ _ e => e)
    obtain ⟨v, rfl, hq⟩ := z
    exact wpAny_pure hq
end
end Al
namespace PySem.SeqAt
open AutoSeq1 (wpAny_loadPart')
open MeetsSeq MeetsSeq2 MeetsSeq3 SeqRoads2
section
variable {prog : Program} {w : World} {A : Around} {R : Result → Shared → Prop}
/-- in, of a list whose items are compared by calls -/
theorem contains_loopG (l : Addr) (items : Array Value) (x : Value) (e : Nat → Bool) (P : Shared → Prop) (hl : ∀ s, P s → ∃ n, s.heap.get? l = some { cls := .type "list", data := .seq items n })
    (turn : ∀ i (h : i < items.size) s, P s → wpAny (model prog w) A.in1 (eqBool items[i] x) (fun r s' => r = e i ∧ P s') (fun e s' => R (.error e) s') s) (fin : ∀ s, P s → R (.ok (.ret (.bool ((List.range items.size).any e)))) s) (k : Nat) :
    ∀ i : Nat, items.size - i = k → (∀ j, j < i → e j = false) → ∀ s, P s →
      wpAny (model prog w) A.in1 (Builtin.«list.__contains__.loop» ⟨[.ref l, x, rawInt i], []⟩) (GQ.FinOf prog w A R) (fun e s' => R (.error e) s') s := by
  induction k with
  | zero =>
    intro i hk hno s h
    obtain ⟨n, hl1⟩ := hl s h
    have hf : (List.range items.size).any e = false := by
      rw [List.any_eq_false]
      intro j hj
      rw [hno j (by have := List.mem_range.mp hj; omega)]
      exact Bool.false_ne_true
    have hR := fin s h
    rw [hf] at hR
    obtain ⟨hp, g, d, tk, os⟩ := s
    wp_walk using wpAny_loadPart' hl1
    have hi : items[((i : Nat) : Int).toNat]? = none := by simp; omega
    rw [hi]
    wp_walk
    exact hR
  | succ k ih =>
    intro i hk hno s h
    obtain ⟨n, hl1⟩ := hl s h
    have hlt : i < items.size := by omega
    have ht := turn i hlt s h
    obtain ⟨hp, g, d, tk, os⟩ := s
    wp_walk using wpAny_loadPart' hl1
    have hi : items[((i : Nat) : Int).toNat]? = some items[i] := by simp [hlt]
    rw [hi]
    refine wpAny_bind (wpAny_mono ht (fun r s2 h2 => ?_) fun _ _ x => x)
    obtain ⟨hr, h2⟩ := h2
    subst hr
    cases hb : e i with
    | true =>
      have hR := fin s2 h2
      rw [show (List.range items.size).any e = true from List.any_eq_true.mpr ⟨i, List.mem_range.mpr hlt, hb⟩] at hR
      obtain ⟨hp2, g2, d2, tk2, os2⟩ := s2
      wp_walk
      exact hR
    | false =>
      have hrec := ih (i + 1) (by omega) (fun j hj => by
        by_cases h9 : j = i
        · rw [h9]; exact hb
        · exact hno j (by omega)) s2 h2
      have hc : ((i : Int) + 1) = ((i + 1 : Nat) : Int) := by push_cast; rfl
      obtain ⟨hp2, g2, d2, tk2, os2⟩ := s2
      wp_walk
      rw [hc]
      exact ⟨plainId_quiet plain_contains_loop _, codeAny_builtin entry_contains_loop (by
        rw [Around.under_plainId plain_contains_loop _]
        exact hrec)⟩
theorem list_containsG (l : Addr) (items : Array Value) (x : Value) (e : Nat → Bool) (P : Shared → Prop) (hl : ∀ s, P s → ∃ n, s.heap.get? l = some { cls := .type "list", data := .seq items n })
    (turn : ∀ i (h : i < items.size) s, P s → wpAny (model prog w) A.in1 (eqBool items[i] x) (fun r s' => r = e i ∧ P s') (fun e s' => R (.error e) s') s) (fin : ∀ s, P s → R (.ok (.ret (.bool ((List.range items.size).any e)))) s) {s : Shared} (h : P s) :
    wpAny (model prog w) A.in1 (Builtin.«list.__contains__» ⟨[.ref l, x], []⟩) (GQ.FinOf prog w A R) (fun e s' => R (.error e) s') s := by
  obtain ⟨n, hl1⟩ := hl s h
  have hrec := contains_loopG (A := A) (R := R) l items x e P hl turn fin _ 0 rfl (fun j hj => absurd hj (Nat.not_lt_zero _)) s h
  obtain ⟨hp, g, d, tk, os⟩ := s
  wp_walk using wpAny_loadPart' hl1
  exact ⟨plainId_quiet plain_contains_loop _, codeAny_builtin entry_contains_loop (by
    rw [Around.under_plainId plain_contains_loop _]
    exact hrec)⟩
/-- index, of a list whose items are compared by calls -/
theorem index_loopG (l : Addr) (items : Array Value) (x : Value) (e : Nat → Bool) (P : Shared → Prop) (hl : ∀ s, P s → ∃ n, s.heap.get? l = some { cls := .type "list", data := .seq items n })
    (turn : ∀ i (h : i < items.size) s, P s → wpAny (model prog w) A.in1 (eqBool items[i] x) (fun r s' => r = e i ∧ P s') (fun e s' => R (.error e) s') s) (upto : Int) (j : Nat) (hj : j < items.size) (hupto : (j : Int) < upto)
    (hit : e j = true) (hno : ∀ m, m < j → e m = false) (fin : ∀ s, P s → R (.ok (.ret (.int j s.toks))) { s with toks := s.toks + 1 }) (k : Nat) :
    ∀ i : Nat, j - i = k → i ≤ j → ∀ s, P s → wpAny (model prog w) A.in1 (Builtin.«list.index.loop» ⟨[.ref l, x, rawInt i, rawInt upto], []⟩) (GQ.FinOf prog w A R) (fun e s' => R (.error e) s') s := by
  induction k with
  | zero =>
    intro i hk hij s h
    obtain ⟨n, hl1⟩ := hl s h
    have hij' : i = j := by omega
    subst hij'
    have ht := turn i hj s h
    obtain ⟨hp, g, d, tk, os⟩ := s
    wp_walk using wpAny_loadPart' hl1
    have hi : (if (i : Int) < upto then items[((i : Nat) : Int).toNat]? else none) = some items[i] := by simp [hupto, hj]
    rw [hi]
    refine wpAny_bind (wpAny_mono ht (fun r s2 h2 => ?_) fun _ _ x => x)
    obtain ⟨hr, h2⟩ := h2
    subst hr
    rw [hit]
    have hR := fin s2 h2
    obtain ⟨hp2, g2, d2, tk2, os2⟩ := s2
    wp_walk
    exact hR
  | succ k ih =>
    intro i hk hij s h
    obtain ⟨n, hl1⟩ := hl s h
    have hlt : i < items.size := by omega
    have hst : (i : Int) < upto := by omega
    have ht := turn i hlt s h
    obtain ⟨hp, g, d, tk, os⟩ := s
    wp_walk using wpAny_loadPart' hl1
    have hi : (if (i : Int) < upto then items[((i : Nat) : Int).toNat]? else none) = some items[i] := by simp [hst, hlt]
    have hc : ((i : Int) + 1) = ((i + 1 : Nat) : Int) := by push_cast; rfl
    rw [hi]
    refine wpAny_bind (wpAny_mono ht (fun r s2 h2 => ?_) fun _ _ x => x)
    obtain ⟨hr, h2⟩ := h2
    subst hr
    rw [hno i (by omega)]
    have hrec := ih (i + 1) (by omega) (by omega) s2 h2
    obtain ⟨hp2, g2, d2, tk2, os2⟩ := s2
    wp_walk
    rw [hc]
    exact ⟨plainId_quiet plain_index_loop _, codeAny_builtin entry_index_loop (by
      rw [Around.under_plainId plain_index_loop _]
      exact hrec)⟩
theorem list_indexG (l : Addr) (items : Array Value) (x : Value) (e : Nat → Bool) (P : Shared → Prop) (hl : ∀ s, P s → ∃ n, s.heap.get? l = some { cls := .type "list", data := .seq items n })
    (turn : ∀ i (h : i < items.size) s, P s → wpAny (model prog w) A.in1 (eqBool items[i] x) (fun r s' => r = e i ∧ P s') (fun e s' => R (.error e) s') s) (j : Nat) (hj : j < items.size) (hsmall : (j : Int) < 2 ^ 63 - 1)
    (hit : e j = true) (hno : ∀ m, m < j → e m = false) (fin : ∀ s, P s → R (.ok (.ret (.int j s.toks))) { s with toks := s.toks + 1 }) {s : Shared} (h : P s) :
    wpAny (model prog w) A.in1 (Builtin.«list.index» ⟨[.ref l, x], []⟩) (GQ.FinOf prog w A R) (fun e s' => R (.error e) s') s := by
  obtain ⟨n, hl1⟩ := hl s h
  have hrec := index_loopG (A := A) (R := R) l items x e P hl turn (2 ^ 63 - 1) j hj hsmall hit hno fin _ 0 rfl (Nat.zero_le _) s h
  obtain ⟨hp, g, d, tk, os⟩ := s
  wp_walk using wpAny_loadPart' hl1
  have a1 : ((fun i : Int => if i < 0 then max 0 (i + (items.size : Int)) else i) ((none : Option Int).getD 0)) = ((0 : Nat) : Int) := by simp
  have a2 : ((fun i : Int => if i < 0 then max 0 (i + (items.size : Int)) else i) ((none : Option Int).getD (2 ^ 63 - 1))) = 2 ^ 63 - 1 := by simp
  rw [a1, a2]
  exact ⟨plainId_quiet plain_index_loop _, codeAny_builtin entry_index_loop (by
    rw [Around.under_plainId plain_index_loop _]
    exact hrec)⟩
end
end PySem.SeqAt
namespace Al
open PySem PySem.Spec L2
open PyProof.Rows hiding St
/-! ### .. with things of other kinds -/
theorem sub_ref {K : PySem.W.Frag} {C : Addr} {T : String} {l : List String} (h : fastBuiltinMro T = some (l.map Value.type)) : PySem.W.subIn K (.type T) (.ref C) = some false := by
  show (fastBuiltinMro T).map (·.contains (.ref C)) = some false
  rw [h]
  show some _ = some false
  congr 1
  clear h
  induction l with
  | nil => rfl
  | cons x l ih =>
    have ih : (l.map Value.type).contains (Value.ref C) = false := ih
    show (Value.type x :: List.map Value.type l).contains (Value.ref C) = false
    rw [List.contains_cons, ih]
    rfl
theorem mro_T (T : String) (h : T ∈ ["NoneType", "bool", "int", "str", "list", "tuple", "dict"]) : ∃ l : List String, fastBuiltinMro T = some (l.map Value.type) := by
  simp only [List.mem_cons, List.not_mem_nil, or_false] at h
  rcases h with rfl | rfl | rfl | rfl | rfl | rfl | rfl
  · exact ⟨["NoneType", "object"], by decide +kernel⟩
  · exact ⟨["bool", "int", "object"], by decide +kernel⟩
  · exact ⟨["int", "object"], by decide +kernel⟩
  · exact ⟨["str", "object"], by decide +kernel⟩
  · exact ⟨["list", "object"], by decide +kernel⟩
  · exact ⟨["tuple", "object"], by decide +kernel⟩
  · exact ⟨["dict", "object"], by decide +kernel⟩
theorem tyD_in (d : PyData) : tyD d ∈ ["NoneType", "bool", "int", "str", "list", "tuple", "dict"] := by
  cases d <;> simp [tyD]
/-- what kind a value is of -/
theorem dq_ty {X : Cx} {pins : List (Addr × Obj)} {σ : L2.St} {H F : Hp} {s : Shared} (I : Inv X pins σ H s) (sF : Same F H) {v : V} {d : PyData} {u : Value} (h : Dq F v d) (r : RelV v u) : s.TypeIs u (tyD d) := by
  cases h with
  | non => cases r; rfl
  | bl b => cases r; rfl
  | int i => obtain ⟨t, rfl⟩ := r; exact typeIs_int s i t
  | str z => obtain ⟨t, rfl⟩ := r; exact typeIs_str s z t
  | lst hs ha =>
    cases r
    obtain ⟨its, _, pl, _⟩ := I.list (SqL.of (sF _ _ hs))
    exact pl.isList.typeIs
  | tup hs ha =>
    cases r
    obtain ⟨its, _, pl, _⟩ := I.tuple (SqT.of (sF _ _ hs))
    exact pl.typeIs
  | dct hs =>
    cases r
    obtain ⟨_, _, _, _, o, _, _, e, ex, _⟩ := I.hok _ _ (sF _ _ hs)
    exact ⟨o, e, ex.1⟩
theorem kindN_T {X : Ax} {c : Str} {q : PV} {O : Own} {T : String} (hT : T ∈ ["NoneType", "bool", "int", "str", "list", "tuple", "dict"]) (h : ∀ as F σ H pins s vq v, Wd X.k O as F H → Inv X.c pins σ H s → RPV X.k F as q vq → RelV vq v → s.TypeIs v T) : KindN X c q O := fun as F σ H pins s vq v C w I rq rv hC => by
  obtain ⟨l, hl⟩ := mro_T T hT
  refine ⟨.type T, looks_is (h as F σ H pins s vq v w I rq rv), ?_⟩
  unfold PySem.W.notFirst
  rw [sub_ref hl]
  simp
theorem kindN_d {X : Ax} {c : Str} {O : Own} {d : PyData} : KindN X c (.d d) O := kindN_T (tyD_in d) fun as F σ H pins s vq v w I rq rv => dq_ty I w.ex rq rv
theorem own_listIs {X : Ax} {O : Own} {j : Nat} {xs : List PV} (hO : O[j]? = some (.lst xs)) {as : List Addr} {F H : Hp} {σ : L2.St} {pins : List (Addr × Obj)} {s : Shared} {vq : V} {v : Value} (w : Wd X.k O as F H) (I : Inv X.c pins σ H s) (rq : RPV X.k F as (.o j) vq) (rv : RelV vq v) : ∃ (l : Addr) (its : List Value) (n : Nat), v = .ref l ∧ s.heap.get? l = some { cls := .type "list", data := .seq its.toArray n } := by
  obtain ⟨q, vs, rfl, h1, fn, hh, rvs⟩ := own_lst w hO rq
  obtain rfl : v = Value.ref q := rv
  obtain ⟨_, its, n, _, e⟩ := (show ObjOk X.c.prog X.c.w H s.heap q (.lst vs) from I.hok q _ hh)
  exact ⟨q, its, n, rfl, e⟩
theorem kindN_l {X : Ax} {c : Str} {O : Own} {j : Nat} {xs : List PV} (hO : O[j]? = some (.lst xs)) : KindN X c (.o j) O := kindN_T (T := "list") (by simp) fun as F σ H pins s vq v w I rq rv => by
  obtain ⟨l, its, n, rfl, e⟩ := own_listIs hO w I rq rv
  exact ⟨_, e, rfl⟩
/-! thing == reader: the builtin declines, then the own __eq__ -/
section
open PySem.W
variable {prog : Program} {w : World} {A : Around} {E : Value → Shared → Prop} {s : Shared} {K : Frag} {x C f : Addr} {ox : Obj} {od : Option Obj} {u : Value} {T id : String}
theorem eqr_K {r : Bool} {Q : Value → Shared → Prop} {m : Str → Option Value} {h₀ : Heap} {L : Addr} (hu : A.units < cLine) (FR : Fr h₀ L s.heap m) (X₀ : K.In h₀) (I : InstAt s.heap x ox C od) (hT : s.TypeIs u T) (hm : mroIn K C (.type T) = some false)
    (S : Slot T (cmpInfo .Eq).2.1 id) (hc : ∀ Q' : Value → Shared → Prop, Q' .notImplemented s → wpAny (model prog w) A (call (.builtin id) [u, .ref x]) Q' E s)
    (hs : findIn K (.ref C) "__eq__" = some (some (.ref f))) (hf : isFn K (.ref f) = true)
    (h : wpAny (model prog w) A (call (.ref f) [.ref x, u]) (fun v s' => v = .bool r ∧ Q (.bool r) s') E s) : wpAny (model prog w) A (richCompare .Eq u (.ref x)) Q E s := by
  have X := X₀.keeps FR.keep
  have one : wpAny (model prog w) A (tryCompare (.ref x) "__eq__" u) (fun q s' => ∃ v, q = some v ∧ Q v s') E s := by
    unfold tryCompare
    refine wpAny_bind (ifBound_K X I hs hf (wpAny_mono h (fun v s' hq => ?_) fun _ _ e => e))
    obtain ⟨rfl, hq⟩ := hq
    exact wpAny_pure ⟨_, rfl, hq⟩
  rcases hi : cmpInfo CmpOp.Eq with ⟨sym, f1, r1⟩
  have e2 : (cmpInfo CmpOp.Eq).2.2 = (("__eq__") : Str) := rfl
  rw [hi] at S e2
  simp only at e2
  subst e2
  simp only [richCompare, hi, hT.oneThing_none]
  try with_reducible refine wpAny_holding ?_
  refine wpAny_bind (wpAny_cRoomFor hu ?_)
  refine wpAny_bind (wpAny_typeOf hT (wpAny_bind (I.type.here ?_)))
  rw [if_pos (by simp)]
  refine wpAny_bind ((looks_mroIn X hm).here ?_)
  simp only [Bool.false_eq_true, if_false, Bool.not_false, if_true]
  refine wpAny_bind (m := tryCompare u _ (.ref x)) (wpAny_tryCompare_declines hT S (hc _ ⟨rfl, ?_⟩))
  refine wpAny_bind (m := tryCompare (.ref x) _ u) (wpAny_mono one (fun r s' z => ?_) fun _ _ e => e)
  obtain ⟨v, rfl, hq⟩ := z
  exact wpAny_pure hq
open AutoSeq1 (wpAny_loadPart')
open MeetsSeq
theorem dec_none (Q' : Value → Shared → Prop) (hq : Q' .notImplemented s) : wpAny (model prog w) A (call (.builtin "NoneType.__eq__") [.none, .ref x]) Q' E s :=
  call_gives F.slot_NoneType_eq rfl F.entry_NoneType_eq (F.args_NoneType_eq_2 _ _) (SeqAt.NoneType___eq___none_ref_0 x) hq
theorem dec_int (hx : s.heap.get? x = some ox) (hd : ox.data = .plain) (i : Int) (t : Tok) (Q' : Value → Shared → Prop) (hq : Q' .notImplemented s) : wpAny (model prog w) A (call (.builtin "int.__eq__") [.int i t, .ref x]) Q' E s := by
  refine GQ.call_here F.slot_int_eq (typeIs_int s i t) F.entry_int_eq (F.args_int_eq_2 _ _) ?_
  obtain ⟨hp, g, d, tk, os⟩ := s
  obtain ⟨c1, c2, c3, c4⟩ := ox
  simp only at hd
  subst hd
  wp_walk using wpAny_loadPart' hx, wpAny_load hx
  exact hq
theorem dec_bool (hx : s.heap.get? x = some ox) (hd : ox.data = .plain) (b : Bool) (Q' : Value → Shared → Prop) (hq : Q' .notImplemented s) : wpAny (model prog w) A (call (.builtin "int.__eq__") [.bool b, .ref x]) Q' E s := by
  refine GQ.call_here F.slot_bool_eq rfl F.entry_int_eq (F.args_int_eq_2 _ _) ?_
  obtain ⟨hp, g, d, tk, os⟩ := s
  obtain ⟨c1, c2, c3, c4⟩ := ox
  simp only at hd
  subst hd
  wp_walk using wpAny_loadPart' hx, wpAny_load hx
  exact hq
theorem dec_str (hx : s.heap.get? x = some ox) (hd : ox.data = .plain) (z : Str) (t : Tok) (Q' : Value → Shared → Prop) (hq : Q' .notImplemented s) : wpAny (model prog w) A (call (.builtin "str.__eq__") [.str z t, .ref x]) Q' E s := by
  refine GQ.call_here F.slot_str_eq (typeIs_str s z t) F.entry_str_eq (F.args_str_eq_2 _ _) ?_
  obtain ⟨hp, g, d, tk, os⟩ := s
  obtain ⟨c1, c2, c3, c4⟩ := ox
  simp only at hd
  subst hd
  wp_walk using wpAny_loadPart' hx, wpAny_load hx
  exact hq
theorem dec_list (X : K.In s.heap) (I : InstAt s.heap x ox C od) (hm : mroIn K C (.type "list") = some false) {l : Addr} (hT : s.TypeIs (.ref l) "list") (Q' : Value → Shared → Prop) (hq : Q' .notImplemented s) : wpAny (model prog w) A (call (.builtin "list.__eq__") [.ref l, .ref x]) Q' E s := by
  refine GQ.call_here F.slot_list_eq hT F.entry_list_eq (F.args_list_eq_2 _ _) ?_
  obtain ⟨hp, g, d, tk, os⟩ := s
  wp_walk using isInst_K X I hm
  exact hq
theorem dec_tup (X : K.In s.heap) (I : InstAt s.heap x ox C od) (hm : mroIn K C (.type "tuple") = some false) {l : Addr} (hT : s.TypeIs (.ref l) "tuple") (Q' : Value → Shared → Prop) (hq : Q' .notImplemented s) : wpAny (model prog w) A (call (.builtin "tuple.__eq__") [.ref l, .ref x]) Q' E s := by
  refine GQ.call_here F.slot_tuple_eq hT F.entry_tuple_eq (F.args_tuple_eq_2 _ _) ?_
  obtain ⟨hp, g, d, tk, os⟩ := s
  wp_walk using isInst_K X I hm
  exact hq
end
end Al
namespace Al
open PySem PySem.Spec L2
open PyProof.Rows hiding St
/-! ### what a class with its own __eq__ is asked -/
structure EqC (K : PySem.W.Frag) (C : Addr) : Prop where
  cls : (PySem.W.clsIn K C).isSome = true
  ty : PySem.W.typeIn K (.ref C) = some (.type "type")
  cl : Cls K C
  ha : PySem.W.findIn K (.ref C) "__class__" = some (some (.builtin "object.__class__"))
  hn : PySem.W.specialIn K (.builtin "object.__class__") "__get__" = some (some (.builtin "getset_descriptor.__get__"))
  htk : PySem.W.takesIn K (.builtin "object.__class__") = some true
  hm : PySem.W.mroIn K C (.type "object") = some true
  ne : PySem.W.findIn K (.ref C) "__ne__" = some (some (.builtin "object.__ne__"))
  s1 : PySem.W.mroIn K C (.type "NoneType") = some false
  s2 : PySem.W.mroIn K C (.type "bool") = some false
  s3 : PySem.W.mroIn K C (.type "int") = some false
  s4 : PySem.W.mroIn K C (.type "str") = some false
  s5 : PySem.W.mroIn K C (.type "list") = some false
  s6 : PySem.W.mroIn K C (.type "tuple") = some false
def EqK (G : Gx) (c : Str) : Prop := ∃ C, G.mg c = some (.ref C) ∧ EqC G.K C
theorem EqK.at {G : Gx} {c : Str} (h : EqK G c) {C : Addr} (hC : G.mg c = some (.ref C)) : EqC G.K C := by
  obtain ⟨C', h1, h2⟩ := h
  cases h1.symm.trans hC
  exact h2
theorem EqK.nm {G : Gx} {c : Str} (h : EqK G c) : NmC G c := let ⟨C, h1, h2⟩ := h; ⟨C, h1, h2.cls, h2.ty⟩
section
variable {X : Ax} {A : Around} {c : Str} {k : Nat} {ps : List Str} {R : RA} {n : Nat} {fs : List (Str × PV)} {q : PV} {O : Own} {b : Bool} {Φ : PV → Own → Prop}
theorem ne_ins (G : MetA (gx X) k c "__eq__" ps [] (up R)) (he : EqK (gx X) c) (hO : O[n]? = some (.ins c fs)) (sb : SubA X (k + 1) A) (hk : KindN X c q O) (hR : R [.o n, q] O fun p O' => p = pB b ∧ O' = O) : CmpOk X A .NotEq (.o n) q O (!b) := fun as F σ H pins s vp vq u v w I rp rq ru rv => by
  obtain ⟨C, f, hC, hs, hf, run⟩ := eqP_of G hR
  obtain ⟨a, C', dx, ws, rfl, h1, fn, hc, hh, rf⟩ := own_ins w hO rp
  have eC : C' = C := by have := hc.symm.trans hC; cases this; rfl
  subst eC
  obtain rfl : u = Value.ref a := ru
  obtain ⟨mA, J, _⟩ := ins_get I.hok hh
  obtain ⟨od, J, _⟩ := J.look
  obtain ⟨m, hF⟩ := I.fr
  obtain ⟨tb, l1, l2⟩ := hk as F σ H pins s vq v C' w I rq rv hC
  have kc := he.at hC
  have hu : A.units + 1 < cLine := by have := sb.room.units; omega
  refine ne_K (r := b) (tb := tb) hu hF I.ok.mod.kin J l1 l2 kc.ne kc.hm hs hf ?_
  refine wpAny_mono (run A.in1 as F σ H pins s a vq v sb.in1 w I h1 rq rv) (fun r s' hq => ?_) fun _ _ z => z
  obtain ⟨rfl, hq⟩ := hq
  exact ⟨rfl, rfl, hq⟩
/-- data == instance -/
theorem eqr_d {d : PyData} (G : MetA (gx X) k c "__eq__" ps [] (up R)) (he : EqK (gx X) c) (hO : O[n]? = some (.ins c fs)) (sb : SubA X k A) (hd : tyD d ≠ "dict") (hR : R [.o n, .d d] O fun p O' => p = pB b ∧ O' = O) : CmpOk X A .Eq (.d d) (.o n) O b := fun as F σ H pins s vq vp v u w I rq rp rv ru => by
  obtain ⟨C, f, hC, hs, hf, run⟩ := eqP_of G hR
  obtain ⟨a, C', dx, ws, rfl, h1, fn, hc, hh, rf⟩ := own_ins w hO rp
  have eC : C' = C := by have := hc.symm.trans hC; cases this; rfl
  subst eC
  obtain rfl : u = Value.ref a := ru
  obtain ⟨mA, J, _⟩ := ins_get I.hok hh
  obtain ⟨od, J, _⟩ := J.look
  obtain ⟨m, hF⟩ := I.fr
  have kc := he.at hC
  have hT := dq_ty I w.ex rq rv
  have go : wpAny (model X.c.prog X.c.w) A (call (.ref f) [.ref a, v]) (fun r s' => r = .bool b ∧ (Value.bool b = .bool b ∧ Stays X as F O pins σ s')) X.c.xe s := wpAny_mono (run A as F σ H pins s a vq v sb w I h1 rq rv) (fun r s' hq => ⟨hq.1, rfl, hq.2⟩) (fun _ _ z => z)
  have hq0 : Dq F vq d := rq
  have hf0 : (PySem.W.instObj C' dx).data = .plain := rfl
  cases hq0 with
  | non =>
    cases rv
    exact eqr_K sb.room.units0 hF I.ok.mod.kin J hT kc.s1 PySem.F.slot_NoneType_eq (fun Q' hq => dec_none Q' hq) hs hf go
  | bl x =>
    cases rv
    exact eqr_K sb.room.units0 hF I.ok.mod.kin J hT kc.s2 PySem.F.slot_bool_eq (fun Q' hq => dec_bool J.1 hf0 _ Q' hq) hs hf go
  | int x =>
    obtain ⟨t, rfl⟩ := rv
    exact eqr_K sb.room.units0 hF I.ok.mod.kin J hT kc.s3 PySem.F.slot_int_eq (fun Q' hq => dec_int J.1 hf0 _ _ Q' hq) hs hf go
  | str x =>
    obtain ⟨t, rfl⟩ := rv
    exact eqr_K sb.room.units0 hF I.ok.mod.kin J hT kc.s4 PySem.F.slot_str_eq (fun Q' hq => dec_str J.1 hf0 _ _ Q' hq) hs hf go
  | lst h2 ha =>
    cases rv
    exact eqr_K sb.room.units0 hF I.ok.mod.kin J hT kc.s5 PySem.F.slot_list_eq (fun Q' hq => dec_list I.kIn J kc.s5 hT Q' hq) hs hf go
  | tup h2 ha =>
    cases rv
    exact eqr_K sb.room.units0 hF I.ok.mod.kin J hT kc.s6 PySem.F.slot_tuple_eq (fun Q' hq => dec_tup I.kIn J kc.s6 hT Q' hq) hs hf go
  | dct h2 => exact absurd rfl hd
/-- an owned list == instance -/
theorem eqr_l {j : Nat} {xs : List PV} (G : MetA (gx X) k c "__eq__" ps [] (up R)) (he : EqK (gx X) c) (hO : O[n]? = some (.ins c fs)) (hj : O[j]? = some (.lst xs)) (sb : SubA X k A) (hR : R [.o n, .o j] O fun p O' => p = pB b ∧ O' = O) : CmpOk X A .Eq (.o j) (.o n) O b := fun as F σ H pins s vq vp v u w I rq rp rv ru => by
  obtain ⟨C, f, hC, hs, hf, run⟩ := eqP_of G hR
  obtain ⟨a, C', dx, ws, rfl, h1, fn, hc, hh, rf⟩ := own_ins w hO rp
  have eC : C' = C := by have := hc.symm.trans hC; cases this; rfl
  subst eC
  obtain rfl : u = Value.ref a := ru
  obtain ⟨mA, J, _⟩ := ins_get I.hok hh
  obtain ⟨od, J, _⟩ := J.look
  obtain ⟨m, hF⟩ := I.fr
  have kc := he.at hC
  obtain ⟨l, its, nn, rfl, eo⟩ := own_listIs hj w I rq rv
  have hT : s.TypeIs (.ref l) "list" := ⟨_, eo, rfl⟩
  have go : wpAny (model X.c.prog X.c.w) A (call (.ref f) [.ref a, .ref l]) (fun r s' => r = .bool b ∧ (Value.bool b = .bool b ∧ Stays X as F O pins σ s')) X.c.xe s := wpAny_mono (run A as F σ H pins s a vq (.ref l) sb w I h1 rq rv) (fun r s' hq => ⟨hq.1, rfl, hq.2⟩) (fun _ _ z => z)
  exact eqr_K sb.room.units0 hF I.ok.mod.kin J hT kc.s5 PySem.F.slot_list_eq (fun Q' hq => dec_list I.kIn J kc.s5 hT Q' hq) hs hf go
/-- the operator -/
theorem b_cmp {op : CmpOp} {p q : PV} (ho : compareOp op = richCompare op) (h : CmpOk X X.A op p q O b) (k : Φ (pB b) O) : BinA X (compareOp op) p q O Φ := fun as F H vx vy w rx ry => by
  unfold rB
  refine fun pins s σ v u I r1 r2 => ?_
  rw [ho]
  refine wpAny_mono (h as F σ H pins s vx vy v u w I rx ry r1 r2) (fun r s' hq => ?_) fun _ _ z => z
  obtain ⟨rfl, as', F', H', w', g', e', I'⟩ := hq
  exact ⟨.bl b, H', I', rfl, (PQ.mk w' (show RPV X.k F' as' (pB b) _ from Dq.bl _) k).back g' e'⟩
/-- isinstance with the class -/
theorem c_isK {C : Addr} (he : EqK (gx X) c) (hC : X.c.mg c = some (.ref C)) (hO : O[n]? = some (.ins c fs)) (k : Φ (pB true) O) : CallA X (.builtin "isinstance") [.o n, .v (.ref C)] O Φ := calla_of call_isi fun as F H vs w rx => by
  obtain ⟨v, u, rfl, r1, r2⟩ := rps2 rx
  cases (show u = V.ref C from r2)
  obtain ⟨a, C', dx, ws, rfl, h1, fn, hc, hh, rf⟩ := own_ins w hO r1
  have eC : C' = C := by have := hc.symm.trans hC; cases this; rfl
  subst eC
  have kc := he.at hC
  refine ⟨.ref a, .ref C', .ref C', .ref C', true, rfl, .own C', .base (.ins hh kc.cl kc.ha kc.hn kc.htk kc.hm), ?_, PQ.mk w (show RPV X.k F as (pB _) _ from Dq.bl _) k⟩
  unfold PySem.W.kitOne
  rw [if_pos (by simp)]
theorem kit_own {K : PySem.W.Frag} {C : Addr} {T : String} (kc : EqC K C) (hT : T ∈ ["NoneType", "bool", "int", "str", "list", "tuple", "dict"]) : PySem.W.kitOne K (.type T) (.ref C) = some false := by
  obtain ⟨l, hl⟩ := mro_T T hT
  unfold PySem.W.kitOne
  rw [if_neg (by simp)]
  unfold PySem.W.kitCls
  simp only
  rw [if_pos (by rw [kc.cls, kc.ty]; rfl)]
  exact sub_ref hl
theorem c_isKd {C : Addr} {d : PyData} (he : EqK (gx X) c) (hC : X.c.mg c = some (.ref C)) (k : Φ (pB false) O) : CallA X (.builtin "isinstance") [.d d, .v (.ref C)] O Φ := calla_of call_isi fun as F H vs w rx => by
  obtain ⟨v, u, rfl, r1, r2⟩ := rps2 rx
  cases (show u = V.ref C from r2)
  have kc := he.at hC
  refine ⟨v, .ref C, .type (tyD d), .ref C, false, rfl, .own C, ?_, kit_own kc (tyD_in d), PQ.mk w (show RPV X.k F as (pB _) _ from Dq.bl _) k⟩
  cases (show Dq F v d from r1) with
  | non => exact .base .non
  | bl b => exact .base (.bl b)
  | int b => exact .base (.int b)
  | str b => exact .base (.str b)
  | lst hs ha => exact .base (.lst (w.rd hs))
  | tup hs ha => exact .base (.tup (w.rd hs))
  | dct hs => exact .base (.dK (w.rd hs))
theorem c_isKl {C : Addr} {j : Nat} {xs : List PV} (he : EqK (gx X) c) (hC : X.c.mg c = some (.ref C)) (hj : O[j]? = some (.lst xs)) (k : Φ (pB false) O) : CallA X (.builtin "isinstance") [.o j, .v (.ref C)] O Φ := calla_of call_isi fun as F H vs w rx => by
  obtain ⟨v, u, rfl, r1, r2⟩ := rps2 rx
  cases (show u = V.ref C from r2)
  have kc := he.at hC
  obtain ⟨q, vs, rfl, h1, fn, hh, rvs⟩ := own_lst w hj r1
  exact ⟨.ref q, .ref C, .type "list", .ref C, false, rfl, .own C, .base (.lst hh), kit_own kc (by simp), PQ.mk w (show RPV X.k F as (pB _) _ from Dq.bl _) k⟩
end
/-! ### index and in over a list of instances -/
theorem rps_os {K : KF} {F : Hp} {as : List Addr} : ∀ {ns : List Nat} {vs : List V}, RPs K F as (ns.map PV.o) vs → ∃ ads : List Addr, vs = ads.map V.ref ∧ Paired (fun n a => as[n]? = some a) ns ads
  | [], _, .nil => ⟨[], rfl, .nil⟩
  | n :: ns, _, .cons ⟨a, ha, ev⟩ r => by
    obtain ⟨ads, rfl, p⟩ := rps_os r
    subst ev
    exact ⟨a :: ads, rfl, .cons ha p⟩
theorem vals_refs : ∀ {ads : List Addr} {us : List Value}, Vals (ads.map V.ref) us → us = ads.map Value.ref
  | [], _, .nil => rfl
  | a :: ads, _, .cons r t => by
    rw [vals_refs t]
    have e : _ = Value.ref a := r
    rw [e]
    rfl
theorem pair_same {as as' : List Addr} (g : Gr as as') : ∀ {ns : List Nat} {ads ads' : List Addr}, Paired (fun n a => as[n]? = some a) ns ads → Paired (fun n a => as'[n]? = some a) ns ads' → ads' = ads
  | [], _, _, .nil, .nil => rfl
  | n :: ns, _, _, .cons h t, .cons h' t' => by
    rw [pair_same g t t', Option.some.inj ((g _ _ h).symm.trans h')]
theorem pair_at {as : List Addr} : ∀ {ns : List Nat} {ads : List Addr}, Paired (fun n a => as[n]? = some a) ns ads → ∀ {i : Nat} {a : Addr}, ads[i]? = some a → ∃ n, ns[i]? = some n ∧ as[n]? = some a
  | [], _, .nil, i, a, h => by simp at h
  | n :: ns, _, .cons h t, 0, a, e => ⟨n, rfl, by cases e; exact h⟩
  | n :: ns, _, .cons h t, i + 1, a, e => pair_at t (i := i) e
section
variable {X : Ax} {as : List Addr} {F : Hp} {O : Own} {pins : List (Addr × Obj)} {σ : L2.St} {j m : Nat} {ns : List Nat} {l t : Addr} {ads : List Addr} {e : Nat → Bool} {A : Around} {Φ : PV → Own → Prop}
theorem list_at {s' : Shared} (hO : O[j]? = some (.lst (ns.map PV.o))) (hl : as[j]? = some l) (hp : Paired (fun n a => as[n]? = some a) ns ads) (h : Stays X as F O pins σ s') : ∃ n, s'.heap.get? l = some { cls := .type "list", data := .seq (ads.map Value.ref).toArray n } := by
  obtain ⟨as', F', H', w, g, e, I⟩ := h
  obtain ⟨q, vs, ev, h1, fn, hh, rvs⟩ := own_lst w hO (show RPV X.k F' as' (.o j) (.ref l) from ⟨l, g _ _ hl, rfl⟩)
  cases ev
  obtain ⟨ads', rfl, p'⟩ := rps_os rvs
  have e2 := pair_same g hp p'
  subst e2
  obtain ⟨_, its, n, rv, eo⟩ := (show ObjOk X.c.prog X.c.w H' s'.heap l (.lst _) from I.hok l _ hh)
  have e3 := vals_refs rv
  subst e3
  exact ⟨n, eo⟩
theorem turn_at (hne : ∀ n ∈ ns, n ≠ m) (hc : ∀ i n, ns[i]? = some n → CmpOk X A .Eq (.o n) (.o m) O (e i)) (hm : as[m]? = some t) (hp : Paired (fun n a => as[n]? = some a) ns ads) (i : Nat) (hi : i < (ads.map Value.ref).toArray.size) (s : Shared) (h : Stays X as F O pins σ s) :
    wpAny (model X.c.prog X.c.w) A (eqBool (ads.map Value.ref).toArray[i] (.ref t)) (fun r s' => r = e i ∧ Stays X as F O pins σ s') X.c.xe s := by
  have hi2 : i < ads.length := by simpa using hi
  have ei : (ads.map Value.ref).toArray[i] = .ref ads[i] := by simp
  rw [ei]
  obtain ⟨n, hn, ha⟩ := pair_at hp (List.getElem?_eq_getElem hi2)
  obtain ⟨as', F', H', w, g, e0, I⟩ := h
  have hx : ads[i] ≠ t := fun e => hne n (List.mem_of_getElem? hn) (nodup_at w.nd (g _ _ ha) (by rw [e]; exact g _ _ hm))
  refine GQ.eqBool_refG hx (wpAny_mono (hc i n hn as' F' σ H' pins s (.ref ads[i]) (.ref t) _ _ w I ⟨_, g _ _ ha, rfl⟩ ⟨_, g _ _ hm, rfl⟩ rfl rfl) (fun r s' hq => ?_) fun _ _ z => z)
  obtain ⟨rfl, hq⟩ := hq
  exact ⟨_, rfl, rfl, hq.back g e0⟩
theorem Stays.here {H : Hp} {s : Shared} (w : Wd X.k O as F H) (I : Inv X.c pins σ H s) : Stays X as F O pins σ s := ⟨as, F, H, w, Gr.refl _, Same.refl _, I⟩
theorem Stays.tok {s : Shared} (h : Stays X as F O pins σ s) (t : Tok) : Stays X as F O pins σ { s with toks := t } :=
  let ⟨as', F', H', w', g', e', I⟩ := h
  ⟨as', F', H', w', g', e', I.tok _⟩
theorem pair_len {as : List Addr} : ∀ {ns : List Nat} {ads : List Addr}, Paired (fun n a => as[n]? = some a) ns ads → ads.length = ns.length
  | [], _, .nil => rfl
  | n :: ns, _, .cons h t => by rw [List.length_cons, List.length_cons, pair_len t]
/-- x not in xs -/
theorem b_notInI (e : Nat → Bool) (hO : O[j]? = some (.lst (ns.map PV.o))) (hne : ∀ n ∈ ns, n ≠ m) (hc : ∀ i n, ns[i]? = some n → CmpOk X X.A.in1 .Eq (.o n) (.o m) O (e i)) (k : Φ (pB (!(List.range ns.length).any e)) O) : BinA X (compareOp .NotIn) (.o m) (.o j) O Φ := fun as F H vx vy w rx ry => by
  unfold rB
  refine fun pins s σ v u I r1 r2 => ?_
  obtain ⟨t, hm, rfl⟩ := rx
  obtain ⟨l, vs, rfl, hl, fn, hh, rvs⟩ := own_lst w hO ry
  obtain ⟨ads, rfl, hp⟩ := rps_os rvs
  obtain rfl : v = Value.ref t := r1
  obtain rfl : u = Value.ref l := r2
  obtain ⟨nn, ho⟩ := list_at hO hl hp (Stays.here w I)
  show wpAny _ _ (do return Value.bool (!(← contains (Value.ref l) (Value.ref t)))) _ _ s
  refine wpAny_bind (wpAny_contains_slot (T := "list") ⟨_, ho, rfl⟩ PySem.F.slot_list_contains ?_)
  refine GQ.call_here PySem.F.slot_list_contains ⟨_, ho, rfl⟩ PySem.F.entry_list_contains (PySem.F.args_list_contains_2 _ _) ?_
  refine SeqAt.list_containsG l (ads.map Value.ref).toArray (.ref t) e (fun s' => Stays X as F O pins σ s') (fun s' h => list_at hO hl hp h) (fun i hi s' h => turn_at hne hc hm hp i hi s' h) (fun s' h => ?_) (Stays.here w I)
  obtain ⟨as', F', H', w', g', e', I'⟩ := h
  have es : (ads.map Value.ref).toArray.size = ns.length := by simp [pair_len hp]
  rw [es]
  exact wpAny_truthy_bool (wpAny_pure ⟨.bl _, H', I', rfl, (PQ.mk w' (show RPV X.k F' as' (pB _) _ from Dq.bl _) k).back g' e'⟩)
/-- xs.index(x) -/
theorem m_indexI (e : Nat → Bool) {i : Nat} (hO : O[j]? = some (.lst (ns.map PV.o))) (hl0 : ns.length < 1000) (hne : ∀ n ∈ ns, n ≠ m) (hc : ∀ i n, ns[i]? = some n → CmpOk X X.A.in1 .Eq (.o n) (.o m) O (e i)) (hi : i < ns.length) (hit : e i = true) (hno : ∀ k, k < i → e k = false) (k : Φ (pI (i : Nat)) O) : MtA X "list.index" (.o j) [.o m] O Φ := fun as F H v0 vs0 w rx rxs => by
  unfold rMX
  refine fun pins s σ v us I r1 r2 => ?_
  obtain ⟨u0, rfl, ry⟩ := rps1 rxs
  obtain ⟨t, hm, rfl⟩ := ry
  obtain ⟨l, vs, rfl, hl, fn, hh, rvs⟩ := own_lst w hO rx
  obtain ⟨ads, rfl, hp⟩ := rps_os rvs
  obtain rfl : v = Value.ref l := r1
  obtain rfl := Vals.ref1 r2
  obtain ⟨nn, ho⟩ := list_at hO hl hp (Stays.here w I)
  have es : (ads.map Value.ref).toArray.size = ns.length := by simp [pair_len hp]
  refine GQ.call_here PySem.F.slot_list_index ⟨_, ho, rfl⟩ PySem.F.entry_list_index (PySem.F.args_list_index_2 _ _) ?_
  refine SeqAt.list_indexG l (ads.map Value.ref).toArray (.ref t) e (fun s' => Stays X as F O pins σ s') (fun s' h => list_at hO hl hp h) (fun i hi s' h => turn_at hne hc hm hp i hi s' h) i (by rw [es]; exact hi) (by omega) hit hno (fun s' h => ?_) (Stays.here w I)
  obtain ⟨as', F', H', w', g', e', I'⟩ := h.tok (s'.toks + 1)
  exact ⟨.int i, H', I', ⟨_, rfl⟩, (PQ.mk w' (show RPV X.k F' as' (pI _) _ from Dq.int _) k).back g' e'⟩
end
end Al
namespace Al
open PySem PySem.Spec L2
open PyProof.Rows hiding St
/-! ### enumerate of a list of anything -/
def enQ (xs : List PV) : List PV := xs.zipIdx.map fun p => PV.p (pI (p.2 : Nat)) p.1
theorem enQ_at {xs : List PV} {i : Nat} {x : PV} (h : (enQ xs)[i]? = some x) : ∃ d, xs[i]? = some d ∧ x = .p (pI (i : Nat)) d := by
  unfold enQ at h
  rw [List.getElem?_map, Option.map_eq_some_iff] at h
  obtain ⟨⟨d, j⟩, h1, rfl⟩ := h
  rw [List.getElem?_zipIdx, Option.map_eq_some_iff] at h1
  obtain ⟨d', h2, h3⟩ := h1
  cases h3
  exact ⟨_, h2, by simp⟩
theorem enQ_len (xs : List PV) : (enQ xs).length = xs.length := by unfold enQ; simp
section
variable {X : Ax} {e : Expr} {ρ : Env1} {O : Own} {Φ : PV → Own → Prop} {pos p tpos : Pos}
theorem ai_enumQ {elts : List Expr} {kk : Nat} {Ψ : List PV → (Own → Prop) → Own → Prop} (hg : Gl X.c "enumerate") (hm : X.mg "enumerate" = none) (h : AE X e ρ O fun x O1 => ∃ xs, IsL O1 x xs ∧ Ψ (enQ xs) (fun O => IsL O x xs) O1) (hs : starEach [e] X.env = [(false, eval e X.env)] := by rfl) :
    AI X (.Tuple elts kk tpos) (.Call (.Name "enumerate" p) [e] [] pos) ρ O Ψ := fun as F σ H w r R k => by
  refine tI_of (pi_enum hg hm pa_tA hs) ?_
  have h' : AA X [e] ρ O fun ys O1 => ∃ q xs, ys = [q] ∧ IsL O1 q xs ∧ Ψ (enQ xs) (fun O => IsL O q xs) O1 := aa_cons (h.mono fun x O1 ⟨xs, ex, q⟩ => aa_nil ⟨x, xs, rfl, ex, q⟩) hs
  refine h'.run w r fun ys O1 as1 F1 v1 H1 w1 g1 s1 rx r1 ⟨q, xs, ex, hL, hq⟩ => ?_
  subst ex
  obtain ⟨v, rfl, rv⟩ := rps1 rx
  obtain ⟨l, vs, rfl, sq, _⟩ := hL.look w1 rv
  refine ⟨l, vs, rfl, sq, k _ H1 _ _ O1 as1 F1 w1 g1 s1 (fun O' as' F' H' w' g' s' hG => ?_) hq⟩
  obtain ⟨l', ws, e1, t1, rr⟩ := hG.look w' (rv.mono s' g')
  cases e1
  refine ⟨fun i hi => ⟨ws, t1, by rw [enQ_len] at hi; rw [← rr.len]; exact hi⟩, fun i x hx => ?_⟩
  obtain ⟨d, hd, rfl⟩ := enQ_at hx
  obtain ⟨v, hv, hdv⟩ := rr.get (i := i) hd
  refine ⟨⟨ws, v, t1, hv⟩, fun v' H2 hy => ?_⟩
  obtain ⟨T, x, rfl, hT, rfl, hy⟩ := hy
  have e3 : v = x := Option.some.inj (hv.symm.trans (hy ws t1))
  subst e3
  obtain ⟨w2, s2⟩ := w'.data (h := .tup [.int (i : Nat), v]) hT
  exact ⟨_, w2, s2, T, .int (i : Nat), v, rfl, upd_same, Dq.int _, hdv.mono s2 (Gr.refl _)⟩
end
/-! ### readers told together -/
structure Rdr where
  n : Nat
  q : Nat
  m : Mach
  z : Str
abbrev mkD (x : Rdr) : PyData := .tuple [mD x.m, .str x.z]
def eqM (m : Mach) (z : Str) (m2 : Mach) (z2 : Str) : Bool := PyData.eqv (mD m) (mD m2) && decide (z = z2)
theorem eqv_mk (x y : Rdr) : PyData.eqv (mkD x) (mkD y) = eqM x.m x.z y.m y.z := by
  unfold eqM mkD
  rw [PyData.eqv, PyData.eqvAll, PyData.eqvAll, PyData.eqvAll, Bool.and_true]
  rfl
theorem eqM_same {m : Mach} (h : MOk m) (z : Str) : eqM m z m z = true := by
  unfold eqM
  rw [eqv_same h.shp.1]
  simp
theorem eqM_ne {m m2 : Mach} {z z2 : Str} (h : z ≠ z2) : eqM m z m2 z2 = false := by
  unfold eqM
  rw [decide_eq_false h, Bool.and_false]
structure Rs (O : Own) (L : List Rdr) : Prop where
  ob : ∀ x ∈ L, O[x.n]? = some (RdI x.m x.z x.q)
  ve : ∀ x ∈ L, O[x.q]? = some (rws x.m (cds x.z))
  mo : ∀ x ∈ L, MOk x.m
  wo : ∀ x ∈ L, WordOk x.z
  sh : ∀ x ∈ L, x.z.length ≤ 3
  ln : ∀ x ∈ L, 3 ≤ x.n
  lq : ∀ x ∈ L, 3 ≤ x.q
theorem Rs.app {O : Own} {L : List Rdr} (h : Rs O L) (T : Own) : Rs (O ++ T) L :=
  ⟨fun x hx => by rw [List.getElem?_append_left (List.getElem?_eq_some_iff.mp (h.ob x hx)).1]; exact h.ob x hx,
   fun x hx => by rw [List.getElem?_append_left (List.getElem?_eq_some_iff.mp (h.ve x hx)).1]; exact h.ve x hx, h.mo, h.wo, h.sh, h.ln, h.lq⟩
theorem Rs.set {O : Own} {L : List Rdr} (h : Rs O L) {k : Nat} (hk : k < 3) (y : AO) : Rs (O.set k y) L :=
  ⟨fun x hx => by rw [List.getElem?_set_ne (by have := h.ln x hx; omega)]; exact h.ob x hx,
   fun x hx => by rw [List.getElem?_set_ne (by have := h.lq x hx; omega)]; exact h.ve x hx, h.mo, h.wo, h.sh, h.ln, h.lq⟩
theorem Rs.add {O : Own} {L : List Rdr} (h : Rs O L) {x : Rdr} (h1 : O[x.n]? = some (RdI x.m x.z x.q)) (h2 : O[x.q]? = some (rws x.m (cds x.z))) (h3 : MOk x.m) (h4 : WordOk x.z) (h5 : x.z.length ≤ 3) (h6 : 3 ≤ x.n) (h7 : 3 ≤ x.q) : Rs O (L ++ [x]) := by
  have key : ∀ {P : Rdr → Prop}, (∀ y ∈ L, P y) → P x → ∀ y ∈ L ++ [x], P y := fun {P} a b y hy => by
    rcases List.mem_append.mp hy with z | z
    · exact a y z
    · rw [List.mem_singleton.mp z]; exact b
  exact ⟨key h.ob h1, key h.ve h2, key h.mo h3, key h.wo h4, key h.sh h5, key h.ln h6, key h.lq h7⟩
theorem os_below {N : Nat} {ns : List Nat} (h : ∀ n ∈ ns, n < N) : (AO.lst (ns.map PV.o)).below N = true := by
  show (ns.map PV.o).all (PV.blw N) = true
  rw [List.all_eq_true]
  intro p hp
  obtain ⟨n, hn, rfl⟩ := List.mem_map.mp hp
  exact decide_eq_true (h n hn)
theorem Rs.nil {O : Own} : Rs O [] := ⟨nofun, nofun, nofun, nofun, nofun, nofun, nofun⟩
theorem shp_mk {x : Rdr} (h : MOk x.m) (w : WordOk x.z) : Shp 4 (mkD x) := shp_tup fun d hd => by
  simp only [List.mem_cons, List.not_mem_nil, or_false] at hd
  rcases hd with rfl | rfl
  · exact h.shp
  · exact shp_str w.ok
theorem Rs.shp {O : Own} {L : List Rdr} (h : Rs O L) : Shp 5 (.list (L.map mkD)) := shp_list fun d hd => by
  obtain ⟨x, hx, rfl⟩ := List.mem_map.mp hd
  exact shp_mk (h.mo x hx) (h.wo x hx)
/-! ### promises -/
def rEqR : RA := fun args O Φ => ∃ n y q m z, args = [.o n, y] ∧ O[n]? = some (RdI m z q) ∧ MOk m ∧ ((∃ n2 q2 m2 z2, y = .o n2 ∧ O[n2]? = some (RdI m2 z2 q2) ∧ MOk m2 ∧ Φ (pB (eqM m z m2 z2)) O) ∨ (∃ d, y = .d d ∧ Φ (pB false) O) ∨ (∃ j xs, y = .o j ∧ O[j]? = some (.lst xs) ∧ Φ (pB false) O))
def rMachs29 : RA := fun args O Φ => ∃ h a s z, args = [.o h, pS z] ∧ O[h]? = some (hnd a s) ∧ HandOk a s ∧ LetOk z ∧ ClO O ∧ ∀ (ms : List Mach) a' s', HandOk a' s' → ms.length = 5 → (∀ m ∈ ms, MOk m) → Φ (.d (.list (ms.map mD))) (O.set h (hnd a' s'))
def rAlike29 : RA := fun args O Φ => ∃ r k L, args = [.o r, .o k] ∧ O[r]? = some (.lst ((L.map Rdr.n).map PV.o)) ∧ O[k]? = some (.lst ((L.map mkD).map PV.d)) ∧ Rs O L ∧ L.length ≤ 10 ∧ ClO O ∧ Φ (pB true) O
def rUnlike29 : RA := fun args O Φ => ∃ n q m z d, args = [.o n, .d d] ∧ tyD d ≠ "dict" ∧ O[n]? = some (RdI m z q) ∧ MOk m ∧ ClO O ∧ Φ (pB true) O
def rTwins29 : RA := fun args O Φ => ∃ h r k a s z L, args = [.o h, .o r, .o k, pS z] ∧ O[h]? = some (hnd a s) ∧ HandOk a s ∧ h < 3 ∧ r < 3 ∧ k < 3 ∧ h ≠ r ∧ h ≠ k ∧ O[r]? = some (.lst ((L.map Rdr.n).map PV.o)) ∧ O[k]? = some (.lst ((L.map mkD).map PV.d)) ∧ Rs O L ∧ L ≠ [] ∧ L.length ≤ 10 ∧ LetOk z ∧ ClO O ∧ ∀ O', Φ (pB true) O'
/-! ### comparing readers by their own __eq__ -/
section
variable {X : Ax} {A : Around} {O : Own} {n n2 q q2 k : Nat} {m m2 : Mach} {z z2 : Str} {ps : List Str}
theorem eq_RR (G : MetA (gx X) k "Reader" "__eq__" ps [] (up rEqR)) (sb : SubA X k A) (h1 : O[n]? = some (RdI m z q)) (h2 : O[n2]? = some (RdI m2 z2 q2)) (o1 : MOk m) (o2 : MOk m2) : CmpOk X A .Eq (.o n) (.o n2) O (eqM m z m2 z2) :=
  eq_ins G h1 sb (kindN_ins h2) ⟨n, _, q, m, z, rfl, h1, o1, .inl ⟨n2, q2, m2, z2, rfl, h2, o2, rfl, rfl⟩⟩
theorem ne_RR (G : MetA (gx X) k "Reader" "__eq__" ps [] (up rEqR)) (he : EqK (gx X) "Reader") (sb : SubA X (k + 1) A) (h1 : O[n]? = some (RdI m z q)) (h2 : O[n2]? = some (RdI m2 z2 q2)) (o1 : MOk m) (o2 : MOk m2) : CmpOk X A .NotEq (.o n) (.o n2) O (!eqM m z m2 z2) :=
  ne_ins G he h1 sb (kindN_ins h2) ⟨n, _, q, m, z, rfl, h1, o1, .inl ⟨n2, q2, m2, z2, rfl, h2, o2, rfl, rfl⟩⟩
theorem eq_Rd {d : PyData} (G : MetA (gx X) k "Reader" "__eq__" ps [] (up rEqR)) (sb : SubA X k A) (h1 : O[n]? = some (RdI m z q)) (o1 : MOk m) : CmpOk X A .Eq (.o n) (.d d) O false :=
  eq_ins G h1 sb kindN_d ⟨n, _, q, m, z, rfl, h1, o1, .inr (.inl ⟨d, rfl, rfl, rfl⟩)⟩
theorem ne_Rd {d : PyData} (G : MetA (gx X) k "Reader" "__eq__" ps [] (up rEqR)) (he : EqK (gx X) "Reader") (sb : SubA X (k + 1) A) (h1 : O[n]? = some (RdI m z q)) (o1 : MOk m) : CmpOk X A .NotEq (.o n) (.d d) O true :=
  ne_ins (b := false) G he h1 sb kindN_d ⟨n, _, q, m, z, rfl, h1, o1, .inr (.inl ⟨d, rfl, rfl, rfl⟩)⟩
theorem eq_dR {d : PyData} (G : MetA (gx X) k "Reader" "__eq__" ps [] (up rEqR)) (he : EqK (gx X) "Reader") (sb : SubA X k A) (h1 : O[n]? = some (RdI m z q)) (o1 : MOk m) (hd : tyD d ≠ "dict") : CmpOk X A .Eq (.d d) (.o n) O false :=
  eqr_d G he h1 sb hd ⟨n, _, q, m, z, rfl, h1, o1, .inr (.inl ⟨d, rfl, rfl, rfl⟩)⟩
theorem eq_Rl {j : Nat} {xs : List PV} (G : MetA (gx X) k "Reader" "__eq__" ps [] (up rEqR)) (sb : SubA X k A) (h1 : O[n]? = some (RdI m z q)) (o1 : MOk m) (hj : O[j]? = some (.lst xs)) : CmpOk X A .Eq (.o n) (.o j) O false :=
  eq_ins G h1 sb (kindN_l hj) ⟨n, _, q, m, z, rfl, h1, o1, .inr (.inr ⟨j, xs, rfl, hj, rfl, rfl⟩)⟩
theorem ne_Rl {j : Nat} {xs : List PV} (G : MetA (gx X) k "Reader" "__eq__" ps [] (up rEqR)) (he : EqK (gx X) "Reader") (sb : SubA X (k + 1) A) (h1 : O[n]? = some (RdI m z q)) (o1 : MOk m) (hj : O[j]? = some (.lst xs)) : CmpOk X A .NotEq (.o n) (.o j) O true :=
  ne_ins (b := false) G he h1 sb (kindN_l hj) ⟨n, _, q, m, z, rfl, h1, o1, .inr (.inr ⟨j, xs, rfl, hj, rfl, rfl⟩)⟩
theorem eq_lR {j : Nat} {xs : List PV} (G : MetA (gx X) k "Reader" "__eq__" ps [] (up rEqR)) (he : EqK (gx X) "Reader") (sb : SubA X k A) (h1 : O[n]? = some (RdI m z q)) (o1 : MOk m) (hj : O[j]? = some (.lst xs)) : CmpOk X A .Eq (.o j) (.o n) O false :=
  eqr_l G he h1 hj sb ⟨n, _, q, m, z, rfl, h1, o1, .inr (.inr ⟨j, xs, rfl, hj, rfl, rfl⟩)⟩
end
end Al
namespace K29
open PySem PySem.Spec L2 Al
open PyProof.Rows hiding St
def topS (i : Nat) : Stmt := PySem.Challenge.pw_triesgrow_k29_readers_alike_and_twins.main.body.getD i (.Pass ⟨0, 0, 0, 0⟩)
def inS (i j : Nat) : Stmt := match topS i with | .ClassDef _ _ _ b _ _ _ _ _ _ _ => b.getD j (.Pass ⟨0, 0, 0, 0⟩) | _ => .Pass ⟨0, 0, 0, 0⟩
abbrev s_is_sign : Stmt := topS 11
abbrev N_is_sign : List Str := ["thing"]
abbrev P_is_sign : List Str := ["thing"]
theorem sc_is_sign : FnScope N_is_sign P_is_sign (defScope s_is_sign) := ⟨rfl, rfl, rfl, by decide +kernel, rfl, by decide +kernel, by decide +kernel⟩
abbrev D_is_sign (G : Gx) : Prop := DefA G 1 "is_sign" P_is_sign [] (up rSign)
abbrev s_is_whole : Stmt := topS 15
abbrev N_is_whole : List Str := ["thing"]
abbrev P_is_whole : List Str := ["thing"]
theorem sc_is_whole : FnScope N_is_whole P_is_whole (defScope s_is_whole) := ⟨rfl, rfl, rfl, by decide +kernel, rfl, by decide +kernel, by decide +kernel⟩
abbrev D_is_whole (G : Gx) : Prop := DefA G 1 "is_whole" P_is_whole [] (up rWholeG)
abbrev s_is_within : Stmt := topS 16
abbrev N_is_within : List Str := ["thing", "least", "most"]
abbrev P_is_within : List Str := ["thing", "least", "most"]
theorem sc_is_within : FnScope N_is_within P_is_within (defScope s_is_within) := ⟨rfl, rfl, rfl, by decide +kernel, rfl, by decide +kernel, by decide +kernel⟩
abbrev D_is_within (G : Gx) : Prop := DefA G 2 "is_within" P_is_within [] (up rWithin)
abbrev s_look_at_rooms : Stmt := topS 17
abbrev N_look_at_rooms : List Str := ["many", "part", "thing", "last", "number", "room"]
abbrev P_look_at_rooms : List Str := ["many", "part", "thing"]
theorem sc_look_at_rooms : FnScope N_look_at_rooms P_look_at_rooms (defScope s_look_at_rooms) := ⟨rfl, rfl, rfl, by decide +kernel, rfl, by decide +kernel, by decide +kernel⟩
abbrev D_look_at_rooms (G : Gx) : Prop := DefA G 3 "look_at_rooms" P_look_at_rooms [] (up rLookRoomsM)
abbrev s_is_step : Stmt := topS 18
abbrev N_is_step : List Str := ["many", "thing"]
abbrev P_is_step : List Str := ["many", "thing"]
theorem sc_is_step : FnScope N_is_step P_is_step (defScope s_is_step) := ⟨rfl, rfl, rfl, by decide +kernel, rfl, by decide +kernel, by decide +kernel⟩
abbrev D_is_step (G : Gx) : Prop := DefA G 3 "is_step" P_is_step [] (up rIsStep)
abbrev s_look_at_steps : Stmt := topS 19
abbrev N_look_at_steps : List Str := ["many", "thing", "seen", "number", "step"]
abbrev P_look_at_steps : List Str := ["many", "thing"]
theorem sc_look_at_steps : FnScope N_look_at_steps P_look_at_steps (defScope s_look_at_steps) := ⟨rfl, rfl, rfl, by decide +kernel, rfl, by decide +kernel, by decide +kernel⟩
abbrev D_look_at_steps (G : Gx) : Prop := DefA G 4 "look_at_steps" P_look_at_steps [] (up rLookStepsM)
abbrev s_look_at : Stmt := topS 20
abbrev N_look_at : List Str := ["thing", "many", "firsts", "lasts", "steps"]
abbrev P_look_at : List Str := ["thing"]
theorem sc_look_at : FnScope N_look_at P_look_at (defScope s_look_at) := ⟨rfl, rfl, rfl, by decide +kernel, rfl, by decide +kernel, by decide +kernel⟩
abbrev D_look_at (G : Gx) : Prop := DefA G 5 "look_at" P_look_at [] (up rLookMm)
abbrev s_copied : Stmt := topS 21
abbrev N_copied : List Str := ["machine", "many", "firsts", "lasts", "steps"]
abbrev P_copied : List Str := ["machine"]
theorem sc_copied : FnScope N_copied P_copied (defScope s_copied) := ⟨rfl, rfl, rfl, by decide +kernel, rfl, by decide +kernel, by decide +kernel⟩
abbrev D_copied (G : Gx) : Prop := DefA G 1 "copied" P_copied [] (up rCopiedM)
abbrev s_look_at_word : Stmt := topS 23
abbrev N_look_at_word : List Str := ["text", "at", "sign"]
abbrev P_look_at_word : List Str := ["text"]
theorem sc_look_at_word : FnScope N_look_at_word P_look_at_word (defScope s_look_at_word) := ⟨rfl, rfl, rfl, by decide +kernel, rfl, by decide +kernel, by decide +kernel⟩
abbrev D_look_at_word (G : Gx) : Prop := DefA G 2 "look_at_word" P_look_at_word [] (up rLookWord)
abbrev s_alone_at : Stmt := topS 24
abbrev N_alone_at : List Str := ["machine", "rooms", "room"]
abbrev P_alone_at : List Str := ["machine", "rooms"]
theorem sc_alone_at : FnScope N_alone_at P_alone_at (defScope s_alone_at) := ⟨rfl, rfl, rfl, by decide +kernel, rfl, by decide +kernel, by decide +kernel⟩
abbrev D_alone_at (G : Gx) : Prop := DefA G 1 "alone_at" P_alone_at [] (up rAloneM)
abbrev s_moved : Stmt := topS 25
abbrev N_moved : List Str := ["machine", "vector", "sign", "later", "room", "letter", "to"]
abbrev P_moved : List Str := ["machine", "vector", "sign"]
theorem sc_moved : FnScope N_moved P_moved (defScope s_moved) := ⟨rfl, rfl, rfl, by decide +kernel, rfl, by decide +kernel, by decide +kernel⟩
abbrev D_moved (G : Gx) : Prop := DefA G 1 "moved" P_moved [] (up rMoved)
abbrev s_sum_at : Stmt := topS 26
abbrev N_sum_at : List Str := ["vector", "rooms", "room"]
abbrev P_sum_at : List Str := ["vector", "rooms"]
theorem sc_sum_at : FnScope N_sum_at P_sum_at (defScope s_sum_at) := ⟨rfl, rfl, rfl, by decide +kernel, rfl, by decide +kernel, by decide +kernel⟩
abbrev D_sum_at (G : Gx) : Prop := DefA G 1 "sum_at" P_sum_at [] (up rSumAt)
abbrev s_rooms_in_vector : Stmt := topS 27
abbrev N_rooms_in_vector : List Str := ["vector", "room", "many"]
abbrev P_rooms_in_vector : List Str := ["vector"]
theorem sc_rooms_in_vector : FnScope N_rooms_in_vector P_rooms_in_vector (defScope s_rooms_in_vector) := ⟨rfl, rfl, rfl, by decide +kernel, rfl, by decide +kernel, by decide +kernel⟩
abbrev D_rooms_in_vector (G : Gx) : Prop := DefA G 1 "rooms_in_vector" P_rooms_in_vector [] (up rInVector)
abbrev s__law_hand : Stmt := topS 31
abbrev N__law_hand : List Str := ["_law_script", "_law_k", "_law_cell", "_law_seed"]
abbrev P__law_hand : List Str := ["_law_script", "_law_k"]
theorem sc__law_hand : FnScope N__law_hand P__law_hand (defScope s__law_hand) := ⟨rfl, rfl, rfl, by decide +kernel, rfl, by decide +kernel, by decide +kernel⟩
abbrev D__law_hand (G : Gx) : Prop := DefA G 1 "_law_hand" P__law_hand [] (up rHand)
abbrev s__law_draw : Stmt := topS 32
abbrev N__law_draw : List Str := ["_law_hand_here", "_law_size", "_law_found"]
abbrev P__law_draw : List Str := ["_law_hand_here", "_law_size"]
theorem sc__law_draw : FnScope N__law_draw P__law_draw (defScope s__law_draw) := ⟨rfl, rfl, rfl, by decide +kernel, rfl, by decide +kernel, by decide +kernel⟩
abbrev D__law_draw (G : Gx) : Prop := DefA G 1 "_law_draw" P__law_draw [] (up rDraw)
abbrev s__law_rooms : Stmt := topS 33
abbrev N__law_rooms : List Str := ["_law_hand_here", "_law_size", "_law_some", "_law_room"]
abbrev P__law_rooms : List Str := ["_law_hand_here", "_law_size"]
theorem sc__law_rooms : FnScope N__law_rooms P__law_rooms (defScope s__law_rooms) := ⟨rfl, rfl, rfl, by decide +kernel, rfl, by decide +kernel, by decide +kernel⟩
abbrev D__law_rooms (G : Gx) : Prop := DefA G 2 "_law_rooms" P__law_rooms [] (up rRooms)
abbrev s__law_letters : Stmt := topS 34
abbrev N__law_letters : List Str := ["_law_hand_here"]
abbrev P__law_letters : List Str := ["_law_hand_here"]
theorem sc__law_letters : FnScope N__law_letters P__law_letters (defScope s__law_letters) := ⟨rfl, rfl, rfl, by decide +kernel, rfl, by decide +kernel, by decide +kernel⟩
abbrev D__law_letters (G : Gx) : Prop := DefA G 2 "_law_letters" P__law_letters [] (up rLetters)
abbrev s__law_machine : Stmt := topS 35
abbrev N__law_machine : List Str := ["_law_hand_here", "_law_upto", "_law_extra", "_law_letters_here", "_law_rooms_here", "_law_firsts", "_law_lasts", "_law_steps", "_law_k", "_law_step"]
abbrev P__law_machine : List Str := ["_law_hand_here", "_law_upto", "_law_extra", "_law_letters_here"]
theorem sc__law_machine : FnScope N__law_machine P__law_machine (defScope s__law_machine) := ⟨rfl, rfl, rfl, by decide +kernel, rfl, by decide +kernel, by decide +kernel⟩
abbrev D__law_machine (G : Gx) : Prop := DefA G 3 "_law_machine" P__law_machine [] (up rMachine)
abbrev s__law_word : Stmt := topS 36
abbrev N__law_word : List Str := ["_law_hand_here", "_law_letters_here", "_law_upto", "_law_k"]
abbrev P__law_word : List Str := ["_law_hand_here", "_law_letters_here", "_law_upto"]
theorem sc__law_word : FnScope N__law_word P__law_word (defScope s__law_word) := ⟨rfl, rfl, rfl, by decide +kernel, rfl, by decide +kernel, by decide +kernel⟩
abbrev D__law_word (G : Gx) : Prop := DefA G 2 "_law_word" P__law_word [] (up rWord)
abbrev s__law_machines : Stmt := topS 37
abbrev N__law_machines : List Str := ["_law_hand_here", "_law_letters_here", "_law_one", "_law_other", "_law_copy", "_law_turned_steps", "_law_at", "_law_lasts", "_law_room"]
abbrev P__law_machines : List Str := ["_law_hand_here", "_law_letters_here"]
theorem sc__law_machines : FnScope N__law_machines P__law_machines (defScope s__law_machines) := ⟨rfl, rfl, rfl, by decide +kernel, rfl, by decide +kernel, by decide +kernel⟩
abbrev D__law_machines (G : Gx) : Prop := DefA G 4 "_law_machines" P__law_machines [] (up rMachs29)
abbrev s__law_all_alike : Stmt := topS 38
abbrev N__law_all_alike : List Str := ["_law_readers", "_law_marks", "_law_at", "_law_one", "_law_to", "_law_other", "_law_due"]
abbrev P__law_all_alike : List Str := ["_law_readers", "_law_marks"]
theorem sc__law_all_alike : FnScope N__law_all_alike P__law_all_alike (defScope s__law_all_alike) := ⟨rfl, rfl, rfl, by decide +kernel, rfl, by decide +kernel, by decide +kernel⟩
abbrev D__law_all_alike (G : Gx) : Prop := DefA G 4 "_law_all_alike" P__law_all_alike [] (up rAlike29)
abbrev s__law_unlike_others : Stmt := topS 39
abbrev N__law_unlike_others : List Str := ["_law_reader", "_law_machine_here", "_law_thing"]
abbrev P__law_unlike_others : List Str := ["_law_reader", "_law_machine_here"]
theorem sc__law_unlike_others : FnScope N__law_unlike_others P__law_unlike_others (defScope s__law_unlike_others) := ⟨rfl, rfl, rfl, by decide +kernel, rfl, by decide +kernel, by decide +kernel⟩
abbrev D__law_unlike_others (G : Gx) : Prop := DefA G 4 "_law_unlike_others" P__law_unlike_others [] (up rUnlike29)
abbrev s__law_twins_right : Stmt := topS 40
abbrev N__law_twins_right : List Str := ["_law_hand_here", "_law_readers", "_law_marks", "_law_letters_here", "_law_at", "_law_ahead", "_law_twin"]
abbrev P__law_twins_right : List Str := ["_law_hand_here", "_law_readers", "_law_marks", "_law_letters_here"]
theorem sc__law_twins_right : FnScope N__law_twins_right P__law_twins_right (defScope s__law_twins_right) := ⟨rfl, rfl, rfl, by decide +kernel, rfl, by decide +kernel, by decide +kernel⟩
abbrev D__law_twins_right (G : Gx) : Prop := DefA G 9 "_law_twins_right" P__law_twins_right [] (up rTwins29)
abbrev s_law : Stmt := topS 41
abbrev N_law : List Str := ["_law_script", "_law_k", "_law_hand_here", "_law_letters_here", "_law_machines_here", "_law_words", "_law_readers", "_law_marks", "_law_machine_here", "_law_word_here", "_law_reader"]
abbrev P_law : List Str := ["_law_script"]
theorem sc_law : FnScope N_law P_law (defScope s_law) := ⟨rfl, rfl, rfl, by decide +kernel, rfl, by decide +kernel, by decide +kernel⟩
abbrev s_Reader___init__ : Stmt := inS 29 0
abbrev N_Reader___init__ : List Str := ["self", "machine"]
abbrev P_Reader___init__ : List Str := ["self", "machine"]
theorem sc_Reader___init__ : FnScope N_Reader___init__ P_Reader___init__ (defScope s_Reader___init__) := ⟨rfl, rfl, rfl, by decide +kernel, rfl, by decide +kernel, by decide +kernel⟩
abbrev D_new_Reader (G : Gx) : Prop := MakA G 6 "Reader" P_Reader___init__ [] (up rReaderNewM)
abbrev s_Reader_go_on : Stmt := inS 29 1
abbrev N_Reader_go_on : List Str := ["self", "sign"]
abbrev P_Reader_go_on : List Str := ["self", "sign"]
theorem sc_Reader_go_on : FnScope N_Reader_go_on P_Reader_go_on (defScope s_Reader_go_on) := ⟨rfl, rfl, rfl, by decide +kernel, rfl, by decide +kernel, by decide +kernel⟩
abbrev D_Reader_go_on (G : Gx) : Prop := MetA G 2 "Reader" "go_on" P_Reader_go_on [] (up rGoOn)
abbrev s_Reader_feed : Stmt := inS 29 2
abbrev N_Reader_feed : List Str := ["self", "sign"]
abbrev P_Reader_feed : List Str := ["self", "sign"]
theorem sc_Reader_feed : FnScope N_Reader_feed P_Reader_feed (defScope s_Reader_feed) := ⟨rfl, rfl, rfl, by decide +kernel, rfl, by decide +kernel, by decide +kernel⟩
abbrev D_Reader_feed (G : Gx) : Prop := MetA G 3 "Reader" "feed" P_Reader_feed [] (up rFeedR)
abbrev s_Reader_take : Stmt := inS 29 3
abbrev N_Reader_take : List Str := ["self", "text", "sign"]
abbrev P_Reader_take : List Str := ["self", "text"]
theorem sc_Reader_take : FnScope N_Reader_take P_Reader_take (defScope s_Reader_take) := ⟨rfl, rfl, rfl, by decide +kernel, rfl, by decide +kernel, by decide +kernel⟩
abbrev D_Reader_take (G : Gx) : Prop := MetA G 3 "Reader" "take" P_Reader_take [] (up rTakeR)
abbrev s_Reader_back : Stmt := inS 29 4
abbrev N_Reader_back : List Str := ["self", "many"]
abbrev P_Reader_back : List Str := ["self", "many"]
theorem sc_Reader_back : FnScope N_Reader_back P_Reader_back (defScope s_Reader_back) := ⟨rfl, rfl, rfl, by decide +kernel, rfl, by decide +kernel, by decide +kernel⟩
abbrev s_Reader_text : Stmt := inS 29 5
abbrev N_Reader_text : List Str := ["self"]
abbrev P_Reader_text : List Str := ["self"]
theorem sc_Reader_text : FnScope N_Reader_text P_Reader_text (defScope s_Reader_text) := ⟨rfl, rfl, rfl, by decide +kernel, rfl, by decide +kernel, by decide +kernel⟩
abbrev D_Reader_text (G : Gx) : Prop := MetA G 1 "Reader" "text" P_Reader_text [] (up rTextR)
abbrev s_Reader_reached : Stmt := inS 29 6
abbrev N_Reader_reached : List Str := ["self"]
abbrev P_Reader_reached : List Str := ["self"]
theorem sc_Reader_reached : FnScope N_Reader_reached P_Reader_reached (defScope s_Reader_reached) := ⟨rfl, rfl, rfl, by decide +kernel, rfl, by decide +kernel, by decide +kernel⟩
abbrev D_Reader_reached (G : Gx) : Prop := MetA G 2 "Reader" "reached" P_Reader_reached [] (up rReached2)
abbrev s_Reader_counts : Stmt := inS 29 7
abbrev N_Reader_counts : List Str := ["self"]
abbrev P_Reader_counts : List Str := ["self"]
theorem sc_Reader_counts : FnScope N_Reader_counts P_Reader_counts (defScope s_Reader_counts) := ⟨rfl, rfl, rfl, by decide +kernel, rfl, by decide +kernel, by decide +kernel⟩
abbrev D_Reader_counts (G : Gx) : Prop := MetA G 1 "Reader" "counts" P_Reader_counts [] (up rCounts2)
abbrev s_Reader_ways : Stmt := inS 29 8
abbrev N_Reader_ways : List Str := ["self"]
abbrev P_Reader_ways : List Str := ["self"]
theorem sc_Reader_ways : FnScope N_Reader_ways P_Reader_ways (defScope s_Reader_ways) := ⟨rfl, rfl, rfl, by decide +kernel, rfl, by decide +kernel, by decide +kernel⟩
abbrev D_Reader_ways (G : Gx) : Prop := MetA G 2 "Reader" "ways" P_Reader_ways [] (up rWaysR)
abbrev s_Reader_twin : Stmt := inS 29 10
abbrev N_Reader_twin : List Str := ["self", "other"]
abbrev P_Reader_twin : List Str := ["self"]
theorem sc_Reader_twin : FnScope N_Reader_twin P_Reader_twin (defScope s_Reader_twin) := ⟨rfl, rfl, rfl, by decide +kernel, rfl, by decide +kernel, by decide +kernel⟩
abbrev D_Reader_twin (G : Gx) : Prop := MetA G 8 "Reader" "twin" P_Reader_twin [] (up rTwinR)
abbrev s_Reader___len__ : Stmt := inS 29 11
abbrev N_Reader___len__ : List Str := ["self"]
abbrev P_Reader___len__ : List Str := ["self"]
theorem sc_Reader___len__ : FnScope N_Reader___len__ P_Reader___len__ (defScope s_Reader___len__) := ⟨rfl, rfl, rfl, by decide +kernel, rfl, by decide +kernel, by decide +kernel⟩
abbrev D_Reader___len__ (G : Gx) : Prop := MetA G 1 "Reader" "__len__" P_Reader___len__ [] (up rLenR)
abbrev s_Reader___eq__ : Stmt := inS 29 12
abbrev N_Reader___eq__ : List Str := ["self", "other"]
abbrev P_Reader___eq__ : List Str := ["self", "other"]
theorem sc_Reader___eq__ : FnScope N_Reader___eq__ P_Reader___eq__ (defScope s_Reader___eq__) := ⟨rfl, rfl, rfl, by decide +kernel, rfl, by decide +kernel, by decide +kernel⟩
abbrev D_Reader___eq__ (G : Gx) : Prop := MetA G 1 "Reader" "__eq__" P_Reader___eq__ [] (up rEqR)
abbrev D_Reader_back0 (G : Gx) : Prop := MetA G 2 "Reader" "back" P_Reader_back [pI 1] (up rBackR)
abbrev D_Reader_backP (G : Gx) : Prop := MetA G 2 "Reader" "back" P_Reader_back [] (up rBackR)
structure Xs (G : Gx) : Prop where
  k_Reader : ClsK G "Reader"
  f_Reader_read_machine : FldK G "Reader" "read_machine"
  f_Reader_word : FldK G "Reader" "word"
  f_Reader_vectors : FldK G "Reader" "vectors"
  e_Reader : EqK G "Reader"
/-- what the module's names hold -/
structure Txt (mg : Str → Option Value) : Prop where
  bool_ : mg "bool" = none
  enumerate_ : mg "enumerate" = none
  int_ : mg "int" = none
  isi_ : mg "isinstance" = none
  len_ : mg "len" = none
  list_ : mg "list" = none
  max_ : mg "max" = none
  min_ : mg "min" = none
  range_ : mg "range" = none
  str_ : mg "str" = none
  sum_ : mg "sum" = none
  tuple_ : mg "tuple" = none
  LETTERS : ∃ t, mg "LETTERS" = some (.str "abcdefghijklmnopqrstuvwxyz" t)
  MOST_ROOMS : ∃ t, mg "MOST_ROOMS" = some (.int 12 t)
  MOST_STEPS : ∃ t, mg "MOST_STEPS" = some (.int 200 t)
  MOST_WORD : ∃ t, mg "MOST_WORD" = some (.int 400 t)
end K29
set_option pp.maxSteps 1200
namespace K29
open PySem PySem.Spec L2 Al
open PyProof.Rows hiding St
local macro_rules | `(tactic| walk_at "v") => `(tactic| first | refine ae_var 0 rfl ?_ | refine ae_var 1 rfl ?_ | refine ae_var 2 rfl ?_ | refine ae_var 3 rfl ?_ | refine ae_var 4 rfl ?_ | refine ae_var 5 rfl ?_ | refine ae_var 6 rfl ?_ | refine ae_var 7 rfl ?_ | refine ae_var 8 rfl ?_ | refine ae_var 9 rfl ?_ | refine ae_var 10 rfl ?_ | refine ae_var 11 rfl ?_ | refine ae_var 12 rfl ?_ | refine ae_var 13 rfl ?_ | refine ae_var 14 rfl ?_ | refine ae_var 15 rfl ?_ | refine ae_var 16 rfl ?_ | refine ae_var 17 rfl ?_ | refine ae_var 18 rfl ?_ | refine ae_var 19 rfl ?_ | refine ae_ty (Txt.int_ ‹_›) boot_int ?_ | refine ae_ty (Txt.str_ ‹_›) boot_str ?_ | refine ae_ty (Txt.bool_ ‹_›) boot_bool ?_ | refine ae_ty (Txt.list_ ‹_›) boot_list ?_ | refine ae_ty (Txt.tuple_ ‹_›) boot_tuple ?_ | refine ae_globS (Txt.LETTERS ‹_›).choose_spec ?_ | refine ae_globI (Txt.MOST_ROOMS ‹_›).choose_spec ?_ | refine ae_globI (Txt.MOST_STEPS ‹_›).choose_spec ?_ | refine ae_globI (Txt.MOST_WORD ‹_›).choose_spec ?_)
local macro_rules | `(tactic| walk_at "ge") => `(tactic| first
  | ((with_reducible show ite (true = true) _ _); refine iteT ?_)
  | ((with_reducible show ite (false = true) _ _); refine iteF ?_)
  | ((with_reducible show ite ((!true) = true) _ _); refine iteF ?_)
  | ((with_reducible show ite ((!false) = true) _ _); refine iteT ?_)
  | ((with_reducible show IsB _ _ _); refine isB_mk ?_)
  | ((with_reducible show AE _ (Expr.Name _ _) _ _ _); walk_at "v")
  | ((with_reducible show AE _ (Expr.Constant (Const.int _) _ _) _ _ _); refine ae_int ?_)
  | ((with_reducible show AE _ (Expr.Constant (Const.str _) _ _) _ _ _); refine ae_str ?_)
  | ((with_reducible show AE _ (Expr.Constant (Const.bool _) _ _) _ _ _); refine ae_bl ?_)
  | ((with_reducible show AE _ (Expr.Constant Const.none _ _) _ _ _); refine ae_non ?_)
  | ((with_reducible show AO1 _ (some _) _ _ _); refine ao_some ?_)
  | ((with_reducible show AO1 _ none _ _ _); refine ao_none ?_)
  | ((with_reducible show AE _ (Expr.BinOp _ _ _ _) _ _ _); refine ae_bin ?_)
  | ((with_reducible show AE _ (Expr.Compare _ [_] [_] _) _ _ _); refine ae_cmp ?_)
  | ((with_reducible show AE _ (Expr.Compare _ [_, _] [_, _] _) _ _ _); refine ae_chain ?_)
  | ((with_reducible show AE _ (Expr.Subscript _ (Expr.Slice none none (some _) _) _) _ _ _); refine ae_revS ?_)
  | ((with_reducible show AE _ (Expr.Subscript _ (Expr.Slice _ _ _ _) _) _ _ _); fail)
  | ((with_reducible show AE _ (Expr.Subscript _ _ _) _ _ _); refine ae_ix ?_)
  | ((with_reducible show AE _ (Expr.BoolOp _ [_] _) _ _ _); refine ae_one ?_)
  | ((with_reducible show AE _ (Expr.BoolOp BoolOp.And _ _) _ _ _); refine ae_and ?_)
  | ((with_reducible show AE _ (Expr.BoolOp BoolOp.Or _ _) _ _ _); refine ae_or ?_)
  | ((with_reducible show AE _ (Expr.UnaryOp UnaryOp.Not _ _) _ _ _); refine ae_not ?_)
  | ((with_reducible show AE _ (Expr.UnaryOp _ _ _) _ _ _); refine ae_un ?_)
  | ((with_reducible show AE _ (Expr.IfExp _ _ _ _) _ _ _); refine ae_if ?_)
  | ((with_reducible show AT _ (Expr.Compare _ [_] [_] _) _ _ _); refine at_cmp ?_)
  | ((with_reducible show AT _ (Expr.Compare _ [_, _] [_, _] _) _ _ _); refine at_chain ?_)
  | ((with_reducible show AT _ (Expr.UnaryOp UnaryOp.Not _ _) _ _ _); refine at_not ?_)
  | ((with_reducible show AT _ (Expr.BoolOp _ _ _) _ _ _); refine at_w ?_)
  | ((with_reducible show AT _ (Expr.Call _ _ _ _) _ _ _); refine at_val ?_)
  | ((with_reducible show AT _ (Expr.Name _ _) _ _ _); refine at_val ?_)
  | ((with_reducible show AW _ (Expr.BoolOp BoolOp.And [_] _) _ _ _); refine aw_and1 ?_)
  | ((with_reducible show AW _ (Expr.BoolOp BoolOp.Or [_] _) _ _ _); refine aw_or1 ?_)
  | ((with_reducible show AW _ (Expr.BoolOp BoolOp.And _ _) _ _ _); refine aw_and ?_)
  | ((with_reducible show AW _ (Expr.BoolOp BoolOp.Or _ _) _ _ _); refine aw_or ?_)
  | ((with_reducible show AA _ [] _ _ _); refine aa_nil ?_)
  | ((with_reducible show AA _ (_ :: _) _ _ _); refine aa_cons ?_)
  | ((with_reducible show BinA _ (binaryOp Operator.Add) (PV.d (PyData.int _)) (PV.d (PyData.int _)) _ _); refine b_add ?_)
  | ((with_reducible show BinA _ (binaryOp Operator.Sub) (PV.d (PyData.int _)) (PV.d (PyData.int _)) _ _); refine b_sub ?_)
  | ((with_reducible show BinA _ (compareOp CmpOp.Lt) (PV.d (PyData.int _)) (PV.d (PyData.int _)) _ _); refine b_lt ?_)
  | ((with_reducible show BinA _ (compareOp CmpOp.LtE) (PV.d (PyData.int _)) (PV.d (PyData.int _)) _ _); refine b_le ?_)
  | ((with_reducible show BinA _ (compareOp CmpOp.Gt) (PV.d (PyData.int _)) (PV.d (PyData.int _)) _ _); refine b_gt ?_)
  | ((with_reducible show BinA _ (compareOp CmpOp.GtE) (PV.d (PyData.int _)) (PV.d (PyData.int _)) _ _); refine b_ge ?_)
  | ((with_reducible show BinA _ (compareOp CmpOp.Eq) (PV.d (PyData.int _)) (PV.d (PyData.int _)) _ _); refine b_eqI ?_)
  | ((with_reducible show BinA _ (compareOp CmpOp.NotEq) (PV.d (PyData.int _)) (PV.d (PyData.int _)) _ _); refine b_neI ?_)
  | ((with_reducible show BinA _ (compareOp CmpOp.Eq) (PV.d (PyData.str _)) (PV.d (PyData.str _)) _ _); refine b_eqS ?_)
  | ((with_reducible show BinA _ (compareOp CmpOp.NotEq) (PV.d (PyData.str _)) (PV.d (PyData.str _)) _ _); refine b_neS ?_)
  | ((with_reducible show BinA _ (compareOp CmpOp.LtE) (PV.d (PyData.str _)) (PV.d (PyData.str _)) _ _); refine b_leS ?_)
  | ((with_reducible show BinA _ (compareOp CmpOp.Lt) (PV.d (PyData.str _)) (PV.d (PyData.str _)) _ _); refine b_ltS ?_)
  | ((with_reducible show BinA _ (compareOp CmpOp.Eq) (PV.d (PyData.bool _)) (PV.d (PyData.bool _)) _ _); refine b_eqB ?_)
  | ((with_reducible show AE _ (Expr.Call (Expr.Name "int" _) _ [] _) _ _ _); refine ae_callTy rfl (Txt.int_ ‹_›) boot_int ?_)
  | ((with_reducible show AE _ (Expr.Call (Expr.Name "isinstance" _) _ [] _) _ _ _); refine ae_callB rfl (Txt.isi_ ‹_›) boot_isinstance ?_)
  | ((with_reducible show AE _ (Expr.Call (Expr.Name "len" _) _ [] _) _ _ _); refine ae_callB rfl (Txt.len_ ‹_›) PySem.boot_len ?_)
  | ((with_reducible show AE _ (Expr.Call (Expr.Name "list" _) _ [] _) _ _ _); refine ae_callTy rfl (Txt.list_ ‹_›) boot_list ?_)
  | ((with_reducible show AE _ (Expr.Call (Expr.Name "max" _) _ [] _) _ _ _); refine ae_callB rfl (Txt.max_ ‹_›) boot_max ?_)
  | ((with_reducible show AE _ (Expr.Call (Expr.Name "min" _) _ [] _) _ _ _); refine ae_callB rfl (Txt.min_ ‹_›) boot_min ?_)
  | ((with_reducible show AE _ (Expr.Call (Expr.Name "sum" _) _ [] _) _ _ _); refine ae_callB rfl (Txt.sum_ ‹_›) boot_sum ?_)
  | ((with_reducible show AE _ (Expr.Call (Expr.Name "is_whole" _) _ [] _) _ _ _); refine ae_callA ‹D_is_whole _› (RoomG.mono ‹_› (by first | decide | omega)) ?_)
  | ((with_reducible show AE _ (Expr.Call (Expr.Name "is_within" _) _ [] _) _ _ _); refine ae_callA ‹D_is_within _› (RoomG.mono ‹_› (by first | decide | omega)) ?_)
  | ((with_reducible show AE _ (Expr.Call (Expr.Name "is_sign" _) _ [] _) _ _ _); refine ae_callA ‹D_is_sign _› (RoomG.mono ‹_› (by first | decide | omega)) ?_)
  | ((with_reducible show AE _ (Expr.Call (Expr.Name "is_step" _) _ [] _) _ _ _); refine ae_callA ‹D_is_step _› (RoomG.mono ‹_› (by first | decide | omega)) ?_)
  | ((with_reducible show AE _ (Expr.Call (Expr.Name "look_at_rooms" _) _ [] _) _ _ _); refine ae_callA ‹D_look_at_rooms _› (RoomG.mono ‹_› (by first | decide | omega)) ?_)
  | ((with_reducible show AE _ (Expr.Call (Expr.Name "look_at_steps" _) _ [] _) _ _ _); refine ae_callA ‹D_look_at_steps _› (RoomG.mono ‹_› (by first | decide | omega)) ?_)
  | ((with_reducible show CallA _ (Value.builtin "isinstance") [PV.d _, PV.v (V.ty "int")] _ _); refine c_isInt ?_)
  | ((with_reducible show CallA _ (Value.builtin "isinstance") [PV.d _, PV.v (V.ty "str")] _ _); refine c_isStr ?_)
  | ((with_reducible show CallA _ (Value.builtin "isinstance") [PV.d _, PV.v (V.ty "bool")] _ _); refine c_isBool ?_)
  | ((with_reducible show CallA _ (Value.builtin "isinstance") [PV.d _, PV.v (V.ty "list")] _ _); refine c_isList ?_)
  | ((with_reducible show CallA _ (Value.builtin "isinstance") [PV.d _, PV.v (V.ty "tuple")] _ _); refine c_isTup ?_)
  | ((with_reducible show CallA _ (Value.builtin "len") [PV.d (PyData.list _)] _ _); refine c_lenL ?_)
  | ((with_reducible show CallA _ (Value.builtin "len") [PV.d (PyData.tuple _)] _ _); refine c_lenT ?_)
  | ((with_reducible show CallA _ (Value.builtin "sum") [PV.d (PyData.list (List.map PyData.int _))] _ _); refine c_sum rfl ?_)
  | ((with_reducible show CallA _ (Value.type "int") [PV.d (PyData.bool _)] _ _); refine c_intB ?_)
  | ((with_reducible show AE _ (Expr.Call (Expr.Attribute _ "append" _) _ _ _) _ _ _); refine ae_bm PySem.F.plainAttrs_list PySem.F.slot_list_append PySem.F.type_list_append ?_)
  | ((with_reducible show BinA _ (inplaceOp Operator.Add) (PV.d (PyData.int _)) (PV.d (PyData.int _)) _ _); refine ib_add ?_)
  | ((with_reducible show UnA _ (unaryOp UnaryOp.USub) (PV.d (PyData.int _)) _ _); refine u_neg ?_)
  | ((with_reducible show IxA _ (PV.d (mD _)) (PV.d (PyData.int 0)) _ _); refine ixm0 ?_)
  | ((with_reducible show IxA _ (PV.d (mD _)) (PV.d (PyData.int 1)) _ _); refine ixm1 ?_)
  | ((with_reducible show IxA _ (PV.d (mD _)) (PV.d (PyData.int 2)) _ _); refine ixm2 ?_)
  | ((with_reducible show IxA _ (PV.d (mD _)) (PV.d (PyData.int 3)) _ _); refine ixm3 ?_)
  | ((with_reducible show IxA _ (PV.d (stD _)) (PV.d (PyData.int 0)) _ _); refine ixs0 ?_)
  | ((with_reducible show IxA _ (PV.d (stD _)) (PV.d (PyData.int 1)) _ _); refine ixs1 ?_)
  | ((with_reducible show IxA _ (PV.d (stD _)) (PV.d (PyData.int 2)) _ _); refine ixs2 ?_))
local macro_rules | `(tactic| walk_at "go1") => `(tactic| first
  | walk_at "ge"
  | ((with_reducible show ASs _ (_ :: _) _ _ _); refine as_cons ?_)
  | ((with_reducible show ASs _ [] _ _ _); refine as_nil ?_)
  | ((with_reducible show AS _ (Stmt.Return (some _) _) _ _ _); refine as_ret ?_)
  | ((with_reducible show AS _ (Stmt.If _ _ _ _) _ _ _); refine as_if ?_)
  | ((with_reducible show AS _ (Stmt.Expr _ _) _ _ _); refine as_expr ?_))
local macro_rules | `(tactic| walk_at "fld") => `(tactic| (refine ae_fld ?_; refine ae_var 0 rfl ?_; refine ⟨_, "Reader", _, _, rfl, by assumption, Xs.k_Reader ‹_›, ?_, rfl, ?_⟩; (first | exact Xs.f_Reader_read_machine ‹_› | exact Xs.f_Reader_word ‹_› | exact Xs.f_Reader_vectors ‹_›)))
local macro_rules | `(tactic| walk_at "ge") => `(tactic| first | ((with_reducible show AE _ (Expr.Attribute (Expr.Name "self" _) _ _) _ _ _); walk_at "fld") | ((with_reducible show AT _ (Expr.Attribute _ _ _) _ _ _); refine at_val ?_))
section
variable {P : Program} {w : World} {K : PySem.W.Frag} {mg : Str → Option Value} {base : Heap}
theorem ok_is_sign {f : Addr} {fd : FuncData} (F : Fun K "is_sign" "is_sign" s_is_sign f fd) (T : Txt mg) (XS : Xs ⟨P, w, K, mg, base⟩) : Fn ⟨P, w, K, mg, base⟩ 1 f fd P_is_sign (up rSign) := by
  refine okA F sc_is_sign (fun args O Φ Ξ h => ?_) (fun cdv A outer s H E as0 F0 args O Φ Ξ hr h => ?_)
  · obtain ⟨c, rfl, _⟩ := h
    rfl
  · obtain ⟨c, rfl, q⟩ := h
    obtain ⟨t, ht⟩ := T.LETTERS
    refine as_cons ?_
    repeat walk_at "go1"
    refine c_len1 ?_
    repeat walk_at "go1"
    refine ifd (fun _ => ?_) (fun h => absurd rfl h)
    repeat walk_at "go1"
    refine b_inSign ?_
    rw [in_letters]
    exact .keep q
theorem ok_is_whole {f : Addr} {fd : FuncData} (F : Fun K "is_whole" "is_whole" s_is_whole f fd) (T : Txt mg) (XS : Xs ⟨P, w, K, mg, base⟩) : Fn ⟨P, w, K, mg, base⟩ 1 f fd P_is_whole (up rWholeG) := by
  refine okA F sc_is_whole (fun args O Φ Ξ h => ?_) (fun cdv A outer s H E as0 F0 args O Φ Ξ hr h => ?_)
  · first | (obtain ⟨rfl, _⟩ := h; rfl) | (obtain ⟨_, rfl, _⟩ := h; rfl) | (obtain ⟨_, _, rfl, _⟩ := h; rfl) | (obtain ⟨_, _, _, rfl, _⟩ := h; rfl) | (obtain ⟨_, _, _, _, rfl, _⟩ := h; rfl) | (obtain ⟨_, _, _, _, _, rfl, _⟩ := h; rfl) | (obtain ⟨_, _, _, _, _, _, rfl, _⟩ := h; rfl) | (obtain ⟨_, _, _, _, _, _, _, rfl, _⟩ := h; rfl) | (obtain ⟨_, _, _, _, _, _, _, _, rfl, _⟩ := h; rfl) | (obtain ⟨_, _, _, _, _, _, _, _, _, rfl, _⟩ := h; rfl) | (obtain ⟨_, _, _, _, _, _, _, _, _, _, rfl, _⟩ := h; rfl) | (obtain ⟨_, _, _, _, _, _, _, _, _, _, _, rfl, _⟩ := h; rfl)
  · skip
    obtain ⟨x, rfl, q⟩ := h
    refine as_cons ?_
    cases x with
    | _ =>
      repeat walk_at "go1"
      exact .keep q
theorem ok_is_within {f : Addr} {fd : FuncData} (F : Fun K "is_within" "is_within" s_is_within f fd) (T : Txt mg) (XS : Xs ⟨P, w, K, mg, base⟩) (E1 : D_is_whole ⟨P, w, K, mg, base⟩) : Fn ⟨P, w, K, mg, base⟩ 2 f fd P_is_within (up rWithin) := by
  refine okA F sc_is_within (fun args O Φ Ξ h => ?_) (fun cdv A outer s H E as0 F0 args O Φ Ξ hr h => ?_)
  · obtain ⟨i, a, b, rfl, _⟩ := h
    rfl
  · obtain ⟨i, a, b, rfl, q⟩ := h
    refine as_cons ?_
    repeat walk_at "go1"
    refine ⟨_, rfl, ?_⟩
    try dsimp only [isWh]
    repeat walk_at "go1"
    refine ifd (fun h1 => ?_) (fun h1 => ?_)
    · repeat walk_at "go1"
      rw [decide_eq_true h1] at q
      exact .keep q
    · rw [decide_eq_false h1] at q
      exact .keep q
theorem ok_look_at_rooms {f : Addr} {fd : FuncData} (F : Fun K "look_at_rooms" "look_at_rooms" s_look_at_rooms f fd) (T : Txt mg) (XS : Xs ⟨P, w, K, mg, base⟩) (E1 : D_is_within ⟨P, w, K, mg, base⟩) : Fn ⟨P, w, K, mg, base⟩ 3 f fd P_look_at_rooms (up rLookRoomsM) := by
  refine okA F sc_look_at_rooms (fun args O Φ Ξ h => ?_) (fun cdv A outer s H E as0 F0 args O Φ Ξ hr h => ?_)
  · first | (obtain ⟨rfl, _⟩ := h; rfl) | (obtain ⟨_, rfl, _⟩ := h; rfl) | (obtain ⟨_, _, rfl, _⟩ := h; rfl) | (obtain ⟨_, _, _, rfl, _⟩ := h; rfl) | (obtain ⟨_, _, _, _, rfl, _⟩ := h; rfl) | (obtain ⟨_, _, _, _, _, rfl, _⟩ := h; rfl) | (obtain ⟨_, _, _, _, _, _, rfl, _⟩ := h; rfl) | (obtain ⟨_, _, _, _, _, _, _, rfl, _⟩ := h; rfl) | (obtain ⟨_, _, _, _, _, _, _, _, rfl, _⟩ := h; rfl) | (obtain ⟨_, _, _, _, _, _, _, _, _, rfl, _⟩ := h; rfl) | (obtain ⟨_, _, _, _, _, _, _, _, _, _, rfl, _⟩ := h; rfl) | (obtain ⟨_, _, _, _, _, _, _, _, _, _, _, rfl, _⟩ := h; rfl)
  · skip
    obtain ⟨n, q0, p, rs, rfl, hL, hrs, q⟩ := h
    refine as_cons ?_
    repeat walk_at "go1"
    refine c_isLstL hL ?_
    repeat walk_at "go1"
    refine as_set 3 sc_look_at_rooms.nd ?_
    repeat walk_at "go1"
    refine as_for PassesOwn.never rfl (ai_enumL rfl T.enumerate_ ?_)
    walk_at "go1"
    refine ⟨rs.map iD, hL, fun i ρ' O' => O' = O ∧ ∃ (x : Int) (y z : Option PV), ρ' = [some (.d (iD n)), some q0, some p, some (pI x), y, z] ∧ ∀ r, rs[i]? = some r → x + 1 ≤ r, ⟨rfl, -1, _, _, rfl, fun r _ => by omega⟩, fun _ _ _ h => by obtain ⟨rfl, _⟩ := h; exact hL, ?_, ?_⟩
    · rintro i x ρ' O' hx ⟨rfl, l, y, z, rfl, hl⟩
      obtain ⟨d, hd, rfl⟩ := enD_at hx
      rw [List.getElem?_map, Option.map_eq_some_iff] at hd
      obtain ⟨r, hr2, rfl⟩ := hd
      refine ag_tup rfl (ags_cons (ag_name 4 sc_look_at_rooms.nd (ags_cons (ag_name 5 sc_look_at_rooms.nd (ags_nil ?_)))))
      refine as_cons ?_
      repeat walk_at "go1"
      refine ⟨_, _, _, rfl, ?_⟩
      have h1 := hl r hr2
      have h2 := hrs.lt r (List.mem_of_getElem? hr2)
      rw [andT h1 (show (r : Int) ≤ n - 1 by omega)]
      repeat walk_at "go1"
      refine as_set 3 sc_look_at_rooms.nd ?_
      repeat walk_at "go1"
      refine .keep ⟨rfl, r, _, _, rfl, fun r' hr' => ?_⟩
      have h3 := List.pairwise_iff_getElem.mp hrs.up i (i + 1) (List.getElem?_eq_some_iff.mp hr2).1 (List.getElem?_eq_some_iff.mp hr').1 (Nat.lt_succ_self _)
      rw [(List.getElem?_eq_some_iff.mp hr2).2, (List.getElem?_eq_some_iff.mp hr').2] at h3
      omega
    · rintro ρ' O' ⟨rfl, x, y, z, rfl, _⟩
      exact as_nil (.keep q)
theorem ok_is_step {f : Addr} {fd : FuncData} (F : Fun K "is_step" "is_step" s_is_step f fd) (T : Txt mg) (XS : Xs ⟨P, w, K, mg, base⟩) (E1 : D_is_sign ⟨P, w, K, mg, base⟩) (E2 : D_is_within ⟨P, w, K, mg, base⟩) : Fn ⟨P, w, K, mg, base⟩ 3 f fd P_is_step (up rIsStep) := by
  refine okA F sc_is_step (fun args O Φ Ξ h => ?_) (fun cdv A outer s H E as0 F0 args O Φ Ξ hr h => ?_)
  · obtain ⟨n, t, rfl, _⟩ := h
    rfl
  · obtain ⟨n, t, rfl, ht, q⟩ := h
    refine as_cons ?_
    repeat walk_at "go1"
    refine ifnd (fun h => absurd rfl h) (fun _ => ?_)
    repeat walk_at "go1"
    refine ⟨_, rfl, ?_⟩
    rw [ht.c]
    repeat walk_at "go1"
    refine ⟨_, _, _, rfl, ?_⟩
    have h1 := ht.a
    have h2 := ht.b
    rw [andT (show (0 : Int) ≤ t.1 by omega) (show (t.1 : Int) ≤ n - 1 by omega)]
    repeat walk_at "go1"
    refine ⟨_, _, _, rfl, ?_⟩
    rw [andT (show (0 : Int) ≤ t.2.2 by omega) (show (t.2.2 : Int) ≤ n - 1 by omega)]
    exact .keep q
theorem ok_look_at_steps {f : Addr} {fd : FuncData} (F : Fun K "look_at_steps" "look_at_steps" s_look_at_steps f fd) (T : Txt mg) (XS : Xs ⟨P, w, K, mg, base⟩) (E1 : D_is_step ⟨P, w, K, mg, base⟩) : Fn ⟨P, w, K, mg, base⟩ 4 f fd P_look_at_steps (up rLookStepsM) := by
  refine okA F sc_look_at_steps (fun args O Φ Ξ h => ?_) (fun cdv A outer s H E as0 F0 args O Φ Ξ hr h => ?_)
  · first | (obtain ⟨rfl, _⟩ := h; rfl) | (obtain ⟨_, rfl, _⟩ := h; rfl) | (obtain ⟨_, _, rfl, _⟩ := h; rfl) | (obtain ⟨_, _, _, rfl, _⟩ := h; rfl) | (obtain ⟨_, _, _, _, rfl, _⟩ := h; rfl) | (obtain ⟨_, _, _, _, _, rfl, _⟩ := h; rfl) | (obtain ⟨_, _, _, _, _, _, rfl, _⟩ := h; rfl) | (obtain ⟨_, _, _, _, _, _, _, rfl, _⟩ := h; rfl) | (obtain ⟨_, _, _, _, _, _, _, _, rfl, _⟩ := h; rfl) | (obtain ⟨_, _, _, _, _, _, _, _, _, rfl, _⟩ := h; rfl) | (obtain ⟨_, _, _, _, _, _, _, _, _, _, rfl, _⟩ := h; rfl) | (obtain ⟨_, _, _, _, _, _, _, _, _, _, _, rfl, _⟩ := h; rfl)
  · skip
    obtain ⟨n, st, p, rfl, hL, hst, nd, hl, cl, q⟩ := h
    refine as_cons ?_
    repeat walk_at "go1"
    refine c_isLstL hL ?_
    repeat walk_at "go1"
    refine c_lenIL hL ?_
    repeat walk_at "go1"
    refine ifd (fun h => ?_) (fun _ => ?_)
    · rw [List.length_map, List.length_map] at h
      omega
    repeat walk_at "go1"
    refine as_set 2 sc_look_at_steps.nd (ae_dict0T ?_)
    repeat walk_at "go1"
    refine as_for PassesOwn.never rfl (ai_enumL rfl T.enumerate_ ?_)
    walk_at "go1"
    refine ⟨st.map stD, hL.app, fun i ρ' O' => O' = O ++ [.dT ((st.take i).map fun t => (kS t, pB true))] ∧ ∃ (y z : Option PV), ρ' = [some (.d (iD n)), some p, some (.o O.length), y, z], ⟨rfl, _, _, rfl⟩, fun _ _ _ h => by obtain ⟨rfl, _⟩ := h; exact hL.app, ?_, ?_⟩
    · rintro i x ρ' O' hx ⟨rfl, y, z, rfl⟩
      obtain ⟨d, hd, rfl⟩ := enD_at hx
      rw [List.getElem?_map, Option.map_eq_some_iff] at hd
      obtain ⟨t, ht, rfl⟩ := hd
      refine ag_tup rfl (ags_cons (ag_name 3 sc_look_at_steps.nd (ags_cons (ag_name 4 sc_look_at_steps.nd (ags_nil ?_)))))
      have hO : (O ++ [AO.dT ((st.take i).map fun t => (kS t, pB true))])[O.length]? = some (AO.dT ((st.take i).map fun t => (kS t, pB true))) := by simp
      obtain ⟨hg, hs⟩ := kS_new (x := pB true) (nodup_take nd ht)
      refine as_cons ?_
      repeat walk_at "go1"
      refine ⟨_, _, rfl, hst t (List.mem_of_getElem? ht), ?_⟩
      repeat walk_at "go1"
      refine b_inDT (ks := kS t) (hu_of hr.r) hO ?_
      rw [hg]
      refine isB_mk (iteF ?_)
      repeat walk_at "go1"
      refine as_dputT (hu_of hr.r) ?_
      repeat walk_at "go1"
      refine ⟨_, _, kS t, rfl, rfl, hO, by rw [List.length_map, List.length_take]; omega, as_nil (.keep ⟨?_, _, _, rfl⟩)⟩
      rw [hs, take_succ_of ht]
      simp
    · rintro ρ' O' ⟨rfl, y, z, rfl⟩
      exact as_nil (gh_drop cl rfl q)
theorem ok_look_at {f : Addr} {fd : FuncData} (F : Fun K "look_at" "look_at" s_look_at f fd) (T : Txt mg) (XS : Xs ⟨P, w, K, mg, base⟩) (E1 : D_is_within ⟨P, w, K, mg, base⟩) (E2 : D_look_at_rooms ⟨P, w, K, mg, base⟩) (E3 : D_look_at_steps ⟨P, w, K, mg, base⟩) : Fn ⟨P, w, K, mg, base⟩ 5 f fd P_look_at (up rLookMm) := by
  refine okA F sc_look_at (fun args O Φ Ξ h => ?_) (fun cdv A outer s H E as0 F0 args O Φ Ξ hr h => ?_)
  · first | (obtain ⟨rfl, _⟩ := h; rfl) | (obtain ⟨_, rfl, _⟩ := h; rfl) | (obtain ⟨_, _, rfl, _⟩ := h; rfl) | (obtain ⟨_, _, _, rfl, _⟩ := h; rfl) | (obtain ⟨_, _, _, _, rfl, _⟩ := h; rfl) | (obtain ⟨_, _, _, _, _, rfl, _⟩ := h; rfl) | (obtain ⟨_, _, _, _, _, _, rfl, _⟩ := h; rfl) | (obtain ⟨_, _, _, _, _, _, _, rfl, _⟩ := h; rfl) | (obtain ⟨_, _, _, _, _, _, _, _, rfl, _⟩ := h; rfl) | (obtain ⟨_, _, _, _, _, _, _, _, _, rfl, _⟩ := h; rfl) | (obtain ⟨_, _, _, _, _, _, _, _, _, _, rfl, _⟩ := h; rfl) | (obtain ⟨_, _, _, _, _, _, _, _, _, _, _, rfl, _⟩ := h; rfl)
  · skip
    obtain ⟨m, p, rfl, hM, hm, cl, q⟩ := h
    refine as_cons ?_
    repeat walk_at "go1"
    refine c_isTupM hM ?_
    repeat walk_at "go1"
    refine c_lenM hM ?_
    repeat walk_at "go1"
    refine ifnd (fun h => absurd rfl h) (fun _ => ?_)
    refine as_nil ?_
    refine as_cons (as_asg ?_)
    repeat walk_at "ge"
    refine ag_tupM rfl hM fun pf pl ps hf hl hs => ags_cons (ag_name 1 sc_look_at.nd (ags_cons (ag_name 2 sc_look_at.nd (ags_cons (ag_name 3 sc_look_at.nd (ags_cons (ag_name 4 sc_look_at.nd (ags_nil ?_))))))))
    have h0 := hm.n0
    have h1 := hm.n1
    refine as_cons ?_
    repeat walk_at "go1"
    refine ⟨_, _, _, rfl, ?_⟩
    rw [andT (show (1 : Int) ≤ m.n by omega) (show (m.n : Int) ≤ 12 by omega)]
    repeat walk_at "go1"
    refine ⟨m.n, _, pf, m.fs, rfl, hf, hm.fs, ?_⟩
    repeat walk_at "go1"
    refine ⟨m.n, _, pl, m.ls, rfl, hl, hm.ls, ?_⟩
    repeat walk_at "go1"
    exact ⟨m.n, m.st, ps, rfl, hs, hm.st, hm.nd, hm.len, cl, as_nil (.keep q)⟩
theorem ok_look_at_word {f : Addr} {fd : FuncData} (F : Fun K "look_at_word" "look_at_word" s_look_at_word f fd) (T : Txt mg) (XS : Xs ⟨P, w, K, mg, base⟩) (E1 : D_is_sign ⟨P, w, K, mg, base⟩) : Fn ⟨P, w, K, mg, base⟩ 2 f fd P_look_at_word (up rLookWord) := by
  refine okA F sc_look_at_word (fun args O Φ Ξ h => ?_) (fun cdv A outer s H E as0 F0 args O Φ Ξ hr h => ?_)
  · obtain ⟨m, rfl, _⟩ := h
    rfl
  · obtain ⟨z, rfl, hz, q⟩ := h
    refine as_cons ?_
    repeat walk_at "go1"
    refine as_for PassesOwn.never rfl (ai_enumS rfl T.enumerate_ ?_)
    walk_at "go1"
    refine ⟨z, rfl, fun i ρ' O' => O' = O ∧ ∃ (x y : Option PV), ρ' = [some (pS z), x, y], ⟨rfl, _, _, rfl⟩, fun _ _ _ _ => trivial, ?_, ?_⟩
    · rintro i x ρ' O' hx ⟨rfl, y1, y2, rfl⟩
      obtain ⟨d, hd, rfl⟩ := enD_at hx
      rw [List.getElem?_map, Option.map_eq_some_iff] at hd
      obtain ⟨c, hc, rfl⟩ := hd
      have hi : i < 400 := by
        have h1 := (List.getElem?_eq_some_iff.mp hc).1
        have h2 := hz.len
        rw [cds_len] at h1
        omega
      refine ag_tup rfl (ags_cons (ag_name 1 sc_look_at_word.nd (ags_cons (ag_name 2 sc_look_at_word.nd (ags_nil ?_)))))
      refine as_cons ?_
      repeat walk_at "go1"
      refine ifd (fun h => by omega) (fun _ => ?_)
      repeat walk_at "go1"
      refine ⟨c, rfl, ?_⟩
      rw [hz.all c (List.mem_of_getElem? hc)]
      repeat walk_at "go1"
      exact .keep ⟨rfl, _, _, rfl⟩
    · rintro ρ' O' ⟨rfl, y1, y2, rfl⟩
      exact as_nil (.keep q)
end
end K29
set_option pp.maxSteps 1200
namespace K29
open PySem PySem.Spec L2 Al
open PyProof.Rows hiding St
local macro_rules | `(tactic| walk_at "v") => `(tactic| first | refine ae_var 0 rfl ?_ | refine ae_var 1 rfl ?_ | refine ae_var 2 rfl ?_ | refine ae_var 3 rfl ?_ | refine ae_var 4 rfl ?_ | refine ae_var 5 rfl ?_ | refine ae_var 6 rfl ?_ | refine ae_var 7 rfl ?_ | refine ae_var 8 rfl ?_ | refine ae_var 9 rfl ?_ | refine ae_var 10 rfl ?_ | refine ae_var 11 rfl ?_ | refine ae_var 12 rfl ?_ | refine ae_var 13 rfl ?_ | refine ae_var 14 rfl ?_ | refine ae_var 15 rfl ?_ | refine ae_var 16 rfl ?_ | refine ae_var 17 rfl ?_ | refine ae_var 18 rfl ?_ | refine ae_var 19 rfl ?_ | refine ae_ty (Txt.int_ ‹_›) boot_int ?_ | refine ae_ty (Txt.str_ ‹_›) boot_str ?_ | refine ae_ty (Txt.bool_ ‹_›) boot_bool ?_ | refine ae_ty (Txt.list_ ‹_›) boot_list ?_ | refine ae_ty (Txt.tuple_ ‹_›) boot_tuple ?_ | refine ae_globS (Txt.LETTERS ‹_›).choose_spec ?_ | refine ae_globI (Txt.MOST_ROOMS ‹_›).choose_spec ?_ | refine ae_globI (Txt.MOST_STEPS ‹_›).choose_spec ?_ | refine ae_globI (Txt.MOST_WORD ‹_›).choose_spec ?_)
local macro_rules | `(tactic| walk_at "ge") => `(tactic| first
  | ((with_reducible show ite (true = true) _ _); refine iteT ?_)
  | ((with_reducible show ite (false = true) _ _); refine iteF ?_)
  | ((with_reducible show ite ((!true) = true) _ _); refine iteF ?_)
  | ((with_reducible show ite ((!false) = true) _ _); refine iteT ?_)
  | ((with_reducible show IsB _ _ _); refine isB_mk ?_)
  | ((with_reducible show AE _ (Expr.Name _ _) _ _ _); walk_at "v")
  | ((with_reducible show AE _ (Expr.Constant (Const.int _) _ _) _ _ _); refine ae_int ?_)
  | ((with_reducible show AE _ (Expr.Constant (Const.str _) _ _) _ _ _); refine ae_str ?_)
  | ((with_reducible show AE _ (Expr.Constant (Const.bool _) _ _) _ _ _); refine ae_bl ?_)
  | ((with_reducible show AE _ (Expr.Constant Const.none _ _) _ _ _); refine ae_non ?_)
  | ((with_reducible show AO1 _ (some _) _ _ _); refine ao_some ?_)
  | ((with_reducible show AO1 _ none _ _ _); refine ao_none ?_)
  | ((with_reducible show AE _ (Expr.BinOp _ _ _ _) _ _ _); refine ae_bin ?_)
  | ((with_reducible show AE _ (Expr.Compare _ [_] [_] _) _ _ _); refine ae_cmp ?_)
  | ((with_reducible show AE _ (Expr.Compare _ [_, _] [_, _] _) _ _ _); refine ae_chain ?_)
  | ((with_reducible show AE _ (Expr.Subscript _ (Expr.Slice none none (some _) _) _) _ _ _); refine ae_revS ?_)
  | ((with_reducible show AE _ (Expr.Subscript _ (Expr.Slice _ _ _ _) _) _ _ _); fail)
  | ((with_reducible show AE _ (Expr.Subscript _ _ _) _ _ _); refine ae_ix ?_)
  | ((with_reducible show AE _ (Expr.BoolOp _ [_] _) _ _ _); refine ae_one ?_)
  | ((with_reducible show AE _ (Expr.BoolOp BoolOp.And _ _) _ _ _); refine ae_and ?_)
  | ((with_reducible show AE _ (Expr.BoolOp BoolOp.Or _ _) _ _ _); refine ae_or ?_)
  | ((with_reducible show AE _ (Expr.UnaryOp UnaryOp.Not _ _) _ _ _); refine ae_not ?_)
  | ((with_reducible show AE _ (Expr.UnaryOp _ _ _) _ _ _); refine ae_un ?_)
  | ((with_reducible show AE _ (Expr.IfExp _ _ _ _) _ _ _); refine ae_if ?_)
  | ((with_reducible show AT _ (Expr.Compare _ [_] [_] _) _ _ _); refine at_cmp ?_)
  | ((with_reducible show AT _ (Expr.Compare _ [_, _] [_, _] _) _ _ _); refine at_chain ?_)
  | ((with_reducible show AT _ (Expr.UnaryOp UnaryOp.Not _ _) _ _ _); refine at_not ?_)
  | ((with_reducible show AT _ (Expr.BoolOp _ _ _) _ _ _); refine at_w ?_)
  | ((with_reducible show AT _ (Expr.Call _ _ _ _) _ _ _); refine at_val ?_)
  | ((with_reducible show AT _ (Expr.Name _ _) _ _ _); refine at_val ?_)
  | ((with_reducible show AW _ (Expr.BoolOp BoolOp.And [_] _) _ _ _); refine aw_and1 ?_)
  | ((with_reducible show AW _ (Expr.BoolOp BoolOp.Or [_] _) _ _ _); refine aw_or1 ?_)
  | ((with_reducible show AW _ (Expr.BoolOp BoolOp.And _ _) _ _ _); refine aw_and ?_)
  | ((with_reducible show AW _ (Expr.BoolOp BoolOp.Or _ _) _ _ _); refine aw_or ?_)
  | ((with_reducible show AA _ [] _ _ _); refine aa_nil ?_)
  | ((with_reducible show AA _ (_ :: _) _ _ _); refine aa_cons ?_)
  | ((with_reducible show BinA _ (binaryOp Operator.Add) (PV.d (PyData.int _)) (PV.d (PyData.int _)) _ _); refine b_add ?_)
  | ((with_reducible show BinA _ (binaryOp Operator.Sub) (PV.d (PyData.int _)) (PV.d (PyData.int _)) _ _); refine b_sub ?_)
  | ((with_reducible show BinA _ (compareOp CmpOp.Lt) (PV.d (PyData.int _)) (PV.d (PyData.int _)) _ _); refine b_lt ?_)
  | ((with_reducible show BinA _ (compareOp CmpOp.LtE) (PV.d (PyData.int _)) (PV.d (PyData.int _)) _ _); refine b_le ?_)
  | ((with_reducible show BinA _ (compareOp CmpOp.Gt) (PV.d (PyData.int _)) (PV.d (PyData.int _)) _ _); refine b_gt ?_)
  | ((with_reducible show BinA _ (compareOp CmpOp.GtE) (PV.d (PyData.int _)) (PV.d (PyData.int _)) _ _); refine b_ge ?_)
  | ((with_reducible show BinA _ (compareOp CmpOp.Eq) (PV.d (PyData.int _)) (PV.d (PyData.int _)) _ _); refine b_eqI ?_)
  | ((with_reducible show BinA _ (compareOp CmpOp.NotEq) (PV.d (PyData.int _)) (PV.d (PyData.int _)) _ _); refine b_neI ?_)
  | ((with_reducible show BinA _ (compareOp CmpOp.Eq) (PV.d (PyData.str _)) (PV.d (PyData.str _)) _ _); refine b_eqS ?_)
  | ((with_reducible show BinA _ (compareOp CmpOp.NotEq) (PV.d (PyData.str _)) (PV.d (PyData.str _)) _ _); refine b_neS ?_)
  | ((with_reducible show BinA _ (compareOp CmpOp.LtE) (PV.d (PyData.str _)) (PV.d (PyData.str _)) _ _); refine b_leS ?_)
  | ((with_reducible show BinA _ (compareOp CmpOp.Lt) (PV.d (PyData.str _)) (PV.d (PyData.str _)) _ _); refine b_ltS ?_)
  | ((with_reducible show BinA _ (compareOp CmpOp.Eq) (PV.d (PyData.bool _)) (PV.d (PyData.bool _)) _ _); refine b_eqB ?_)
  | ((with_reducible show AE _ (Expr.Call (Expr.Name "int" _) _ [] _) _ _ _); refine ae_callTy rfl (Txt.int_ ‹_›) boot_int ?_)
  | ((with_reducible show AE _ (Expr.Call (Expr.Name "isinstance" _) _ [] _) _ _ _); refine ae_callB rfl (Txt.isi_ ‹_›) boot_isinstance ?_)
  | ((with_reducible show AE _ (Expr.Call (Expr.Name "len" _) _ [] _) _ _ _); refine ae_callB rfl (Txt.len_ ‹_›) PySem.boot_len ?_)
  | ((with_reducible show AE _ (Expr.Call (Expr.Name "list" _) _ [] _) _ _ _); refine ae_callTy rfl (Txt.list_ ‹_›) boot_list ?_)
  | ((with_reducible show AE _ (Expr.Call (Expr.Name "max" _) _ [] _) _ _ _); refine ae_callB rfl (Txt.max_ ‹_›) boot_max ?_)
  | ((with_reducible show AE _ (Expr.Call (Expr.Name "min" _) _ [] _) _ _ _); refine ae_callB rfl (Txt.min_ ‹_›) boot_min ?_)
  | ((with_reducible show AE _ (Expr.Call (Expr.Name "sum" _) _ [] _) _ _ _); refine ae_callB rfl (Txt.sum_ ‹_›) boot_sum ?_)
  | ((with_reducible show CallA _ (Value.builtin "isinstance") [PV.d _, PV.v (V.ty "int")] _ _); refine c_isInt ?_)
  | ((with_reducible show CallA _ (Value.builtin "isinstance") [PV.d _, PV.v (V.ty "str")] _ _); refine c_isStr ?_)
  | ((with_reducible show CallA _ (Value.builtin "isinstance") [PV.d _, PV.v (V.ty "bool")] _ _); refine c_isBool ?_)
  | ((with_reducible show CallA _ (Value.builtin "isinstance") [PV.d _, PV.v (V.ty "list")] _ _); refine c_isList ?_)
  | ((with_reducible show CallA _ (Value.builtin "isinstance") [PV.d _, PV.v (V.ty "tuple")] _ _); refine c_isTup ?_)
  | ((with_reducible show CallA _ (Value.builtin "len") [PV.d (PyData.list _)] _ _); refine c_lenL ?_)
  | ((with_reducible show CallA _ (Value.builtin "len") [PV.d (PyData.tuple _)] _ _); refine c_lenT ?_)
  | ((with_reducible show CallA _ (Value.builtin "sum") [PV.d (PyData.list (List.map PyData.int _))] _ _); refine c_sum rfl ?_)
  | ((with_reducible show CallA _ (Value.type "int") [PV.d (PyData.bool _)] _ _); refine c_intB ?_)
  | ((with_reducible show AE _ (Expr.Call (Expr.Attribute _ "append" _) _ _ _) _ _ _); refine ae_bm PySem.F.plainAttrs_list PySem.F.slot_list_append PySem.F.type_list_append ?_)
  | ((with_reducible show BinA _ (inplaceOp Operator.Add) (PV.d (PyData.int _)) (PV.d (PyData.int _)) _ _); refine ib_add ?_)
  | ((with_reducible show UnA _ (unaryOp UnaryOp.USub) (PV.d (PyData.int _)) _ _); refine u_neg ?_)
  | ((with_reducible show IxA _ (PV.d (mD _)) (PV.d (PyData.int 0)) _ _); refine ixm0 ?_)
  | ((with_reducible show IxA _ (PV.d (mD _)) (PV.d (PyData.int 1)) _ _); refine ixm1 ?_)
  | ((with_reducible show IxA _ (PV.d (mD _)) (PV.d (PyData.int 2)) _ _); refine ixm2 ?_)
  | ((with_reducible show IxA _ (PV.d (mD _)) (PV.d (PyData.int 3)) _ _); refine ixm3 ?_)
  | ((with_reducible show IxA _ (PV.d (stD _)) (PV.d (PyData.int 0)) _ _); refine ixs0 ?_)
  | ((with_reducible show IxA _ (PV.d (stD _)) (PV.d (PyData.int 1)) _ _); refine ixs1 ?_)
  | ((with_reducible show IxA _ (PV.d (stD _)) (PV.d (PyData.int 2)) _ _); refine ixs2 ?_))
local macro_rules | `(tactic| walk_at "go1") => `(tactic| first
  | walk_at "ge"
  | ((with_reducible show ASs _ (_ :: _) _ _ _); refine as_cons ?_)
  | ((with_reducible show ASs _ [] _ _ _); refine as_nil ?_)
  | ((with_reducible show AS _ (Stmt.Return (some _) _) _ _ _); refine as_ret ?_)
  | ((with_reducible show AS _ (Stmt.If _ _ _ _) _ _ _); refine as_if ?_)
  | ((with_reducible show AS _ (Stmt.Expr _ _) _ _ _); refine as_expr ?_))
local macro_rules | `(tactic| walk_at "fld") => `(tactic| (refine ae_fld ?_; refine ae_var 0 rfl ?_; refine ⟨_, "Reader", _, _, rfl, by assumption, Xs.k_Reader ‹_›, ?_, rfl, ?_⟩; (first | exact Xs.f_Reader_read_machine ‹_› | exact Xs.f_Reader_word ‹_› | exact Xs.f_Reader_vectors ‹_›)))
local macro_rules | `(tactic| walk_at "ge") => `(tactic| first | ((with_reducible show AE _ (Expr.Attribute (Expr.Name "self" _) _ _) _ _ _); walk_at "fld") | ((with_reducible show AT _ (Expr.Attribute _ _ _) _ _ _); refine at_val ?_))
section
variable {P : Program} {w : World} {K : PySem.W.Frag} {mg : Str → Option Value} {base : Heap}
theorem ok_copied {f : Addr} {fd : FuncData} (F : Fun K "copied" "copied" s_copied f fd) (T : Txt mg) (XS : Xs ⟨P, w, K, mg, base⟩) : Fn ⟨P, w, K, mg, base⟩ 1 f fd P_copied (up rCopiedM) := by
  refine okA F sc_copied (fun args O Φ Ξ h => ?_) (fun cdv A outer s H E as0 F0 args O Φ Ξ hr h => ?_)
  · first | (obtain ⟨rfl, _⟩ := h; rfl) | (obtain ⟨_, rfl, _⟩ := h; rfl) | (obtain ⟨_, _, rfl, _⟩ := h; rfl) | (obtain ⟨_, _, _, rfl, _⟩ := h; rfl) | (obtain ⟨_, _, _, _, rfl, _⟩ := h; rfl) | (obtain ⟨_, _, _, _, _, rfl, _⟩ := h; rfl) | (obtain ⟨_, _, _, _, _, _, rfl, _⟩ := h; rfl) | (obtain ⟨_, _, _, _, _, _, _, rfl, _⟩ := h; rfl) | (obtain ⟨_, _, _, _, _, _, _, _, rfl, _⟩ := h; rfl) | (obtain ⟨_, _, _, _, _, _, _, _, _, rfl, _⟩ := h; rfl) | (obtain ⟨_, _, _, _, _, _, _, _, _, _, rfl, _⟩ := h; rfl) | (obtain ⟨_, _, _, _, _, _, _, _, _, _, _, rfl, _⟩ := h; rfl)
  · skip
    obtain ⟨m, p, rfl, hM, q⟩ := h
    refine as_cons (as_asg ?_)
    repeat walk_at "go1"
    refine ag_tupM rfl hM fun pf pl ps hf hl hs => ?_
    refine ags_cons (ag_name 1 sc_copied.nd (ags_cons (ag_name 2 sc_copied.nd (ags_cons (ag_name 3 sc_copied.nd (ags_cons (ag_name 4 sc_copied.nd (ags_nil ?_))))))))
    refine as_cons (as_ret (ae_tupD ?_))
    repeat walk_at "go1"
    refine c_listD hf ?_
    repeat walk_at "go1"
    refine c_listD hl ?_
    repeat walk_at "go1"
    refine c_listD hs ?_
    repeat walk_at "go1"
    exact ⟨[iD m.n, rmsD m.fs, rmsD m.ls, stsD m.st], rfl, by show 4 ≤ 16000000; decide, .keep q⟩
theorem ok_alone_at {f : Addr} {fd : FuncData} (F : Fun K "alone_at" "alone_at" s_alone_at f fd) (T : Txt mg) (XS : Xs ⟨P, w, K, mg, base⟩) : Fn ⟨P, w, K, mg, base⟩ 1 f fd P_alone_at (up rAloneM) := by
  refine okA F sc_alone_at (fun args O Φ Ξ h => ?_) (fun cdv A outer s H E as0 F0 args O Φ Ξ hr h => ?_)
  · first | (obtain ⟨rfl, _⟩ := h; rfl) | (obtain ⟨_, rfl, _⟩ := h; rfl) | (obtain ⟨_, _, rfl, _⟩ := h; rfl) | (obtain ⟨_, _, _, rfl, _⟩ := h; rfl) | (obtain ⟨_, _, _, _, rfl, _⟩ := h; rfl) | (obtain ⟨_, _, _, _, _, rfl, _⟩ := h; rfl) | (obtain ⟨_, _, _, _, _, _, rfl, _⟩ := h; rfl) | (obtain ⟨_, _, _, _, _, _, _, rfl, _⟩ := h; rfl) | (obtain ⟨_, _, _, _, _, _, _, _, rfl, _⟩ := h; rfl) | (obtain ⟨_, _, _, _, _, _, _, _, _, rfl, _⟩ := h; rfl) | (obtain ⟨_, _, _, _, _, _, _, _, _, _, rfl, _⟩ := h; rfl) | (obtain ⟨_, _, _, _, _, _, _, _, _, _, _, rfl, _⟩ := h; rfl)
  · skip
    obtain ⟨m, p, q0, rs, rfl, hM, hR, hn, q⟩ := h
    refine as_cons (as_ret ?_)
    refine ae_lc (own := [("room", 2)]) (g := gName 2) rfl sc_alone_at.nd (blkOk_by (N := N_alone_at) (sc := defScope s_alone_at) (by decide +kernel)) (fun _ _ _ _ _ => (pg_name (i := 2) sc_alone_at.nd rfl (.inl rfl))) (wipes_name (by decide)) mono_name ?_
    refine lc_mapG (α := Nat) mono_name (ai_range1 rfl T.range_ ?_)
    repeat walk_at "go1"
    refine ixM0 hM ?_
    repeat walk_at "go1"
    refine ⟨_, rfl, by omega, by omega, List.range m.n, fun i => .d (iD i), fun r => .int (if decide (r ∈ rs) = true then 1 else 0), by rw [Int.toNat_natCast, rng_map], by rw [List.length_range]; omega, fun _ => trivial, ?_, ?_⟩
    · intro r hm acc
      refine agr_name (fun _ _ _ _ _ => ?_)
      repeat walk_at "go1"
      refine b_inX (isL_isD hR.app) (hu65 hr) ((shp_int _).sh (Nat.zero_le _)) ((shp_rms (k := 0) rs).sh (by decide)) ?_
      rw [any_rms]
      repeat walk_at "go1"
      exact ⟨rfl, rfl⟩
    · have e : (List.range m.n).map (fun r => PyData.int (if decide (r ∈ rs) = true then 1 else 0)) = (alone m.n rs).map PyData.int := by
        unfold alone
        rw [List.map_map]; rfl
      rw [e]
      exact .keep (.keep q)
theorem ok_moved {f : Addr} {fd : FuncData} (F : Fun K "moved" "moved" s_moved f fd) (T : Txt mg) (XS : Xs ⟨P, w, K, mg, base⟩) : Fn ⟨P, w, K, mg, base⟩ 1 f fd P_moved (up rMoved) := by
  refine okA F sc_moved (fun args O Φ Ξ h => ?_) (fun cdv A outer s H E as0 F0 args O Φ Ξ hr h => ?_)
  · first | (obtain ⟨rfl, _⟩ := h; rfl) | (obtain ⟨_, rfl, _⟩ := h; rfl) | (obtain ⟨_, _, rfl, _⟩ := h; rfl) | (obtain ⟨_, _, _, rfl, _⟩ := h; rfl) | (obtain ⟨_, _, _, _, rfl, _⟩ := h; rfl) | (obtain ⟨_, _, _, _, _, rfl, _⟩ := h; rfl) | (obtain ⟨_, _, _, _, _, _, rfl, _⟩ := h; rfl) | (obtain ⟨_, _, _, _, _, _, _, rfl, _⟩ := h; rfl) | (obtain ⟨_, _, _, _, _, _, _, _, rfl, _⟩ := h; rfl) | (obtain ⟨_, _, _, _, _, _, _, _, _, rfl, _⟩ := h; rfl) | (obtain ⟨_, _, _, _, _, _, _, _, _, _, rfl, _⟩ := h; rfl) | (obtain ⟨_, _, _, _, _, _, _, _, _, _, _, rfl, _⟩ := h; rfl)
  · skip
    obtain ⟨m, p, v, c, rfl, hm, hp, hv, q⟩ := h
    have hn := hm.n1
    refine as_cons (as_set 3 sc_moved.nd (ae_bin (ae_lstD ?_)))
    repeat walk_at "go1"
    refine ⟨[.int 0], rfl, by decide, ?_⟩
    repeat walk_at "go1"
    refine b_repO (by omega) (by omega) (sz (by simp; omega)) ?_
    repeat walk_at "go1"
    refine as_for PassesOwn.never rfl (ai_list ?_)
    repeat walk_at "go1"
    refine ⟨_, rfl, fun i ρ' O' => O' = O ++ [.lst ((mvd m.n (m.st.take i) v c).map pI)] ∧ ∃ (y1 y2 y3 : Option PV), ρ' = [some (.d (mD m)), some p, some (pS ⟨#[c]⟩), some (.o O.length), y1, y2, y3], ⟨?_, _, _, _, rfl⟩, fun _ _ _ _ => trivial, ?_, ?_⟩
    · rw [List.take_zero, mvd_nil, List.map_replicate, Int.toNat_natCast]
      show _ ++ [AO.lst (List.replicate m.n [pI 0]).flatten] = _
      rw [rep_one]
    · rintro i x ρ' O' hx ⟨rfl, y1, y2, y3, rfl⟩
      rw [List.getElem?_map, Option.map_eq_some_iff] at hx
      obtain ⟨d, hd, rfl⟩ := hx
      rw [List.getElem?_map, Option.map_eq_some_iff] at hd
      obtain ⟨t, ht, rfl⟩ := hd
      have ho := hm.st t (List.mem_of_getElem? ht)
      have ha := ho.a
      have hb := ho.b
      refine ag_tup rfl (ags_cons (ag_name 4 sc_moved.nd (ags_cons (ag_name 5 sc_moved.nd (ags_cons (ag_name 6 sc_moved.nd (ags_nil ?_)))))))
      have hO : (O ++ [AO.lst ((mvd m.n (m.st.take i) v c).map pI)])[O.length]? = some (AO.lst ((mvd m.n (m.st.take i) v c).map pI)) := by simp
      refine as_cons ?_
      repeat walk_at "go1"
      refine ifd (fun e => ?_) (fun e => ?_)
      · have e2 : t.2.1 = c := by
          have := congrArg Str.cps e
          simpa using this
        have hx := getD_of (v := mvd m.n (m.st.take i) v c) (i := t.2.2) (by rw [mvd_len]; exact hb)
        repeat walk_at "go1"
        refine as_augL ?_
        repeat walk_at "go1"
        refine ⟨O.length, t.2.2, _, pI ((mvd m.n (m.st.take i) v c).getD t.2.2 0), rfl, rfl, by omega, by omega, hO, ?_, ?_⟩
        · rw [Int.toNat_natCast, List.getElem?_map, hx]; rfl
        · repeat walk_at "go1"
          refine ix_V hp.app (by omega) ?_
          repeat walk_at "go1"
          refine ⟨hO, as_nil (as_nil (.keep ⟨?_, _, _, _, rfl⟩))⟩
          rw [take_succ_of ht, mvd_yes e2 hx, Int.toNat_natCast]
          simp [List.map_set]
      · have e2 : ¬ t.2.1 = c := fun e3 => e (by rw [e3])
        refine as_nil (as_nil (.keep ⟨?_, _, _, _, rfl⟩))
        rw [take_succ_of ht, mvd_no e2]
    · rintro ρ' O' ⟨rfl, y1, y2, y3, rfl⟩
      rw [List.length_map, List.length_map, List.take_length]
      refine as_cons ?_
      repeat walk_at "go1"
      have e : (mvd m.n m.st v c).map pI = ((mvd m.n m.st v c).map PyData.int).map PV.d := by rw [List.map_map]; rfl
      rw [e]
      exact .keep q
theorem ok_sum_at {f : Addr} {fd : FuncData} (F : Fun K "sum_at" "sum_at" s_sum_at f fd) (T : Txt mg) (XS : Xs ⟨P, w, K, mg, base⟩) : Fn ⟨P, w, K, mg, base⟩ 1 f fd P_sum_at (up rSumAt) := by
  refine okA F sc_sum_at (fun args O Φ Ξ h => ?_) (fun cdv A outer s H E as0 F0 args O Φ Ξ hr h => ?_)
  · first | (obtain ⟨rfl, _⟩ := h; rfl) | (obtain ⟨_, rfl, _⟩ := h; rfl) | (obtain ⟨_, _, rfl, _⟩ := h; rfl) | (obtain ⟨_, _, _, rfl, _⟩ := h; rfl) | (obtain ⟨_, _, _, _, rfl, _⟩ := h; rfl) | (obtain ⟨_, _, _, _, _, rfl, _⟩ := h; rfl) | (obtain ⟨_, _, _, _, _, _, rfl, _⟩ := h; rfl) | (obtain ⟨_, _, _, _, _, _, _, rfl, _⟩ := h; rfl) | (obtain ⟨_, _, _, _, _, _, _, _, rfl, _⟩ := h; rfl) | (obtain ⟨_, _, _, _, _, _, _, _, _, rfl, _⟩ := h; rfl) | (obtain ⟨_, _, _, _, _, _, _, _, _, _, rfl, _⟩ := h; rfl) | (obtain ⟨_, _, _, _, _, _, _, _, _, _, _, rfl, _⟩ := h; rfl)
  · skip
    obtain ⟨p, v, rs, rfl, hp, hrs, hl, cl, q⟩ := h
    refine as_cons (as_ret (ae_sumS rfl rfl T.sum_ ?_))
    refine ae_lc (own := [("room", 2)]) (g := gName 2) rfl sc_sum_at.nd (blkOk_by (N := N_sum_at) (sc := defScope s_sum_at) (by decide +kernel)) (fun _ _ _ _ _ => (pg_name (i := 2) sc_sum_at.nd rfl (.inl rfl))) (wipes_name (by decide)) mono_name ?_
    refine lc_map (α := Nat) mono_name (ai_list ?_)
    repeat walk_at "go1"
    refine ⟨_, rfl, Nat.le_refl _, cl, rs, fun i => .d (iD i), fun r => .int (v.getD r 0), by rw [List.map_map]; rfl, by omega, fun _ => trivial, ?_, ?_⟩
    · intro r hm acc
      refine agr_name (fun _ _ _ _ _ => ?_)
      repeat walk_at "go1"
      refine ix_V hp.app (hrs r hm) ?_
      exact ⟨rfl, rfl⟩
    · repeat walk_at "go1"
      refine ⟨rs.map fun r => v.getD r 0, 0, by rw [List.map_map]; rfl, rfl, by decide, by decide, .keep ?_⟩
      rw [Int.zero_add]
      exact q
theorem ok_rooms_in_vector {f : Addr} {fd : FuncData} (F : Fun K "rooms_in_vector" "rooms_in_vector" s_rooms_in_vector f fd) (T : Txt mg) (XS : Xs ⟨P, w, K, mg, base⟩) : Fn ⟨P, w, K, mg, base⟩ 1 f fd P_rooms_in_vector (up rInVector) := by
  refine okA F sc_rooms_in_vector (fun args O Φ Ξ h => ?_) (fun cdv A outer s H E as0 F0 args O Φ Ξ hr h => ?_)
  · first | (obtain ⟨rfl, _⟩ := h; rfl) | (obtain ⟨_, rfl, _⟩ := h; rfl) | (obtain ⟨_, _, rfl, _⟩ := h; rfl) | (obtain ⟨_, _, _, rfl, _⟩ := h; rfl) | (obtain ⟨_, _, _, _, rfl, _⟩ := h; rfl) | (obtain ⟨_, _, _, _, _, rfl, _⟩ := h; rfl) | (obtain ⟨_, _, _, _, _, _, rfl, _⟩ := h; rfl) | (obtain ⟨_, _, _, _, _, _, _, rfl, _⟩ := h; rfl) | (obtain ⟨_, _, _, _, _, _, _, _, rfl, _⟩ := h; rfl) | (obtain ⟨_, _, _, _, _, _, _, _, _, rfl, _⟩ := h; rfl) | (obtain ⟨_, _, _, _, _, _, _, _, _, _, rfl, _⟩ := h; rfl) | (obtain ⟨_, _, _, _, _, _, _, _, _, _, _, rfl, _⟩ := h; rfl)
  · skip
    obtain ⟨v, rfl, hl, q⟩ := h
    refine as_cons (as_ret ?_)
    refine ae_lc (own := [("room", 1), ("many", 2)]) (g := g2 _ 1 2) rfl sc_rooms_in_vector.nd (blkOk_by (N := N_rooms_in_vector) (sc := defScope s_rooms_in_vector) (by decide +kernel)) (fun _ _ _ _ _ => pg_tup rfl (pgs_cons (pg_name (i := 1) sc_rooms_in_vector.nd rfl (.inl rfl)) (pgs_cons (pg_name (i := 2) sc_rooms_in_vector.nd rfl (.inl rfl)) pgs_nil)) rfl rfl) (wipes2 (by decide) (by decide)) mono2 ?_
    refine lc_pureG (α := Int × Nat) mono2 (ai_enum rfl T.enumerate_ ?_)
    repeat walk_at "go1"
    refine ⟨_, rfl, v.zipIdx, _, fun p => if decide (0 < p.1) = true then some (iD p.2) else none, enD_ints v, by rw [List.length_zipIdx]; omega, fun _ => trivial, ?_, ?_⟩
    · intro p hm acc
      refine agr2 (fun _ _ _ _ _ => ats_one ?_)
      repeat walk_at "go1"
      refine ifd (fun h => ?_) (fun h => ?_)
      · intro _ _ _ _ _
        repeat walk_at "go1"
        exact ⟨rfl, _, if_pos (decide_eq_true h), rfl⟩
      · exact ⟨rfl, if_neg (by rw [decide_eq_false h]; exact Bool.false_ne_true)⟩
    · rw [inV_zip]
      exact .keep (.keep q)
end
end K29
set_option pp.maxSteps 1200
namespace K29
open PySem PySem.Spec L2 Al
open PyProof.Rows hiding St
local macro_rules | `(tactic| walk_at "v") => `(tactic| first | refine ae_var 0 rfl ?_ | refine ae_var 1 rfl ?_ | refine ae_var 2 rfl ?_ | refine ae_var 3 rfl ?_ | refine ae_var 4 rfl ?_ | refine ae_var 5 rfl ?_ | refine ae_var 6 rfl ?_ | refine ae_var 7 rfl ?_ | refine ae_var 8 rfl ?_ | refine ae_var 9 rfl ?_ | refine ae_var 10 rfl ?_ | refine ae_var 11 rfl ?_ | refine ae_var 12 rfl ?_ | refine ae_var 13 rfl ?_ | refine ae_var 14 rfl ?_ | refine ae_var 15 rfl ?_ | refine ae_var 16 rfl ?_ | refine ae_var 17 rfl ?_ | refine ae_var 18 rfl ?_ | refine ae_var 19 rfl ?_ | refine ae_ty (Txt.int_ ‹_›) boot_int ?_ | refine ae_ty (Txt.str_ ‹_›) boot_str ?_ | refine ae_ty (Txt.bool_ ‹_›) boot_bool ?_ | refine ae_ty (Txt.list_ ‹_›) boot_list ?_ | refine ae_ty (Txt.tuple_ ‹_›) boot_tuple ?_ | refine ae_globS (Txt.LETTERS ‹_›).choose_spec ?_ | refine ae_globI (Txt.MOST_ROOMS ‹_›).choose_spec ?_ | refine ae_globI (Txt.MOST_STEPS ‹_›).choose_spec ?_ | refine ae_globI (Txt.MOST_WORD ‹_›).choose_spec ?_)
local macro_rules | `(tactic| walk_at "ge") => `(tactic| first
  | ((with_reducible show ite (true = true) _ _); refine iteT ?_)
  | ((with_reducible show ite (false = true) _ _); refine iteF ?_)
  | ((with_reducible show ite ((!true) = true) _ _); refine iteF ?_)
  | ((with_reducible show ite ((!false) = true) _ _); refine iteT ?_)
  | ((with_reducible show IsB _ _ _); refine isB_mk ?_)
  | ((with_reducible show AE _ (Expr.Name _ _) _ _ _); walk_at "v")
  | ((with_reducible show AE _ (Expr.Constant (Const.int _) _ _) _ _ _); refine ae_int ?_)
  | ((with_reducible show AE _ (Expr.Constant (Const.str _) _ _) _ _ _); refine ae_str ?_)
  | ((with_reducible show AE _ (Expr.Constant (Const.bool _) _ _) _ _ _); refine ae_bl ?_)
  | ((with_reducible show AE _ (Expr.Constant Const.none _ _) _ _ _); refine ae_non ?_)
  | ((with_reducible show AO1 _ (some _) _ _ _); refine ao_some ?_)
  | ((with_reducible show AO1 _ none _ _ _); refine ao_none ?_)
  | ((with_reducible show AE _ (Expr.BinOp _ _ _ _) _ _ _); refine ae_bin ?_)
  | ((with_reducible show AE _ (Expr.Compare _ [_] [_] _) _ _ _); refine ae_cmp ?_)
  | ((with_reducible show AE _ (Expr.Compare _ [_, _] [_, _] _) _ _ _); refine ae_chain ?_)
  | ((with_reducible show AE _ (Expr.Subscript _ (Expr.Slice none none (some _) _) _) _ _ _); refine ae_revS ?_)
  | ((with_reducible show AE _ (Expr.Subscript _ (Expr.Slice _ _ _ _) _) _ _ _); fail)
  | ((with_reducible show AE _ (Expr.Subscript _ _ _) _ _ _); refine ae_ix ?_)
  | ((with_reducible show AE _ (Expr.BoolOp _ [_] _) _ _ _); refine ae_one ?_)
  | ((with_reducible show AE _ (Expr.BoolOp BoolOp.And _ _) _ _ _); refine ae_and ?_)
  | ((with_reducible show AE _ (Expr.BoolOp BoolOp.Or _ _) _ _ _); refine ae_or ?_)
  | ((with_reducible show AE _ (Expr.UnaryOp UnaryOp.Not _ _) _ _ _); refine ae_not ?_)
  | ((with_reducible show AE _ (Expr.UnaryOp _ _ _) _ _ _); refine ae_un ?_)
  | ((with_reducible show AE _ (Expr.IfExp _ _ _ _) _ _ _); refine ae_if ?_)
  | ((with_reducible show AT _ (Expr.Compare _ [_] [_] _) _ _ _); refine at_cmp ?_)
  | ((with_reducible show AT _ (Expr.Compare _ [_, _] [_, _] _) _ _ _); refine at_chain ?_)
  | ((with_reducible show AT _ (Expr.UnaryOp UnaryOp.Not _ _) _ _ _); refine at_not ?_)
  | ((with_reducible show AT _ (Expr.BoolOp _ _ _) _ _ _); refine at_w ?_)
  | ((with_reducible show AT _ (Expr.Call _ _ _ _) _ _ _); refine at_val ?_)
  | ((with_reducible show AT _ (Expr.Name _ _) _ _ _); refine at_val ?_)
  | ((with_reducible show AW _ (Expr.BoolOp BoolOp.And [_] _) _ _ _); refine aw_and1 ?_)
  | ((with_reducible show AW _ (Expr.BoolOp BoolOp.Or [_] _) _ _ _); refine aw_or1 ?_)
  | ((with_reducible show AW _ (Expr.BoolOp BoolOp.And _ _) _ _ _); refine aw_and ?_)
  | ((with_reducible show AW _ (Expr.BoolOp BoolOp.Or _ _) _ _ _); refine aw_or ?_)
  | ((with_reducible show AA _ [] _ _ _); refine aa_nil ?_)
  | ((with_reducible show AA _ (_ :: _) _ _ _); refine aa_cons ?_)
  | ((with_reducible show BinA _ (binaryOp Operator.Add) (PV.d (PyData.int _)) (PV.d (PyData.int _)) _ _); refine b_add ?_)
  | ((with_reducible show BinA _ (binaryOp Operator.Sub) (PV.d (PyData.int _)) (PV.d (PyData.int _)) _ _); refine b_sub ?_)
  | ((with_reducible show BinA _ (compareOp CmpOp.Lt) (PV.d (PyData.int _)) (PV.d (PyData.int _)) _ _); refine b_lt ?_)
  | ((with_reducible show BinA _ (compareOp CmpOp.LtE) (PV.d (PyData.int _)) (PV.d (PyData.int _)) _ _); refine b_le ?_)
  | ((with_reducible show BinA _ (compareOp CmpOp.Gt) (PV.d (PyData.int _)) (PV.d (PyData.int _)) _ _); refine b_gt ?_)
  | ((with_reducible show BinA _ (compareOp CmpOp.GtE) (PV.d (PyData.int _)) (PV.d (PyData.int _)) _ _); refine b_ge ?_)
  | ((with_reducible show BinA _ (compareOp CmpOp.Eq) (PV.d (PyData.int _)) (PV.d (PyData.int _)) _ _); refine b_eqI ?_)
  | ((with_reducible show BinA _ (compareOp CmpOp.NotEq) (PV.d (PyData.int _)) (PV.d (PyData.int _)) _ _); refine b_neI ?_)
  | ((with_reducible show BinA _ (compareOp CmpOp.Eq) (PV.d (PyData.str _)) (PV.d (PyData.str _)) _ _); refine b_eqS ?_)
  | ((with_reducible show BinA _ (compareOp CmpOp.NotEq) (PV.d (PyData.str _)) (PV.d (PyData.str _)) _ _); refine b_neS ?_)
  | ((with_reducible show BinA _ (compareOp CmpOp.LtE) (PV.d (PyData.str _)) (PV.d (PyData.str _)) _ _); refine b_leS ?_)
  | ((with_reducible show BinA _ (compareOp CmpOp.Lt) (PV.d (PyData.str _)) (PV.d (PyData.str _)) _ _); refine b_ltS ?_)
  | ((with_reducible show BinA _ (compareOp CmpOp.Eq) (PV.d (PyData.bool _)) (PV.d (PyData.bool _)) _ _); refine b_eqB ?_)
  | ((with_reducible show AE _ (Expr.Call (Expr.Name "int" _) _ [] _) _ _ _); refine ae_callTy rfl (Txt.int_ ‹_›) boot_int ?_)
  | ((with_reducible show AE _ (Expr.Call (Expr.Name "isinstance" _) _ [] _) _ _ _); refine ae_callB rfl (Txt.isi_ ‹_›) boot_isinstance ?_)
  | ((with_reducible show AE _ (Expr.Call (Expr.Name "len" _) _ [] _) _ _ _); refine ae_callB rfl (Txt.len_ ‹_›) PySem.boot_len ?_)
  | ((with_reducible show AE _ (Expr.Call (Expr.Name "list" _) _ [] _) _ _ _); refine ae_callTy rfl (Txt.list_ ‹_›) boot_list ?_)
  | ((with_reducible show AE _ (Expr.Call (Expr.Name "max" _) _ [] _) _ _ _); refine ae_callB rfl (Txt.max_ ‹_›) boot_max ?_)
  | ((with_reducible show AE _ (Expr.Call (Expr.Name "min" _) _ [] _) _ _ _); refine ae_callB rfl (Txt.min_ ‹_›) boot_min ?_)
  | ((with_reducible show AE _ (Expr.Call (Expr.Name "sum" _) _ [] _) _ _ _); refine ae_callB rfl (Txt.sum_ ‹_›) boot_sum ?_)
  | ((with_reducible show AE _ (Expr.Call (Expr.Name "look_at" _) _ [] _) _ _ _); refine ae_callA ‹D_look_at _› (RoomG.mono ‹_› (by first | decide | omega)) ?_)
  | ((with_reducible show AE _ (Expr.Call (Expr.Name "copied" _) _ [] _) _ _ _); refine ae_callA ‹D_copied _› (RoomG.mono ‹_› (by first | decide | omega)) ?_)
  | ((with_reducible show AE _ (Expr.Call (Expr.Name "alone_at" _) _ [] _) _ _ _); refine ae_callF ‹D_alone_at _› (RoomG.mono ‹_› (by first | decide | omega)) ?_)
  | ((with_reducible show AE _ (Expr.Call (Expr.Name "moved" _) _ [] _) _ _ _); refine ae_callF ‹D_moved _› (RoomG.mono ‹_› (by first | decide | omega)) ?_)
  | ((with_reducible show AE _ (Expr.Call (Expr.Name "is_sign" _) _ [] _) _ _ _); refine ae_callA ‹D_is_sign _› (RoomG.mono ‹_› (by first | decide | omega)) ?_)
  | ((with_reducible show AE _ (Expr.Call (Expr.Name "look_at_word" _) _ [] _) _ _ _); refine ae_callA ‹D_look_at_word _› (RoomG.mono ‹_› (by first | decide | omega)) ?_)
  | ((with_reducible show AE _ (Expr.Call (Expr.Name "is_whole" _) _ [] _) _ _ _); refine ae_callA ‹D_is_whole _› (RoomG.mono ‹_› (by first | decide | omega)) ?_)
  | ((with_reducible show CallA _ (Value.builtin "isinstance") [PV.d _, PV.v (V.ty "int")] _ _); refine c_isInt ?_)
  | ((with_reducible show CallA _ (Value.builtin "isinstance") [PV.d _, PV.v (V.ty "str")] _ _); refine c_isStr ?_)
  | ((with_reducible show CallA _ (Value.builtin "isinstance") [PV.d _, PV.v (V.ty "bool")] _ _); refine c_isBool ?_)
  | ((with_reducible show CallA _ (Value.builtin "isinstance") [PV.d _, PV.v (V.ty "list")] _ _); refine c_isList ?_)
  | ((with_reducible show CallA _ (Value.builtin "isinstance") [PV.d _, PV.v (V.ty "tuple")] _ _); refine c_isTup ?_)
  | ((with_reducible show CallA _ (Value.builtin "len") [PV.d (PyData.list _)] _ _); refine c_lenL ?_)
  | ((with_reducible show CallA _ (Value.builtin "len") [PV.d (PyData.tuple _)] _ _); refine c_lenT ?_)
  | ((with_reducible show CallA _ (Value.builtin "sum") [PV.d (PyData.list (List.map PyData.int _))] _ _); refine c_sum rfl ?_)
  | ((with_reducible show CallA _ (Value.type "int") [PV.d (PyData.bool _)] _ _); refine c_intB ?_)
  | ((with_reducible show AE _ (Expr.Call (Expr.Attribute _ "append" _) _ _ _) _ _ _); refine ae_bm PySem.F.plainAttrs_list PySem.F.slot_list_append PySem.F.type_list_append ?_)
  | ((with_reducible show BinA _ (inplaceOp Operator.Add) (PV.d (PyData.int _)) (PV.d (PyData.int _)) _ _); refine ib_add ?_)
  | ((with_reducible show UnA _ (unaryOp UnaryOp.USub) (PV.d (PyData.int _)) _ _); refine u_neg ?_)
  | ((with_reducible show IxA _ (PV.d (mD _)) (PV.d (PyData.int 0)) _ _); refine ixm0 ?_)
  | ((with_reducible show IxA _ (PV.d (mD _)) (PV.d (PyData.int 1)) _ _); refine ixm1 ?_)
  | ((with_reducible show IxA _ (PV.d (mD _)) (PV.d (PyData.int 2)) _ _); refine ixm2 ?_)
  | ((with_reducible show IxA _ (PV.d (mD _)) (PV.d (PyData.int 3)) _ _); refine ixm3 ?_)
  | ((with_reducible show IxA _ (PV.d (stD _)) (PV.d (PyData.int 0)) _ _); refine ixs0 ?_)
  | ((with_reducible show IxA _ (PV.d (stD _)) (PV.d (PyData.int 1)) _ _); refine ixs1 ?_)
  | ((with_reducible show IxA _ (PV.d (stD _)) (PV.d (PyData.int 2)) _ _); refine ixs2 ?_))
local macro_rules | `(tactic| walk_at "go1") => `(tactic| first
  | walk_at "ge"
  | ((with_reducible show ASs _ (_ :: _) _ _ _); refine as_cons ?_)
  | ((with_reducible show ASs _ [] _ _ _); refine as_nil ?_)
  | ((with_reducible show AS _ (Stmt.Return (some _) _) _ _ _); refine as_ret ?_)
  | ((with_reducible show AS _ (Stmt.If _ _ _ _) _ _ _); refine as_if ?_)
  | ((with_reducible show AS _ (Stmt.Expr _ _) _ _ _); refine as_expr ?_))
local macro_rules | `(tactic| walk_at "fld") => `(tactic| (refine ae_fld ?_; refine ae_var 0 rfl ?_; refine ⟨_, "Reader", _, _, rfl, by assumption, Xs.k_Reader ‹_›, ?_, rfl, ?_⟩; (first | exact Xs.f_Reader_read_machine ‹_› | exact Xs.f_Reader_word ‹_› | exact Xs.f_Reader_vectors ‹_›)))
local macro_rules | `(tactic| walk_at "ge") => `(tactic| first | ((with_reducible show AE _ (Expr.Attribute (Expr.Name "self" _) _ _) _ _ _); walk_at "fld") | ((with_reducible show AT _ (Expr.Attribute _ _ _) _ _ _); refine at_val ?_))
section
variable {P : Program} {w : World} {K : PySem.W.Frag} {mg : Str → Option Value} {base : Heap}
theorem ok_Reader___init__ {f : Addr} {fd : FuncData} (F : Fun K "__init__" "Reader.__init__" s_Reader___init__ f fd) (T : Txt mg) (XS : Xs ⟨P, w, K, mg, base⟩) (E1 : D_look_at ⟨P, w, K, mg, base⟩) (E2 : D_copied ⟨P, w, K, mg, base⟩) (E3 : D_alone_at ⟨P, w, K, mg, base⟩) : Fn ⟨P, w, K, mg, base⟩ 6 f fd P_Reader___init__ (up rReaderNewM) := by
  refine okA F sc_Reader___init__ (fun args O Φ Ξ h => ?_) (fun cdv A outer s H E as0 F0 args O Φ Ξ hr h => ?_)
  · first | (obtain ⟨rfl, _⟩ := h; rfl) | (obtain ⟨_, rfl, _⟩ := h; rfl) | (obtain ⟨_, _, rfl, _⟩ := h; rfl) | (obtain ⟨_, _, _, rfl, _⟩ := h; rfl) | (obtain ⟨_, _, _, _, rfl, _⟩ := h; rfl) | (obtain ⟨_, _, _, _, _, rfl, _⟩ := h; rfl) | (obtain ⟨_, _, _, _, _, _, rfl, _⟩ := h; rfl) | (obtain ⟨_, _, _, _, _, _, _, rfl, _⟩ := h; rfl) | (obtain ⟨_, _, _, _, _, _, _, _, rfl, _⟩ := h; rfl) | (obtain ⟨_, _, _, _, _, _, _, _, _, rfl, _⟩ := h; rfl) | (obtain ⟨_, _, _, _, _, _, _, _, _, _, rfl, _⟩ := h; rfl) | (obtain ⟨_, _, _, _, _, _, _, _, _, _, _, rfl, _⟩ := h; rfl)
  · skip
    obtain ⟨n, p, m, rfl, hO, hM, hm, cl, q⟩ := h
    have hnn := hm.n1
    have hn : n < O.length := (List.getElem?_eq_some_iff.mp hO).1
    have hset : ∀ X, (O.set n X)[n]? = some X := fun X => List.getElem?_set_self hn
    have happ : ∀ (X : AO) (l : Own), (O.set n X ++ l)[n]? = some X := fun X l => by
      rw [List.getElem?_append_left (by rw [List.length_set]; exact hn)]; exact hset X
    have sapp : ∀ (X Y : AO) (l : Own), (O.set n X ++ l).set n Y = O.set n Y ++ l := fun X Y l => by
      rw [List.set_append_left _ _ (by rw [List.length_set]; exact hn), List.set_set]
    refine as_cons ?_
    repeat walk_at "go1"
    refine ⟨m, p, rfl, hM, hm, cl, ?_⟩
    refine as_cons (as_asg ?_)
    repeat walk_at "ge"
    refine ⟨m, p, rfl, hM, ?_⟩
    refine ag_fld (ae_var 0 rfl ?_)
    refine ⟨n, "Reader", _, rfl, hO, XS.k_Reader, XS.f_Reader_read_machine, by repeat (first | decide | refine putP_lt ?_), ?_⟩
    refine as_cons (as_asg ?_)
    repeat walk_at "ge"
    refine ag_fld (ae_var 0 rfl ?_)
    refine ⟨n, "Reader", _, rfl, hset _, XS.k_Reader, XS.f_Reader_word, by repeat (first | decide | refine putP_lt ?_), ?_⟩
    rw [List.set_set]
    refine as_cons (as_asg (ae_lstO ?_))
    repeat walk_at "ge"
    refine ixM1 (hM.set_ins hO) fun pf hf => ?_
    repeat walk_at "ge"
    refine ⟨m, p, pf, m.fs, rfl, hM.set_ins hO, hf, by omega, gh_list0 (cl_set cl rfl) (Nat.le_refl _) ?_⟩
    repeat walk_at "ge"
    refine ⟨by show 1 ≤ 16000000; decide, ?_⟩
    rw [List.length_set]
    refine ag_fld (ae_var 0 rfl ?_)
    refine ⟨n, "Reader", _, rfl, happ _ _, XS.k_Reader, XS.f_Reader_vectors, by repeat (first | decide | refine putP_lt ?_), ?_⟩
    rw [sapp]
    refine as_nil (.keep ?_)
    exact q
theorem ok_Reader_go_on {f : Addr} {fd : FuncData} (F : Fun K "go_on" "Reader.go_on" s_Reader_go_on f fd) (T : Txt mg) (XS : Xs ⟨P, w, K, mg, base⟩) (E1 : D_moved ⟨P, w, K, mg, base⟩) : Fn ⟨P, w, K, mg, base⟩ 2 f fd P_Reader_go_on (up rGoOn) := by
  refine okA F sc_Reader_go_on (fun args O Φ Ξ h => ?_) (fun cdv A outer s H E as0 F0 args O Φ Ξ hr h => ?_)
  · first | (obtain ⟨rfl, _⟩ := h; rfl) | (obtain ⟨_, rfl, _⟩ := h; rfl) | (obtain ⟨_, _, rfl, _⟩ := h; rfl) | (obtain ⟨_, _, _, rfl, _⟩ := h; rfl) | (obtain ⟨_, _, _, _, rfl, _⟩ := h; rfl) | (obtain ⟨_, _, _, _, _, rfl, _⟩ := h; rfl) | (obtain ⟨_, _, _, _, _, _, rfl, _⟩ := h; rfl) | (obtain ⟨_, _, _, _, _, _, _, rfl, _⟩ := h; rfl) | (obtain ⟨_, _, _, _, _, _, _, _, rfl, _⟩ := h; rfl) | (obtain ⟨_, _, _, _, _, _, _, _, _, rfl, _⟩ := h; rfl) | (obtain ⟨_, _, _, _, _, _, _, _, _, _, rfl, _⟩ := h; rfl) | (obtain ⟨_, _, _, _, _, _, _, _, _, _, _, rfl, _⟩ := h; rfl)
  · skip
    obtain ⟨n, q0, m, z, c, rfl, hO, hq, hnq, hm, hz, cl, q⟩ := h
    have hn : n < O.length := (List.getElem?_eq_some_iff.mp hO).1
    have hq1 : q0 < O.length := (List.getElem?_eq_some_iff.mp hq).1
    have hset : ∀ X, (O.set n X)[n]? = some X := fun X => List.getElem?_set_self hn
    refine as_cons (as_augF (ae_var 0 rfl ?_))
    refine ⟨n, "Reader", _, _, rfl, hO, XS.k_Reader, XS.f_Reader_word, by repeat (first | (show (3 : Nat) < _; decide) | refine putP_lt ?_), rfl, ?_⟩
    repeat walk_at "ge"
    refine ib_addS (sz (by show z.length + 1 ≤ 16000000; omega)) ?_
    refine ⟨hO, ?_⟩
    have ez : z ++ ⟨#[c]⟩ = mkS (cds z ++ [c]) := str_ext (by rw [cds_app, cds_mkS])
    rw [ez]
    have hX : (O.set n (RdI m (mkS (cds z ++ [c])) q0))[n]? = some (RdI m (mkS (cds z ++ [c])) q0) := hset _
    have hXq : (O.set n (RdI m (mkS (cds z ++ [c])) q0))[q0]? = some (rws m (cds z)) := by rw [List.getElem?_set_ne hnq]; exact hq
    have clX : ClO (O.set n (RdI m (mkS (cds z ++ [c])) q0)) := cl_rdI cl hq1
    show ASs _ _ _ (O.set n (RdI m (mkS (cds z ++ [c])) q0)) _
    refine as_cons ?_
    repeat walk_at "go1"
    refine ⟨ty_O hXq, ?_⟩
    repeat walk_at "go1"
    refine ix_O hXq (rws_last _ _) ?_
    repeat walk_at "go1"
    refine ⟨m, _, vecR m (cds z), c, rfl, hm, isV_d, mvs_len m _ (alone_len _ _), gh_list0 clX (Nat.le_refl _) ?_⟩
    repeat walk_at "go1"
    refine m_append hXq (by rw [List.length_map, List.length_map]; unfold rowsV; rw [List.length_map, List.length_range, cds_len]; omega) ?_
    refine as_nil (.keep ?_)
    rw [rws_snoc] at q
    exact q
theorem ok_Reader_feed {f : Addr} {fd : FuncData} (F : Fun K "feed" "Reader.feed" s_Reader_feed f fd) (T : Txt mg) (XS : Xs ⟨P, w, K, mg, base⟩) (E1 : D_is_sign ⟨P, w, K, mg, base⟩) (E2 : D_Reader_go_on ⟨P, w, K, mg, base⟩) : Fn ⟨P, w, K, mg, base⟩ 3 f fd P_Reader_feed (up rFeedR) := by
  refine okA F sc_Reader_feed (fun args O Φ Ξ h => ?_) (fun cdv A outer s H E as0 F0 args O Φ Ξ hr h => ?_)
  · first | (obtain ⟨rfl, _⟩ := h; rfl) | (obtain ⟨_, rfl, _⟩ := h; rfl) | (obtain ⟨_, _, rfl, _⟩ := h; rfl) | (obtain ⟨_, _, _, rfl, _⟩ := h; rfl) | (obtain ⟨_, _, _, _, rfl, _⟩ := h; rfl) | (obtain ⟨_, _, _, _, _, rfl, _⟩ := h; rfl) | (obtain ⟨_, _, _, _, _, _, rfl, _⟩ := h; rfl) | (obtain ⟨_, _, _, _, _, _, _, rfl, _⟩ := h; rfl) | (obtain ⟨_, _, _, _, _, _, _, _, rfl, _⟩ := h; rfl) | (obtain ⟨_, _, _, _, _, _, _, _, _, rfl, _⟩ := h; rfl) | (obtain ⟨_, _, _, _, _, _, _, _, _, _, rfl, _⟩ := h; rfl) | (obtain ⟨_, _, _, _, _, _, _, _, _, _, _, rfl, _⟩ := h; rfl)
  · skip
    obtain ⟨n, q0, m, z, c, rfl, hO, hq, hnq, hm, hz, hc, cl, q⟩ := h
    refine as_cons ?_
    repeat walk_at "go1"
    refine ⟨c, rfl, ?_⟩
    rw [hc]
    repeat walk_at "go1"
    refine c_lenS (sz (by omega)) ?_
    repeat walk_at "go1"
    refine ifd (fun h1 => absurd h1 (by omega)) (fun h1 => ?_)
    refine as_nil ?_
    refine as_cons (as_expr (ae_meth E2 (hr.mono (by decide)) (ae_var 0 rfl ?_)))
    refine ⟨n, _, rfl, hO, rfl, ?_⟩
    repeat walk_at "ge"
    exact ⟨n, q0, m, z, c, rfl, hO, hq, hnq, hm, by omega, cl, as_nil (.keep q)⟩
theorem ok_Reader_take {f : Addr} {fd : FuncData} (F : Fun K "take" "Reader.take" s_Reader_take f fd) (T : Txt mg) (XS : Xs ⟨P, w, K, mg, base⟩) (E1 : D_look_at_word ⟨P, w, K, mg, base⟩) (E2 : D_Reader_go_on ⟨P, w, K, mg, base⟩) : Fn ⟨P, w, K, mg, base⟩ 3 f fd P_Reader_take (up rTakeR) := by
  refine okA F sc_Reader_take (fun args O Φ Ξ h => ?_) (fun cdv A outer s H E as0 F0 args O Φ Ξ hr h => ?_)
  · first | (obtain ⟨rfl, _⟩ := h; rfl) | (obtain ⟨_, rfl, _⟩ := h; rfl) | (obtain ⟨_, _, rfl, _⟩ := h; rfl) | (obtain ⟨_, _, _, rfl, _⟩ := h; rfl) | (obtain ⟨_, _, _, _, rfl, _⟩ := h; rfl) | (obtain ⟨_, _, _, _, _, rfl, _⟩ := h; rfl) | (obtain ⟨_, _, _, _, _, _, rfl, _⟩ := h; rfl) | (obtain ⟨_, _, _, _, _, _, _, rfl, _⟩ := h; rfl) | (obtain ⟨_, _, _, _, _, _, _, _, rfl, _⟩ := h; rfl) | (obtain ⟨_, _, _, _, _, _, _, _, _, rfl, _⟩ := h; rfl) | (obtain ⟨_, _, _, _, _, _, _, _, _, _, rfl, _⟩ := h; rfl) | (obtain ⟨_, _, _, _, _, _, _, _, _, _, _, rfl, _⟩ := h; rfl)
  · skip
    obtain ⟨n, q0, m, z, t, rfl, hO, hq, hnq, hm, ht, hl, cl, q⟩ := h
    have hn : n < O.length := (List.getElem?_eq_some_iff.mp hO).1
    have hq1 : q0 < O.length := (List.getElem?_eq_some_iff.mp hq).1
    have hct : (cds t).length = t.length := cds_len t
    have hcz : (cds z).length = z.length := cds_len z
    have hset : ∀ X Y, ((O.set n X).set q0 Y)[n]? = some X := fun X Y => by
      rw [List.getElem?_set_ne (Ne.symm hnq)]; exact List.getElem?_set_self hn
    have hseq : ∀ X Y, ((O.set n X).set q0 Y)[q0]? = some Y := fun X Y => List.getElem?_set_self (by rw [List.length_set]; exact hq1)
    have s4 : ∀ X Y X' Y', ((((O.set n X).set q0 Y).set n X').set q0 Y') = (O.set n X').set q0 Y' := fun X Y X' Y' => by
      rw [List.set_comm _ _ (Ne.symm hnq), List.set_set, List.set_set]
    refine as_cons ?_
    repeat walk_at "go1"
    refine ⟨t, rfl, ht, ?_⟩
    repeat walk_at "go1"
    refine c_lenS (sz (by omega)) ?_
    repeat walk_at "go1"
    refine c_lenS (sz (by omega)) ?_
    repeat walk_at "go1"
    refine ifd (fun h1 => absurd h1 (by omega)) (fun h1 => ?_)
    refine as_nil (as_cons ?_)
    refine as_for PassesOwn.never rfl (ai_str ?_)
    repeat walk_at "ge"
    have ez : mkS (cds z) = z := str_ext (cds_mkS _)
    refine ⟨_, rfl, fun i ρ' O' => ∃ y2 : Option PV, O' = (O.set n (RdI m (mkS (cds z ++ (cds t).take i)) q0)).set q0 (rws m (cds z ++ (cds t).take i)) ∧ ρ' = [some (.o n), some (pS t), y2], ⟨none, ?_, rfl⟩, fun _ _ _ _ => trivial, ?_, ?_⟩
    · rw [List.take_zero, List.append_nil, ez, set_same hO, set_same hq]
    · rintro i x ρ' O' hx ⟨y2, rfl, rfl⟩
      rw [chr_map, List.getElem?_map, Option.map_eq_some_iff] at hx
      obtain ⟨c, hc, rfl⟩ := hx
      have hi := (List.getElem?_eq_some_iff.mp hc).1
      refine ag_name 2 sc_Reader_take.nd ?_
      refine as_cons (as_expr (ae_meth E2 (hr.mono (by decide)) (ae_var 0 rfl ?_)))
      refine ⟨n, _, rfl, hset _ _, rfl, ?_⟩
      repeat walk_at "ge"
      refine ⟨n, q0, m, mkS (cds z ++ (cds t).take i), c, rfl, hset _ _, by rw [cds_mkS]; exact hseq _ _, hnq, hm, by rw [mkS_len, List.length_append, List.length_take]; omega, cl_set (cl_rdI cl hq1) (lst_below _), ?_⟩
      rw [s4, cds_mkS]
      have e : cds z ++ (cds t).take i ++ [c] = cds z ++ (cds t).take (i + 1) := by
        rw [List.append_assoc, List.take_add_one, hc]; rfl
      rw [e]
      exact as_nil (.keep ⟨_, rfl, rfl⟩)
    · rintro ρ' O' ⟨y2, rfl, rfl⟩
      have e : (chrP t).length = (cds t).length := by rw [chr_map, List.length_map]
      rw [e, List.take_length]
      exact as_nil (.keep q)
theorem ok_Reader_back {f : Addr} {fd : FuncData} (F : FunD K "back" "Reader.back" (defArgs s_Reader_back) (defBody s_Reader_back) (defScope s_Reader_back) [.int 1] [] f fd) (T : Txt mg) (XS : Xs ⟨P, w, K, mg, base⟩) (E1 : D_is_whole ⟨P, w, K, mg, base⟩) : Fn ⟨P, w, K, mg, base⟩ 2 f fd P_Reader_back (up rBackR) := by
  refine okAD F sc_Reader_back (fun args O Φ Ξ h => ?_) (fun cdv A outer s H E as0 F0 args O Φ Ξ hr h => ?_)
  · first | (obtain ⟨rfl, _⟩ := h; rfl) | (obtain ⟨_, rfl, _⟩ := h; rfl) | (obtain ⟨_, _, rfl, _⟩ := h; rfl) | (obtain ⟨_, _, _, rfl, _⟩ := h; rfl) | (obtain ⟨_, _, _, _, rfl, _⟩ := h; rfl) | (obtain ⟨_, _, _, _, _, rfl, _⟩ := h; rfl) | (obtain ⟨_, _, _, _, _, _, rfl, _⟩ := h; rfl) | (obtain ⟨_, _, _, _, _, _, _, rfl, _⟩ := h; rfl) | (obtain ⟨_, _, _, _, _, _, _, _, rfl, _⟩ := h; rfl) | (obtain ⟨_, _, _, _, _, _, _, _, _, rfl, _⟩ := h; rfl) | (obtain ⟨_, _, _, _, _, _, _, _, _, _, rfl, _⟩ := h; rfl) | (obtain ⟨_, _, _, _, _, _, _, _, _, _, _, rfl, _⟩ := h; rfl)
  · skip
    obtain ⟨n, q0, m, z, k, rfl, hO, hq, hnq, k1, k2, hz, cl, q⟩ := h
    have hcz : (cds z).length = z.length := cds_len z
    have hn : n < O.length := (List.getElem?_eq_some_iff.mp hO).1
    have hset : ∀ X, (O.set n X)[n]? = some X := fun X => List.getElem?_set_self hn
    have happ : ∀ (X : AO) (l : Own), (O.set n X ++ l)[n]? = some X := fun X l => by
      rw [List.getElem?_append_left (by rw [List.length_set]; exact hn)]; exact hset X
    have sapp : ∀ (X Y : AO) (l : Own), (O.set n X ++ l).set n Y = O.set n Y ++ l := fun X Y l => by
      rw [List.set_append_left _ _ (by rw [List.length_set]; exact hn), List.set_set]
    have ez : cutS z none (some ((z.length - k : Nat) : Int)) = mkS ((cds z).take (z.length - k)) := str_ext (by rw [cds_cutHi, cds_mkS])
    have ei : ((z.length : Nat) : Int) - ((k : Nat) : Int) = ((z.length - k : Nat) : Int) := by omega
    refine as_cons ?_
    repeat walk_at "go1"
    refine ⟨_, rfl, ?_⟩
    dsimp only [isWh]
    repeat walk_at "go1"
    refine ifd (fun h1 => absurd h1 (by omega)) (fun h1 => ?_)
    refine as_nil ?_
    repeat walk_at "go1"
    refine c_lenS (sz (by omega)) ?_
    repeat walk_at "go1"
    refine ifd (fun h1 => absurd h1 (by omega)) (fun h1 => ?_)
    refine as_nil ?_
    refine as_cons (as_asg (ae_slice sl_str slS_mono ?_))
    repeat walk_at "ge"
    refine c_lenS (sz (by omega)) ?_
    repeat walk_at "ge"
    refine ⟨_, rfl, ?_⟩
    refine sl_S (sz (by omega)) ?_
    rw [ei, ez]
    refine ag_fld (ae_var 0 rfl ?_)
    refine ⟨n, "Reader", _, rfl, hO, XS.k_Reader, XS.f_Reader_word, by repeat (first | (show (3 : Nat) < _; decide) | refine putP_lt ?_), ?_⟩
    have hX : (O.set n (RdI m (mkS ((cds z).take (z.length - k))) q0))[n]? = some (RdI m (mkS ((cds z).take (z.length - k))) q0) := hset _
    have hXq : (O.set n (RdI m (mkS ((cds z).take (z.length - k))) q0))[q0]? = some (rws m (cds z)) := by rw [List.getElem?_set_ne hnq]; exact hq
    show ASs _ _ _ (O.set n (RdI m (mkS ((cds z).take (z.length - k))) q0)) _
    have hlen : (mkS ((cds z).take (z.length - k))).length = z.length - k := by rw [mkS_len, List.length_take]; omega
    refine as_cons (as_asg (ae_slice sl_list slL_mono ?_))
    repeat walk_at "ge"
    refine c_lenS (sz (by rw [hlen]; omega)) ?_
    repeat walk_at "ge"
    refine ⟨_, rfl, ?_⟩
    refine sl_O hXq ?_
    rw [hlen, show ((z.length - k : Nat) : Int) + 1 = ((z.length - k + 1 : Nat) : Int) by omega, cutP_take, List.length_set, ← List.map_take, ← List.map_take, rowsV_take m m.fs (cds z) (k := z.length - k) (by omega)]
    refine ag_fld (ae_var 0 rfl ?_)
    refine ⟨n, "Reader", _, rfl, happ _ _, XS.k_Reader, XS.f_Reader_vectors, by repeat (first | (show (3 : Nat) < _; decide) | refine putP_lt ?_), ?_⟩
    rw [sapp]
    refine as_nil (.keep ?_)
    exact q
end
end K29
set_option pp.maxSteps 1200
namespace K29
open PySem PySem.Spec L2 Al
open PyProof.Rows hiding St
local macro_rules | `(tactic| walk_at "v") => `(tactic| first | refine ae_var 0 rfl ?_ | refine ae_var 1 rfl ?_ | refine ae_var 2 rfl ?_ | refine ae_var 3 rfl ?_ | refine ae_var 4 rfl ?_ | refine ae_var 5 rfl ?_ | refine ae_var 6 rfl ?_ | refine ae_var 7 rfl ?_ | refine ae_var 8 rfl ?_ | refine ae_var 9 rfl ?_ | refine ae_var 10 rfl ?_ | refine ae_var 11 rfl ?_ | refine ae_var 12 rfl ?_ | refine ae_var 13 rfl ?_ | refine ae_var 14 rfl ?_ | refine ae_var 15 rfl ?_ | refine ae_var 16 rfl ?_ | refine ae_var 17 rfl ?_ | refine ae_var 18 rfl ?_ | refine ae_var 19 rfl ?_ | refine ae_ty (Txt.int_ ‹_›) boot_int ?_ | refine ae_ty (Txt.str_ ‹_›) boot_str ?_ | refine ae_ty (Txt.bool_ ‹_›) boot_bool ?_ | refine ae_ty (Txt.list_ ‹_›) boot_list ?_ | refine ae_ty (Txt.tuple_ ‹_›) boot_tuple ?_ | refine ae_globS (Txt.LETTERS ‹_›).choose_spec ?_ | refine ae_globI (Txt.MOST_ROOMS ‹_›).choose_spec ?_ | refine ae_globI (Txt.MOST_STEPS ‹_›).choose_spec ?_ | refine ae_globI (Txt.MOST_WORD ‹_›).choose_spec ?_)
local macro_rules | `(tactic| walk_at "ge") => `(tactic| first
  | ((with_reducible show ite (true = true) _ _); refine iteT ?_)
  | ((with_reducible show ite (false = true) _ _); refine iteF ?_)
  | ((with_reducible show ite ((!true) = true) _ _); refine iteF ?_)
  | ((with_reducible show ite ((!false) = true) _ _); refine iteT ?_)
  | ((with_reducible show IsB _ _ _); refine isB_mk ?_)
  | ((with_reducible show AE _ (Expr.Name _ _) _ _ _); walk_at "v")
  | ((with_reducible show AE _ (Expr.Constant (Const.int _) _ _) _ _ _); refine ae_int ?_)
  | ((with_reducible show AE _ (Expr.Constant (Const.str _) _ _) _ _ _); refine ae_str ?_)
  | ((with_reducible show AE _ (Expr.Constant (Const.bool _) _ _) _ _ _); refine ae_bl ?_)
  | ((with_reducible show AE _ (Expr.Constant Const.none _ _) _ _ _); refine ae_non ?_)
  | ((with_reducible show AO1 _ (some _) _ _ _); refine ao_some ?_)
  | ((with_reducible show AO1 _ none _ _ _); refine ao_none ?_)
  | ((with_reducible show AE _ (Expr.BinOp _ _ _ _) _ _ _); refine ae_bin ?_)
  | ((with_reducible show AE _ (Expr.Compare _ [_] [_] _) _ _ _); refine ae_cmp ?_)
  | ((with_reducible show AE _ (Expr.Compare _ [_, _] [_, _] _) _ _ _); refine ae_chain ?_)
  | ((with_reducible show AE _ (Expr.Subscript _ (Expr.Slice none none (some _) _) _) _ _ _); refine ae_revS ?_)
  | ((with_reducible show AE _ (Expr.Subscript _ (Expr.Slice _ _ _ _) _) _ _ _); fail)
  | ((with_reducible show AE _ (Expr.Subscript _ _ _) _ _ _); refine ae_ix ?_)
  | ((with_reducible show AE _ (Expr.BoolOp _ [_] _) _ _ _); refine ae_one ?_)
  | ((with_reducible show AE _ (Expr.BoolOp BoolOp.And _ _) _ _ _); refine ae_and ?_)
  | ((with_reducible show AE _ (Expr.BoolOp BoolOp.Or _ _) _ _ _); refine ae_or ?_)
  | ((with_reducible show AE _ (Expr.UnaryOp UnaryOp.Not _ _) _ _ _); refine ae_not ?_)
  | ((with_reducible show AE _ (Expr.UnaryOp _ _ _) _ _ _); refine ae_un ?_)
  | ((with_reducible show AE _ (Expr.IfExp _ _ _ _) _ _ _); refine ae_if ?_)
  | ((with_reducible show AT _ (Expr.Compare _ [_] [_] _) _ _ _); refine at_cmp ?_)
  | ((with_reducible show AT _ (Expr.Compare _ [_, _] [_, _] _) _ _ _); refine at_chain ?_)
  | ((with_reducible show AT _ (Expr.UnaryOp UnaryOp.Not _ _) _ _ _); refine at_not ?_)
  | ((with_reducible show AT _ (Expr.BoolOp _ _ _) _ _ _); refine at_w ?_)
  | ((with_reducible show AT _ (Expr.Call _ _ _ _) _ _ _); refine at_val ?_)
  | ((with_reducible show AT _ (Expr.Name _ _) _ _ _); refine at_val ?_)
  | ((with_reducible show AW _ (Expr.BoolOp BoolOp.And [_] _) _ _ _); refine aw_and1 ?_)
  | ((with_reducible show AW _ (Expr.BoolOp BoolOp.Or [_] _) _ _ _); refine aw_or1 ?_)
  | ((with_reducible show AW _ (Expr.BoolOp BoolOp.And _ _) _ _ _); refine aw_and ?_)
  | ((with_reducible show AW _ (Expr.BoolOp BoolOp.Or _ _) _ _ _); refine aw_or ?_)
  | ((with_reducible show AA _ [] _ _ _); refine aa_nil ?_)
  | ((with_reducible show AA _ (_ :: _) _ _ _); refine aa_cons ?_)
  | ((with_reducible show BinA _ (binaryOp Operator.Add) (PV.d (PyData.int _)) (PV.d (PyData.int _)) _ _); refine b_add ?_)
  | ((with_reducible show BinA _ (binaryOp Operator.Sub) (PV.d (PyData.int _)) (PV.d (PyData.int _)) _ _); refine b_sub ?_)
  | ((with_reducible show BinA _ (compareOp CmpOp.Lt) (PV.d (PyData.int _)) (PV.d (PyData.int _)) _ _); refine b_lt ?_)
  | ((with_reducible show BinA _ (compareOp CmpOp.LtE) (PV.d (PyData.int _)) (PV.d (PyData.int _)) _ _); refine b_le ?_)
  | ((with_reducible show BinA _ (compareOp CmpOp.Gt) (PV.d (PyData.int _)) (PV.d (PyData.int _)) _ _); refine b_gt ?_)
  | ((with_reducible show BinA _ (compareOp CmpOp.GtE) (PV.d (PyData.int _)) (PV.d (PyData.int _)) _ _); refine b_ge ?_)
  | ((with_reducible show BinA _ (compareOp CmpOp.Eq) (PV.d (PyData.int _)) (PV.d (PyData.int _)) _ _); refine b_eqI ?_)
  | ((with_reducible show BinA _ (compareOp CmpOp.NotEq) (PV.d (PyData.int _)) (PV.d (PyData.int _)) _ _); refine b_neI ?_)
  | ((with_reducible show BinA _ (compareOp CmpOp.Eq) (PV.d (PyData.str _)) (PV.d (PyData.str _)) _ _); refine b_eqS ?_)
  | ((with_reducible show BinA _ (compareOp CmpOp.NotEq) (PV.d (PyData.str _)) (PV.d (PyData.str _)) _ _); refine b_neS ?_)
  | ((with_reducible show BinA _ (compareOp CmpOp.LtE) (PV.d (PyData.str _)) (PV.d (PyData.str _)) _ _); refine b_leS ?_)
  | ((with_reducible show BinA _ (compareOp CmpOp.Lt) (PV.d (PyData.str _)) (PV.d (PyData.str _)) _ _); refine b_ltS ?_)
  | ((with_reducible show BinA _ (compareOp CmpOp.Eq) (PV.d (PyData.bool _)) (PV.d (PyData.bool _)) _ _); refine b_eqB ?_)
  | ((with_reducible show AE _ (Expr.Call (Expr.Name "int" _) _ [] _) _ _ _); refine ae_callTy rfl (Txt.int_ ‹_›) boot_int ?_)
  | ((with_reducible show AE _ (Expr.Call (Expr.Name "isinstance" _) _ [] _) _ _ _); refine ae_callB rfl (Txt.isi_ ‹_›) boot_isinstance ?_)
  | ((with_reducible show AE _ (Expr.Call (Expr.Name "len" _) _ [] _) _ _ _); refine ae_callB rfl (Txt.len_ ‹_›) PySem.boot_len ?_)
  | ((with_reducible show AE _ (Expr.Call (Expr.Name "list" _) _ [] _) _ _ _); refine ae_callTy rfl (Txt.list_ ‹_›) boot_list ?_)
  | ((with_reducible show AE _ (Expr.Call (Expr.Name "max" _) _ [] _) _ _ _); refine ae_callB rfl (Txt.max_ ‹_›) boot_max ?_)
  | ((with_reducible show AE _ (Expr.Call (Expr.Name "min" _) _ [] _) _ _ _); refine ae_callB rfl (Txt.min_ ‹_›) boot_min ?_)
  | ((with_reducible show AE _ (Expr.Call (Expr.Name "sum" _) _ [] _) _ _ _); refine ae_callB rfl (Txt.sum_ ‹_›) boot_sum ?_)
  | ((with_reducible show AE _ (Expr.Call (Expr.Name "rooms_in_vector" _) _ [] _) _ _ _); refine ae_callF ‹D_rooms_in_vector _› (RoomG.mono ‹_› (by first | decide | omega)) ?_)
  | ((with_reducible show AE _ (Expr.Call (Expr.Name "sum_at" _) _ [] _) _ _ _); refine ae_callA ‹D_sum_at _› (RoomG.mono ‹_› (by first | decide | omega)) ?_)
  | ((with_reducible show CallA _ (Value.builtin "isinstance") [PV.d _, PV.v (V.ty "int")] _ _); refine c_isInt ?_)
  | ((with_reducible show CallA _ (Value.builtin "isinstance") [PV.d _, PV.v (V.ty "str")] _ _); refine c_isStr ?_)
  | ((with_reducible show CallA _ (Value.builtin "isinstance") [PV.d _, PV.v (V.ty "bool")] _ _); refine c_isBool ?_)
  | ((with_reducible show CallA _ (Value.builtin "isinstance") [PV.d _, PV.v (V.ty "list")] _ _); refine c_isList ?_)
  | ((with_reducible show CallA _ (Value.builtin "isinstance") [PV.d _, PV.v (V.ty "tuple")] _ _); refine c_isTup ?_)
  | ((with_reducible show CallA _ (Value.builtin "len") [PV.d (PyData.list _)] _ _); refine c_lenL ?_)
  | ((with_reducible show CallA _ (Value.builtin "len") [PV.d (PyData.tuple _)] _ _); refine c_lenT ?_)
  | ((with_reducible show CallA _ (Value.builtin "sum") [PV.d (PyData.list (List.map PyData.int _))] _ _); refine c_sum rfl ?_)
  | ((with_reducible show CallA _ (Value.type "int") [PV.d (PyData.bool _)] _ _); refine c_intB ?_)
  | ((with_reducible show AE _ (Expr.Call (Expr.Attribute _ "append" _) _ _ _) _ _ _); refine ae_bm PySem.F.plainAttrs_list PySem.F.slot_list_append PySem.F.type_list_append ?_)
  | ((with_reducible show BinA _ (inplaceOp Operator.Add) (PV.d (PyData.int _)) (PV.d (PyData.int _)) _ _); refine ib_add ?_)
  | ((with_reducible show UnA _ (unaryOp UnaryOp.USub) (PV.d (PyData.int _)) _ _); refine u_neg ?_)
  | ((with_reducible show IxA _ (PV.d (mD _)) (PV.d (PyData.int 0)) _ _); refine ixm0 ?_)
  | ((with_reducible show IxA _ (PV.d (mD _)) (PV.d (PyData.int 1)) _ _); refine ixm1 ?_)
  | ((with_reducible show IxA _ (PV.d (mD _)) (PV.d (PyData.int 2)) _ _); refine ixm2 ?_)
  | ((with_reducible show IxA _ (PV.d (mD _)) (PV.d (PyData.int 3)) _ _); refine ixm3 ?_)
  | ((with_reducible show IxA _ (PV.d (stD _)) (PV.d (PyData.int 0)) _ _); refine ixs0 ?_)
  | ((with_reducible show IxA _ (PV.d (stD _)) (PV.d (PyData.int 1)) _ _); refine ixs1 ?_)
  | ((with_reducible show IxA _ (PV.d (stD _)) (PV.d (PyData.int 2)) _ _); refine ixs2 ?_))
local macro_rules | `(tactic| walk_at "go1") => `(tactic| first
  | walk_at "ge"
  | ((with_reducible show ASs _ (_ :: _) _ _ _); refine as_cons ?_)
  | ((with_reducible show ASs _ [] _ _ _); refine as_nil ?_)
  | ((with_reducible show AS _ (Stmt.Return (some _) _) _ _ _); refine as_ret ?_)
  | ((with_reducible show AS _ (Stmt.If _ _ _ _) _ _ _); refine as_if ?_)
  | ((with_reducible show AS _ (Stmt.Expr _ _) _ _ _); refine as_expr ?_))
local macro_rules | `(tactic| walk_at "fld") => `(tactic| (refine ae_fld ?_; refine ae_var 0 rfl ?_; refine ⟨_, "Reader", _, _, rfl, by assumption, Xs.k_Reader ‹_›, ?_, rfl, ?_⟩; (first | exact Xs.f_Reader_read_machine ‹_› | exact Xs.f_Reader_word ‹_› | exact Xs.f_Reader_vectors ‹_›)))
local macro_rules | `(tactic| walk_at "ge") => `(tactic| first | ((with_reducible show AE _ (Expr.Attribute (Expr.Name "self" _) _ _) _ _ _); walk_at "fld") | ((with_reducible show AT _ (Expr.Attribute _ _ _) _ _ _); refine at_val ?_))
section
variable {P : Program} {w : World} {K : PySem.W.Frag} {mg : Str → Option Value} {base : Heap}
theorem ok_Reader_text {f : Addr} {fd : FuncData} (F : Fun K "text" "Reader.text" s_Reader_text f fd) (T : Txt mg) (XS : Xs ⟨P, w, K, mg, base⟩) : Fn ⟨P, w, K, mg, base⟩ 1 f fd P_Reader_text (up rTextR) := by
  refine okA F sc_Reader_text (fun args O Φ Ξ h => ?_) (fun cdv A outer s H E as0 F0 args O Φ Ξ hr h => ?_)
  · first | (obtain ⟨rfl, _⟩ := h; rfl) | (obtain ⟨_, rfl, _⟩ := h; rfl) | (obtain ⟨_, _, rfl, _⟩ := h; rfl) | (obtain ⟨_, _, _, rfl, _⟩ := h; rfl) | (obtain ⟨_, _, _, _, rfl, _⟩ := h; rfl) | (obtain ⟨_, _, _, _, _, rfl, _⟩ := h; rfl) | (obtain ⟨_, _, _, _, _, _, rfl, _⟩ := h; rfl) | (obtain ⟨_, _, _, _, _, _, _, rfl, _⟩ := h; rfl) | (obtain ⟨_, _, _, _, _, _, _, _, rfl, _⟩ := h; rfl) | (obtain ⟨_, _, _, _, _, _, _, _, _, rfl, _⟩ := h; rfl) | (obtain ⟨_, _, _, _, _, _, _, _, _, _, rfl, _⟩ := h; rfl) | (obtain ⟨_, _, _, _, _, _, _, _, _, _, _, rfl, _⟩ := h; rfl)
  · skip
    obtain ⟨n, q0, m, z, rfl, hO, q⟩ := h
    refine as_cons ?_
    repeat walk_at "go1"
    exact .keep q
theorem ok_Reader_reached {f : Addr} {fd : FuncData} (F : Fun K "reached" "Reader.reached" s_Reader_reached f fd) (T : Txt mg) (XS : Xs ⟨P, w, K, mg, base⟩) (E1 : D_rooms_in_vector ⟨P, w, K, mg, base⟩) : Fn ⟨P, w, K, mg, base⟩ 2 f fd P_Reader_reached (up rReached2) := by
  refine okA F sc_Reader_reached (fun args O Φ Ξ h => ?_) (fun cdv A outer s H E as0 F0 args O Φ Ξ hr h => ?_)
  · first | (obtain ⟨rfl, _⟩ := h; rfl) | (obtain ⟨_, rfl, _⟩ := h; rfl) | (obtain ⟨_, _, rfl, _⟩ := h; rfl) | (obtain ⟨_, _, _, rfl, _⟩ := h; rfl) | (obtain ⟨_, _, _, _, rfl, _⟩ := h; rfl) | (obtain ⟨_, _, _, _, _, rfl, _⟩ := h; rfl) | (obtain ⟨_, _, _, _, _, _, rfl, _⟩ := h; rfl) | (obtain ⟨_, _, _, _, _, _, _, rfl, _⟩ := h; rfl) | (obtain ⟨_, _, _, _, _, _, _, _, rfl, _⟩ := h; rfl) | (obtain ⟨_, _, _, _, _, _, _, _, _, rfl, _⟩ := h; rfl) | (obtain ⟨_, _, _, _, _, _, _, _, _, _, rfl, _⟩ := h; rfl) | (obtain ⟨_, _, _, _, _, _, _, _, _, _, _, rfl, _⟩ := h; rfl)
  · skip
    obtain ⟨n, q0, m, z, rfl, hO, hq, hm, q⟩ := h
    have hn := hm.n1
    refine as_cons ?_
    repeat walk_at "go1"
    refine ix_O hq (rws_last _ _) ?_
    repeat walk_at "go1"
    exact ⟨_, rfl, by rw [mvs_len m _ (alone_len _ _)]; omega, .keep (.keep q)⟩
theorem ok_Reader_counts {f : Addr} {fd : FuncData} (F : Fun K "counts" "Reader.counts" s_Reader_counts f fd) (T : Txt mg) (XS : Xs ⟨P, w, K, mg, base⟩) : Fn ⟨P, w, K, mg, base⟩ 1 f fd P_Reader_counts (up rCounts2) := by
  refine okA F sc_Reader_counts (fun args O Φ Ξ h => ?_) (fun cdv A outer s H E as0 F0 args O Φ Ξ hr h => ?_)
  · first | (obtain ⟨rfl, _⟩ := h; rfl) | (obtain ⟨_, rfl, _⟩ := h; rfl) | (obtain ⟨_, _, rfl, _⟩ := h; rfl) | (obtain ⟨_, _, _, rfl, _⟩ := h; rfl) | (obtain ⟨_, _, _, _, rfl, _⟩ := h; rfl) | (obtain ⟨_, _, _, _, _, rfl, _⟩ := h; rfl) | (obtain ⟨_, _, _, _, _, _, rfl, _⟩ := h; rfl) | (obtain ⟨_, _, _, _, _, _, _, rfl, _⟩ := h; rfl) | (obtain ⟨_, _, _, _, _, _, _, _, rfl, _⟩ := h; rfl) | (obtain ⟨_, _, _, _, _, _, _, _, _, rfl, _⟩ := h; rfl) | (obtain ⟨_, _, _, _, _, _, _, _, _, _, rfl, _⟩ := h; rfl) | (obtain ⟨_, _, _, _, _, _, _, _, _, _, _, rfl, _⟩ := h; rfl)
  · skip
    obtain ⟨n, q0, m, z, rfl, hO, hq, q⟩ := h
    refine as_cons ?_
    repeat walk_at "go1"
    refine ix_O hq (rws_last _ _) ?_
    repeat walk_at "go1"
    exact c_list isL_d (.keep q)
theorem ok_Reader_ways {f : Addr} {fd : FuncData} (F : Fun K "ways" "Reader.ways" s_Reader_ways f fd) (T : Txt mg) (XS : Xs ⟨P, w, K, mg, base⟩) (E1 : D_sum_at ⟨P, w, K, mg, base⟩) : Fn ⟨P, w, K, mg, base⟩ 2 f fd P_Reader_ways (up rWaysR) := by
  refine okA F sc_Reader_ways (fun args O Φ Ξ h => ?_) (fun cdv A outer s H E as0 F0 args O Φ Ξ hr h => ?_)
  · first | (obtain ⟨rfl, _⟩ := h; rfl) | (obtain ⟨_, rfl, _⟩ := h; rfl) | (obtain ⟨_, _, rfl, _⟩ := h; rfl) | (obtain ⟨_, _, _, rfl, _⟩ := h; rfl) | (obtain ⟨_, _, _, _, rfl, _⟩ := h; rfl) | (obtain ⟨_, _, _, _, _, rfl, _⟩ := h; rfl) | (obtain ⟨_, _, _, _, _, _, rfl, _⟩ := h; rfl) | (obtain ⟨_, _, _, _, _, _, _, rfl, _⟩ := h; rfl) | (obtain ⟨_, _, _, _, _, _, _, _, rfl, _⟩ := h; rfl) | (obtain ⟨_, _, _, _, _, _, _, _, _, rfl, _⟩ := h; rfl) | (obtain ⟨_, _, _, _, _, _, _, _, _, _, rfl, _⟩ := h; rfl) | (obtain ⟨_, _, _, _, _, _, _, _, _, _, _, rfl, _⟩ := h; rfl)
  · skip
    obtain ⟨n, q0, m, z, rfl, hO, hq, hm, cl, q⟩ := h
    have hn := hm.n1
    have hl := hm.ls.len
    refine as_cons ?_
    repeat walk_at "go1"
    refine ix_O hq (rws_last _ _) ?_
    repeat walk_at "go1"
    exact ⟨_, vecR m (cds z), m.ls, rfl, isV_d, fun r hr => by rw [mvs_len m _ (alone_len _ _)]; exact hm.ls.lt r hr, by omega, cl, .keep q⟩
theorem ok_Reader_twin {f : Addr} {fd : FuncData} (F : Fun K "twin" "Reader.twin" s_Reader_twin f fd) (T : Txt mg) (XS : Xs ⟨P, w, K, mg, base⟩) (E1 : D_new_Reader ⟨P, w, K, mg, base⟩) (E2 : D_Reader_take ⟨P, w, K, mg, base⟩) : Fn ⟨P, w, K, mg, base⟩ 8 f fd P_Reader_twin (up rTwinR) := by
  refine okA F sc_Reader_twin (fun args O Φ Ξ h => ?_) (fun cdv A outer s H E as0 F0 args O Φ Ξ hr h => ?_)
  · first | (obtain ⟨rfl, _⟩ := h; rfl) | (obtain ⟨_, rfl, _⟩ := h; rfl) | (obtain ⟨_, _, rfl, _⟩ := h; rfl) | (obtain ⟨_, _, _, rfl, _⟩ := h; rfl) | (obtain ⟨_, _, _, _, rfl, _⟩ := h; rfl) | (obtain ⟨_, _, _, _, _, rfl, _⟩ := h; rfl) | (obtain ⟨_, _, _, _, _, _, rfl, _⟩ := h; rfl) | (obtain ⟨_, _, _, _, _, _, _, rfl, _⟩ := h; rfl) | (obtain ⟨_, _, _, _, _, _, _, _, rfl, _⟩ := h; rfl) | (obtain ⟨_, _, _, _, _, _, _, _, _, rfl, _⟩ := h; rfl) | (obtain ⟨_, _, _, _, _, _, _, _, _, _, rfl, _⟩ := h; rfl) | (obtain ⟨_, _, _, _, _, _, _, _, _, _, _, rfl, _⟩ := h; rfl)
  · skip
    obtain ⟨n, q0, m, z, rfl, hO, hq, hm, hz, cl, q⟩ := h
    have hzl := hz.len
    have ap : ∀ (B T U : Own), B ++ T ++ U = B ++ (T ++ U) := fun B T U => List.append_assoc _ _ _
    have ln : ∀ (B T : Own), (B ++ T).length = B.length + T.length := fun B T => List.length_append
    have ez : mkS (cds (⟨#[]⟩ : Str) ++ cds z) = z := str_ext (by rw [cds_mkS]; rfl)
    refine as_cons (as_set 1 sc_Reader_twin.nd (ae_mkX (Ξ := fun _ _ _ => False) E1 (hr.mono (by decide)) takes_none ?_))
    repeat walk_at "ge"
    refine ⟨O.length, .d (mD m), m, rfl, get_at0, isM_d, hm, cl_app cl rfl, rfl, ?_⟩
    rw [set_at0, ap, ln]
    show ASs _ _ [some (.o n), some (.o O.length)] (O ++ [RdI m ⟨#[]⟩ (O.length + 1), rws m []]) _
    have hO2 : (O ++ [RdI m ⟨#[]⟩ (O.length + 1), rws m []])[n]? = some (RdI m z q0) := by
      rw [List.getElem?_append_left (List.getElem?_eq_some_iff.mp hO).1]; exact hO
    refine as_cons (as_expr (ae_meth E2 (hr.mono (by decide)) ?_))
    repeat walk_at "ge"
    refine ⟨O.length, _, rfl, get_at0, rfl, ?_⟩
    repeat walk_at "ge"
    refine ⟨O.length, O.length + 1, m, ⟨#[]⟩, z, rfl, get_at0, get_at 1, by omega, hm, hz, by show 0 + z.length ≤ 400; omega, cl_ext cl (fun x hx => ?_), ?_⟩
    · simp only [List.mem_cons, List.not_mem_nil, or_false] at hx
      rcases hx with rfl | rfl
      · show (true && (true && (decide (O.length + 1 < O.length + 2) && true))) = true
        rw [decide_eq_true (by omega)]; rfl
      · exact lst_below _
    rw [set_at0, set_at 1, ez]
    refine as_cons ?_
    repeat walk_at "go1"
    exact .keep q
theorem ok_Reader___len__ {f : Addr} {fd : FuncData} (F : Fun K "__len__" "Reader.__len__" s_Reader___len__ f fd) (T : Txt mg) (XS : Xs ⟨P, w, K, mg, base⟩) : Fn ⟨P, w, K, mg, base⟩ 1 f fd P_Reader___len__ (up rLenR) := by
  refine okA F sc_Reader___len__ (fun args O Φ Ξ h => ?_) (fun cdv A outer s H E as0 F0 args O Φ Ξ hr h => ?_)
  · first | (obtain ⟨rfl, _⟩ := h; rfl) | (obtain ⟨_, rfl, _⟩ := h; rfl) | (obtain ⟨_, _, rfl, _⟩ := h; rfl) | (obtain ⟨_, _, _, rfl, _⟩ := h; rfl) | (obtain ⟨_, _, _, _, rfl, _⟩ := h; rfl) | (obtain ⟨_, _, _, _, _, rfl, _⟩ := h; rfl) | (obtain ⟨_, _, _, _, _, _, rfl, _⟩ := h; rfl) | (obtain ⟨_, _, _, _, _, _, _, rfl, _⟩ := h; rfl) | (obtain ⟨_, _, _, _, _, _, _, _, rfl, _⟩ := h; rfl) | (obtain ⟨_, _, _, _, _, _, _, _, _, rfl, _⟩ := h; rfl) | (obtain ⟨_, _, _, _, _, _, _, _, _, _, rfl, _⟩ := h; rfl) | (obtain ⟨_, _, _, _, _, _, _, _, _, _, _, rfl, _⟩ := h; rfl)
  · skip
    obtain ⟨n, q0, m, z, rfl, hO, hz, q⟩ := h
    refine as_cons ?_
    repeat walk_at "go1"
    refine c_lenS (sz (by omega)) ?_
    exact .keep q
end
end K29
set_option pp.maxSteps 1200
namespace K29
open PySem PySem.Spec L2 Al
open PyProof.Rows hiding St
local macro_rules | `(tactic| walk_at "v") => `(tactic| first | refine ae_var 0 rfl ?_ | refine ae_var 1 rfl ?_ | refine ae_var 2 rfl ?_ | refine ae_var 3 rfl ?_ | refine ae_var 4 rfl ?_ | refine ae_var 5 rfl ?_ | refine ae_var 6 rfl ?_ | refine ae_var 7 rfl ?_ | refine ae_var 8 rfl ?_ | refine ae_var 9 rfl ?_ | refine ae_var 10 rfl ?_ | refine ae_var 11 rfl ?_ | refine ae_var 12 rfl ?_ | refine ae_var 13 rfl ?_ | refine ae_var 14 rfl ?_ | refine ae_var 15 rfl ?_ | refine ae_var 16 rfl ?_ | refine ae_var 17 rfl ?_ | refine ae_var 18 rfl ?_ | refine ae_var 19 rfl ?_ | refine ae_ty (Txt.int_ ‹_›) boot_int ?_ | refine ae_ty (Txt.str_ ‹_›) boot_str ?_ | refine ae_ty (Txt.bool_ ‹_›) boot_bool ?_ | refine ae_ty (Txt.list_ ‹_›) boot_list ?_ | refine ae_ty (Txt.tuple_ ‹_›) boot_tuple ?_ | refine ae_globS (Txt.LETTERS ‹_›).choose_spec ?_ | refine ae_globI (Txt.MOST_ROOMS ‹_›).choose_spec ?_ | refine ae_globI (Txt.MOST_STEPS ‹_›).choose_spec ?_ | refine ae_globI (Txt.MOST_WORD ‹_›).choose_spec ?_)
local macro_rules | `(tactic| walk_at "ge") => `(tactic| first
  | ((with_reducible show ite (true = true) _ _); refine iteT ?_)
  | ((with_reducible show ite (false = true) _ _); refine iteF ?_)
  | ((with_reducible show ite ((!true) = true) _ _); refine iteF ?_)
  | ((with_reducible show ite ((!false) = true) _ _); refine iteT ?_)
  | ((with_reducible show IsB _ _ _); refine isB_mk ?_)
  | ((with_reducible show AE _ (Expr.Name _ _) _ _ _); walk_at "v")
  | ((with_reducible show AE _ (Expr.Constant (Const.int _) _ _) _ _ _); refine ae_int ?_)
  | ((with_reducible show AE _ (Expr.Constant (Const.str _) _ _) _ _ _); refine ae_str ?_)
  | ((with_reducible show AE _ (Expr.Constant (Const.bool _) _ _) _ _ _); refine ae_bl ?_)
  | ((with_reducible show AE _ (Expr.Constant Const.none _ _) _ _ _); refine ae_non ?_)
  | ((with_reducible show AO1 _ (some _) _ _ _); refine ao_some ?_)
  | ((with_reducible show AO1 _ none _ _ _); refine ao_none ?_)
  | ((with_reducible show AE _ (Expr.BinOp _ _ _ _) _ _ _); refine ae_bin ?_)
  | ((with_reducible show AE _ (Expr.Compare _ [_] [_] _) _ _ _); refine ae_cmp ?_)
  | ((with_reducible show AE _ (Expr.Compare _ [_, _] [_, _] _) _ _ _); refine ae_chain ?_)
  | ((with_reducible show AE _ (Expr.Subscript _ (Expr.Slice none none (some _) _) _) _ _ _); refine ae_revS ?_)
  | ((with_reducible show AE _ (Expr.Subscript _ (Expr.Slice _ _ _ _) _) _ _ _); fail)
  | ((with_reducible show AE _ (Expr.Subscript _ _ _) _ _ _); refine ae_ix ?_)
  | ((with_reducible show AE _ (Expr.BoolOp _ [_] _) _ _ _); refine ae_one ?_)
  | ((with_reducible show AE _ (Expr.BoolOp BoolOp.And _ _) _ _ _); refine ae_and ?_)
  | ((with_reducible show AE _ (Expr.BoolOp BoolOp.Or _ _) _ _ _); refine ae_or ?_)
  | ((with_reducible show AE _ (Expr.UnaryOp UnaryOp.Not _ _) _ _ _); refine ae_not ?_)
  | ((with_reducible show AE _ (Expr.UnaryOp _ _ _) _ _ _); refine ae_un ?_)
  | ((with_reducible show AE _ (Expr.IfExp _ _ _ _) _ _ _); refine ae_if ?_)
  | ((with_reducible show AT _ (Expr.Compare _ [_] [_] _) _ _ _); refine at_cmp ?_)
  | ((with_reducible show AT _ (Expr.Compare _ [_, _] [_, _] _) _ _ _); refine at_chain ?_)
  | ((with_reducible show AT _ (Expr.UnaryOp UnaryOp.Not _ _) _ _ _); refine at_not ?_)
  | ((with_reducible show AT _ (Expr.BoolOp _ _ _) _ _ _); refine at_w ?_)
  | ((with_reducible show AT _ (Expr.Call _ _ _ _) _ _ _); refine at_val ?_)
  | ((with_reducible show AT _ (Expr.Name _ _) _ _ _); refine at_val ?_)
  | ((with_reducible show AW _ (Expr.BoolOp BoolOp.And [_] _) _ _ _); refine aw_and1 ?_)
  | ((with_reducible show AW _ (Expr.BoolOp BoolOp.Or [_] _) _ _ _); refine aw_or1 ?_)
  | ((with_reducible show AW _ (Expr.BoolOp BoolOp.And _ _) _ _ _); refine aw_and ?_)
  | ((with_reducible show AW _ (Expr.BoolOp BoolOp.Or _ _) _ _ _); refine aw_or ?_)
  | ((with_reducible show AA _ [] _ _ _); refine aa_nil ?_)
  | ((with_reducible show AA _ (_ :: _) _ _ _); refine aa_cons ?_)
  | ((with_reducible show BinA _ (binaryOp Operator.Add) (PV.d (PyData.int _)) (PV.d (PyData.int _)) _ _); refine b_add ?_)
  | ((with_reducible show BinA _ (binaryOp Operator.Sub) (PV.d (PyData.int _)) (PV.d (PyData.int _)) _ _); refine b_sub ?_)
  | ((with_reducible show BinA _ (compareOp CmpOp.Lt) (PV.d (PyData.int _)) (PV.d (PyData.int _)) _ _); refine b_lt ?_)
  | ((with_reducible show BinA _ (compareOp CmpOp.LtE) (PV.d (PyData.int _)) (PV.d (PyData.int _)) _ _); refine b_le ?_)
  | ((with_reducible show BinA _ (compareOp CmpOp.Gt) (PV.d (PyData.int _)) (PV.d (PyData.int _)) _ _); refine b_gt ?_)
  | ((with_reducible show BinA _ (compareOp CmpOp.GtE) (PV.d (PyData.int _)) (PV.d (PyData.int _)) _ _); refine b_ge ?_)
  | ((with_reducible show BinA _ (compareOp CmpOp.Eq) (PV.d (PyData.int _)) (PV.d (PyData.int _)) _ _); refine b_eqI ?_)
  | ((with_reducible show BinA _ (compareOp CmpOp.NotEq) (PV.d (PyData.int _)) (PV.d (PyData.int _)) _ _); refine b_neI ?_)
  | ((with_reducible show BinA _ (compareOp CmpOp.Eq) (PV.d (PyData.str _)) (PV.d (PyData.str _)) _ _); refine b_eqS ?_)
  | ((with_reducible show BinA _ (compareOp CmpOp.NotEq) (PV.d (PyData.str _)) (PV.d (PyData.str _)) _ _); refine b_neS ?_)
  | ((with_reducible show BinA _ (compareOp CmpOp.LtE) (PV.d (PyData.str _)) (PV.d (PyData.str _)) _ _); refine b_leS ?_)
  | ((with_reducible show BinA _ (compareOp CmpOp.Lt) (PV.d (PyData.str _)) (PV.d (PyData.str _)) _ _); refine b_ltS ?_)
  | ((with_reducible show BinA _ (compareOp CmpOp.Eq) (PV.d (PyData.bool _)) (PV.d (PyData.bool _)) _ _); refine b_eqB ?_)
  | ((with_reducible show AE _ (Expr.Call (Expr.Name "int" _) _ [] _) _ _ _); refine ae_callTy rfl (Txt.int_ ‹_›) boot_int ?_)
  | ((with_reducible show AE _ (Expr.Call (Expr.Name "isinstance" _) _ [] _) _ _ _); refine ae_callB rfl (Txt.isi_ ‹_›) boot_isinstance ?_)
  | ((with_reducible show AE _ (Expr.Call (Expr.Name "len" _) _ [] _) _ _ _); refine ae_callB rfl (Txt.len_ ‹_›) PySem.boot_len ?_)
  | ((with_reducible show AE _ (Expr.Call (Expr.Name "list" _) _ [] _) _ _ _); refine ae_callTy rfl (Txt.list_ ‹_›) boot_list ?_)
  | ((with_reducible show AE _ (Expr.Call (Expr.Name "max" _) _ [] _) _ _ _); refine ae_callB rfl (Txt.max_ ‹_›) boot_max ?_)
  | ((with_reducible show AE _ (Expr.Call (Expr.Name "min" _) _ [] _) _ _ _); refine ae_callB rfl (Txt.min_ ‹_›) boot_min ?_)
  | ((with_reducible show AE _ (Expr.Call (Expr.Name "sum" _) _ [] _) _ _ _); refine ae_callB rfl (Txt.sum_ ‹_›) boot_sum ?_)
  | ((with_reducible show AE _ (Expr.Call (Expr.Name "_law_draw" _) _ [] _) _ _ _); refine ae_callA ‹D__law_draw _› (RoomG.mono ‹_› (by first | decide | omega)) ?_)
  | ((with_reducible show AE _ (Expr.Call (Expr.Name "_law_rooms" _) _ [] _) _ _ _); refine ae_callA ‹D__law_rooms _› (RoomG.mono ‹_› (by first | decide | omega)) ?_)
  | ((with_reducible show CallA _ (Value.builtin "isinstance") [PV.d _, PV.v (V.ty "int")] _ _); refine c_isInt ?_)
  | ((with_reducible show CallA _ (Value.builtin "isinstance") [PV.d _, PV.v (V.ty "str")] _ _); refine c_isStr ?_)
  | ((with_reducible show CallA _ (Value.builtin "isinstance") [PV.d _, PV.v (V.ty "bool")] _ _); refine c_isBool ?_)
  | ((with_reducible show CallA _ (Value.builtin "isinstance") [PV.d _, PV.v (V.ty "list")] _ _); refine c_isList ?_)
  | ((with_reducible show CallA _ (Value.builtin "isinstance") [PV.d _, PV.v (V.ty "tuple")] _ _); refine c_isTup ?_)
  | ((with_reducible show CallA _ (Value.builtin "len") [PV.d (PyData.list _)] _ _); refine c_lenL ?_)
  | ((with_reducible show CallA _ (Value.builtin "len") [PV.d (PyData.tuple _)] _ _); refine c_lenT ?_)
  | ((with_reducible show CallA _ (Value.builtin "sum") [PV.d (PyData.list (List.map PyData.int _))] _ _); refine c_sum rfl ?_)
  | ((with_reducible show CallA _ (Value.type "int") [PV.d (PyData.bool _)] _ _); refine c_intB ?_)
  | ((with_reducible show AE _ (Expr.Call (Expr.Attribute _ "append" _) _ _ _) _ _ _); refine ae_bm PySem.F.plainAttrs_list PySem.F.slot_list_append PySem.F.type_list_append ?_)
  | ((with_reducible show BinA _ (inplaceOp Operator.Add) (PV.d (PyData.int _)) (PV.d (PyData.int _)) _ _); refine ib_add ?_)
  | ((with_reducible show UnA _ (unaryOp UnaryOp.USub) (PV.d (PyData.int _)) _ _); refine u_neg ?_)
  | ((with_reducible show IxA _ (PV.d (mD _)) (PV.d (PyData.int 0)) _ _); refine ixm0 ?_)
  | ((with_reducible show IxA _ (PV.d (mD _)) (PV.d (PyData.int 1)) _ _); refine ixm1 ?_)
  | ((with_reducible show IxA _ (PV.d (mD _)) (PV.d (PyData.int 2)) _ _); refine ixm2 ?_)
  | ((with_reducible show IxA _ (PV.d (mD _)) (PV.d (PyData.int 3)) _ _); refine ixm3 ?_)
  | ((with_reducible show IxA _ (PV.d (stD _)) (PV.d (PyData.int 0)) _ _); refine ixs0 ?_)
  | ((with_reducible show IxA _ (PV.d (stD _)) (PV.d (PyData.int 1)) _ _); refine ixs1 ?_)
  | ((with_reducible show IxA _ (PV.d (stD _)) (PV.d (PyData.int 2)) _ _); refine ixs2 ?_))
local macro_rules | `(tactic| walk_at "go1") => `(tactic| first
  | walk_at "ge"
  | ((with_reducible show ASs _ (_ :: _) _ _ _); refine as_cons ?_)
  | ((with_reducible show ASs _ [] _ _ _); refine as_nil ?_)
  | ((with_reducible show AS _ (Stmt.Return (some _) _) _ _ _); refine as_ret ?_)
  | ((with_reducible show AS _ (Stmt.If _ _ _ _) _ _ _); refine as_if ?_)
  | ((with_reducible show AS _ (Stmt.Expr _ _) _ _ _); refine as_expr ?_))
local macro_rules | `(tactic| walk_at "fld") => `(tactic| (refine ae_fld ?_; refine ae_var 0 rfl ?_; refine ⟨_, "Reader", _, _, rfl, by assumption, Xs.k_Reader ‹_›, ?_, rfl, ?_⟩; (first | exact Xs.f_Reader_read_machine ‹_› | exact Xs.f_Reader_word ‹_› | exact Xs.f_Reader_vectors ‹_›)))
local macro_rules | `(tactic| walk_at "ge") => `(tactic| first | ((with_reducible show AE _ (Expr.Attribute (Expr.Name "self" _) _ _) _ _ _); walk_at "fld") | ((with_reducible show AT _ (Expr.Attribute _ _ _) _ _ _); refine at_val ?_))
section
variable {P : Program} {w : World} {K : PySem.W.Frag} {mg : Str → Option Value} {base : Heap}
theorem ok__law_hand {f : Addr} {fd : FuncData} (F : Fun K "_law_hand" "_law_hand" s__law_hand f fd) (T : Txt mg) (XS : Xs ⟨P, w, K, mg, base⟩) : Fn ⟨P, w, K, mg, base⟩ 1 f fd P__law_hand (up rHand) := by
  refine okA F sc__law_hand (fun args O Φ Ξ h => ?_) (fun cdv A outer s H E as0 F0 args O Φ Ξ hr h => ?_)
  · obtain ⟨ns, k, rfl, _⟩ := h
    rfl
  · obtain ⟨ns, k, rfl, k0, k1, q⟩ := h
    refine as_cons (as_set 2 sc__law_hand.nd ?_)
    walk_at "go1"
    walk_at "go1"
    refine ae_slice sl_list slL_mono ?_
    walk_at "go1"
    walk_at "go1"
    walk_at "go1"
    refine ⟨_, rfl, ?_⟩
    repeat walk_at "go1"
    refine ⟨_, rfl, ?_⟩
    refine sl_s ?_
    refine ae_lstD ?_
    repeat walk_at "go1"
    refine ⟨[.int 0], rfl, by decide, ?_⟩
    refine b_addL (sz ?_) ?_
    · have h1 : (cutI ns (some k) (some (k + 1))).length ≤ 1 := by
        unfold cutI
        rw [List.length_take]
        have e1 : HT.sIx ns.length 0 (some k) = min k.toNat ns.length := by
          obtain ⟨m, rfl⟩ := Int.eq_ofNat_of_zero_le k0
          exact HT.sIx_nat ns.length 0 m
        have e2 : HT.sIx ns.length ns.length (some (k + 1)) = min (k + 1).toNat ns.length := by
          obtain ⟨m, hm⟩ := Int.eq_ofNat_of_zero_le (show 0 ≤ k + 1 by omega)
          rw [hm]
          exact HT.sIx_nat ns.length _ m
        rw [e1, e2]
        omega
      simp only [List.length_map, List.length_cons, List.length_nil]
      omega
    repeat walk_at "go1"
    obtain ⟨c, hc⟩ := first_of (cutI ns (some k) (some (k + 1)))
    refine ix_L hc ?_
    have m0 : 0 ≤ c % 2147483647 := Int.emod_nonneg _ (by decide)
    have m1 : c % 2147483647 < 2147483647 := Int.emod_lt_of_pos _ (by decide)
    refine as_cons (as_set 3 sc__law_hand.nd ?_)
    repeat walk_at "go1"
    refine b_mod (by decide) ?_
    repeat walk_at "go1"
    refine b_mul (.inl ⟨by decide, by decide⟩) ?_
    repeat walk_at "go1"
    refine b_mul (.inl ⟨by omega, by omega⟩) ?_
    repeat walk_at "go1"
    refine b_mod (by decide) ?_
    refine as_cons (as_ret (ae_lstO ?_))
    walk_at "go1"
    walk_at "go1"
    refine ae_callTy rfl T.int_ boot_int ?_
    repeat walk_at "go1"
    refine b_pow ⟨by decide, by decide, by decide⟩ ?_
    repeat walk_at "go1"
    refine b_mul (.inl ⟨?_, ?_⟩) ?_
    · split <;> decide
    · split <;> decide
    repeat walk_at "go1"
    refine ⟨by show 2 ≤ 16000000; decide, .keep (q _ _ ⟨?_, Int.emod_nonneg _ (by decide), Int.lt_trans (Int.emod_lt_of_pos _ (by decide)) (by decide)⟩)⟩
    split
    · rename_i hd
      have := of_decide_eq_true hd
      have e : (10 : Int) ^ (18 : Int).toNat = 1000000000000000000 := by decide
      rw [e] at this
      omega
    · omega
theorem ok__law_draw {f : Addr} {fd : FuncData} (F : Fun K "_law_draw" "_law_draw" s__law_draw f fd) (T : Txt mg) (XS : Xs ⟨P, w, K, mg, base⟩) : Fn ⟨P, w, K, mg, base⟩ 1 f fd P__law_draw (up rDraw) := by
  refine okA F sc__law_draw (fun args O Φ Ξ h => ?_) (fun cdv A outer s H E as0 F0 args O Φ Ξ hr h => ?_)
  · obtain ⟨h, a, s, n, rfl, _⟩ := h
    rfl
  · obtain ⟨h, a, s, n, rfl, hO, ok, n0, n1, q⟩ := h
    have hh : h < O.length := (List.getElem?_eq_some_iff.mp hO).1
    refine as_cons (as_if (at_cmp ?_))
    repeat walk_at "go1"
    refine ix_O hO rfl ?_
    repeat walk_at "go1"
    refine ifd (fun hc => ?_) (fun hc => ?_)
    · refine as_cons (as_set 2 sc__law_draw.nd ?_)
      repeat walk_at "go1"
      refine ix_O hO rfl ?_
      repeat walk_at "go1"
      refine b_mod n0 ?_
      refine as_cons (as_asg ?_)
      repeat walk_at "go1"
      refine ix_O hO rfl ?_
      repeat walk_at "go1"
      refine b_fdiv ⟨n0, n1⟩ ?_
      refine ag_subL ?_
      repeat walk_at "go1"
      refine ⟨h, 0, 0, _, rfl, rfl, hO, rfl, ?_⟩
      repeat walk_at "go1"
      exact .keep (q _ _ _ ⟨Int.ediv_nonneg ok.a0 (by omega), ok.s0, ok.s1⟩ (Int.emod_nonneg _ (by omega)) (Int.emod_lt_of_pos _ n0))
    · refine as_nil ?_
      refine as_cons (as_asg ?_)
      repeat walk_at "go1"
      refine ix_O hO rfl ?_
      repeat walk_at "go1"
      refine b_mul (.inl ⟨by have := ok.s0; omega, by have := ok.s1; omega⟩) ?_
      repeat walk_at "go1"
      refine b_mod (by decide) ?_
      refine ag_subL ?_
      repeat walk_at "go1"
      refine ⟨h, 1, 1, _, rfl, rfl, hO, rfl, ?_⟩
      have e0 : 0 ≤ (s * 48271 + 11) % 2147483647 := Int.emod_nonneg _ (by decide)
      have e1 : (s * 48271 + 11) % 2147483647 < 2147483647 := Int.emod_lt_of_pos _ (by decide)
      generalize (s * 48271 + 11) % 2147483647 = s' at e0 e1
      have hO2 : (O.set h (hnd a s'))[h]? = some (hnd a s') := List.getElem?_set_self hh
      refine as_cons (as_ret ?_)
      repeat walk_at "go1"
      refine ix_O hO2 rfl ?_
      repeat walk_at "go1"
      refine ix_O hO2 rfl ?_
      refine b_mul (.inl ⟨by omega, by omega⟩) ?_
      repeat walk_at "go1"
      refine b_mod (by decide) ?_
      repeat walk_at "go1"
      refine b_fdiv ⟨by decide, by decide⟩ ?_
      repeat walk_at "go1"
      refine b_mod n0 ?_
      exact .keep (q _ _ _ ⟨ok.a0, e0, e1⟩ (Int.emod_nonneg _ (by omega)) (Int.emod_lt_of_pos _ n0))
theorem ok__law_rooms {f : Addr} {fd : FuncData} (F : Fun K "_law_rooms" "_law_rooms" s__law_rooms f fd) (T : Txt mg) (XS : Xs ⟨P, w, K, mg, base⟩) (E1 : D__law_draw ⟨P, w, K, mg, base⟩) : Fn ⟨P, w, K, mg, base⟩ 2 f fd P__law_rooms (up rRooms) := by
  refine okA F sc__law_rooms (fun args O Φ Ξ h => ?_) (fun cdv A outer s H E as0 F0 args O Φ Ξ hr h => ?_)
  · obtain ⟨h, a, s, n, rfl, _⟩ := h
    rfl
  · obtain ⟨h, a, s, n, rfl, hO, ok, n0, n1, cl, q⟩ := h
    have hh : h < O.length := (List.getElem?_eq_some_iff.mp hO).1
    rw [← set_same hO]
    have ll : ∀ a s, (O.set h (hnd a s)).length = O.length := fun _ _ => List.length_set
    refine as_cons ?_
    repeat walk_at "go1"
    refine draw_at hh ok (by decide) (by decide) (fun r1 a1 s1 ok1 _ _ => ?_)
    repeat walk_at "go1"
    refine ifd (fun _ => ?_) (fun _ => ?_)
    · repeat walk_at "go1"
      refine ae_lstD ?_
      repeat walk_at "go1"
      exact ⟨[], rfl, by decide, .keep (q [] _ _ ok1 Rms.nil)⟩
    repeat walk_at "go1"
    refine as_setLc 2 (own := [("_law_room", 3)]) (g := gName 3) rfl sc__law_rooms.nd (blkOk_by (N := N__law_rooms) (sc := defScope s__law_rooms) (by decide +kernel)) (fun _ _ _ _ _ => (pg_name (i := 3) sc__law_rooms.nd rfl (.inl rfl))) (wipes_name (by decide)) mono_name ?_ rfl
    refine lc_sel (α := Nat) mono_name (ai_range1 rfl T.range_ ?_)
    repeat walk_at "go1"
    refine ⟨_, rfl, by omega, by omega, Nat.le_refl _, List.range n, fun i => .d (iD i), iD, fun O' => ∃ a s, HandOk a s ∧ O' = O.set h (hnd a s), by rw [Int.toNat_natCast, rng_map], by rw [List.length_range]; omega, ⟨_, _, ok1, rfl⟩, ?_, ?_, ?_⟩
    · rintro O' ⟨a2, s2, ok2, rfl⟩
      exact ⟨by rw [ll, ll], cl_hnd cl, fun _ => trivial⟩
    · rintro x hx O' acc ⟨a2, s2, ok2, rfl⟩
      rw [set_app hh]
      refine agr_name (fun _ _ _ _ _ => ats_one ?_)
      repeat walk_at "go1"
      refine draw_at (app_lt hh) ok2 (by decide) (by decide) (fun r2 a3 s3 ok3 _ _ => ?_)
      repeat walk_at "go1"
      refine ifd (fun _ => ?_) (fun _ => ?_)
      · intro _ _ _ _ _
        repeat walk_at "go1"
        exact ⟨_, (set_app hh).symm, ⟨_, _, ok3, rfl⟩, rfl⟩
      · exact ⟨_, (set_app hh).symm, _, _, ok3, rfl⟩
    · rintro O' sub ⟨a2, s2, ok2, rfl⟩ hsub
      refine as_cons (as_ret (ae_orT ?_))
      repeat walk_at "go1"
      refine ⟨_, tru_L, ifnb (fun he => ?_) (fun he => ?_)⟩
      · exact .keep (q sub _ _ ok2 (rms_sub hsub))
      · repeat walk_at "go1"
        refine ae_lstD ?_
        repeat walk_at "go1"
        refine draw_at hh ok2 (by omega) (by omega) (fun r3 a3 s3 ok3 r0 r1 => ?_)
        repeat walk_at "go1"
        obtain ⟨k, rfl⟩ := Int.eq_ofNat_of_zero_le r0
        exact ⟨[iD k], rfl, by show 1 ≤ 16000000; decide, .keep (q [k] _ _ ok3 (Rms.one (by omega)))⟩
theorem ok__law_letters {f : Addr} {fd : FuncData} (F : Fun K "_law_letters" "_law_letters" s__law_letters f fd) (T : Txt mg) (XS : Xs ⟨P, w, K, mg, base⟩) (E1 : D__law_draw ⟨P, w, K, mg, base⟩) : Fn ⟨P, w, K, mg, base⟩ 2 f fd P__law_letters (up rLetters) := by
  refine okA F sc__law_letters (fun args O Φ Ξ h => ?_) (fun cdv A outer s H E as0 F0 args O Φ Ξ hr h => ?_)
  · obtain ⟨h, a, s, rfl, _⟩ := h
    rfl
  · obtain ⟨h, a, s, rfl, hO, ok, q⟩ := h
    have hh : h < O.length := (List.getElem?_eq_some_iff.mp hO).1
    rw [← set_same hO]
    refine as_cons (as_ret (ae_ix (ae_lstD ?_)))
    repeat walk_at "go1"
    refine ⟨([Str.ofString "ab", Str.ofString "ab", Str.ofString "abc", Str.ofString "qz", Str.ofString "mpx", Str.ofString "a"] : List Str).map PyData.str, rfl, by decide, ?_⟩
    repeat walk_at "go1"
    refine draw_at hh ok (by decide) (by decide) (fun r a1 s1 ok1 r0 r1 => ?_)
    obtain ⟨d, hd, hm⟩ := at_mem (xs := ([Str.ofString "ab", Str.ofString "ab", Str.ofString "abc", Str.ofString "qz", Str.ofString "mpx", Str.ofString "a"] : List Str).map PyData.str) r0 (by show r < 6; omega)
    obtain ⟨z, hz, rfl⟩ := List.mem_map.mp hm
    have key : LetOk z ∧ z.length ≤ 10 := by
      simp only [List.mem_cons, List.not_mem_nil, or_false] at hz
      rcases hz with rfl | rfl | rfl | rfl | rfl | rfl <;> exact ⟨letOk_lit (by decide +kernel), by decide +kernel⟩
    exact ix_L hd (.keep (q z _ _ ok1 key.1 key.2))
theorem ok__law_machine {f : Addr} {fd : FuncData} (F : Fun K "_law_machine" "_law_machine" s__law_machine f fd) (T : Txt mg) (XS : Xs ⟨P, w, K, mg, base⟩) (E1 : D__law_draw ⟨P, w, K, mg, base⟩) (E2 : D__law_rooms ⟨P, w, K, mg, base⟩) : Fn ⟨P, w, K, mg, base⟩ 3 f fd P__law_machine (up rMachine) := by
  refine okA F sc__law_machine (fun args O Φ Ξ h => ?_) (fun cdv A outer s H E as0 F0 args O Φ Ξ hr h => ?_)
  · obtain ⟨h, a, s, u, e, z, rfl, _⟩ := h
    rfl
  · obtain ⟨h, a, s, u, e, z, rfl, hO, ok, u0, u1, e0, e1, hz, cl, q⟩ := h
    have hh : h < O.length := (List.getElem?_eq_some_iff.mp hO).1
    have hzl := hz.l1
    have hzl0 := hz.l0
    have hu : A.units + 3 + 65 < cLine := by have := hr.un; exact Nat.lt_of_le_of_lt (by show A.units + 3 + 65 ≤ A.units + 3 + 16 * 2 + 200; omega) this
    rw [← set_same hO]
    refine as_cons (as_set 4 sc__law_machine.nd ?_)
    repeat walk_at "go1"
    refine draw_at hh ok (by omega) (by omega) (fun r1 a1 s1 ok1 r0 r2 => ?_)
    obtain ⟨k, rfl⟩ := Int.eq_ofNat_of_zero_le r0
    repeat walk_at "go1"
    obtain ⟨n, hn⟩ : ∃ n : Nat, n = 1 + k := ⟨_, rfl⟩
    rw [show (1 : Int) + (k : Int) = (n : Nat) by omega]
    refine as_set 5 sc__law_machine.nd ?_
    repeat walk_at "go1"
    refine rooms_at hh ok1 (by omega) (by omega) cl (fun fs a2 s2 ok2 hfs => ?_)
    repeat walk_at "go1"
    refine as_set 6 sc__law_machine.nd ?_
    repeat walk_at "go1"
    refine rooms_at hh ok2 (by omega) (by omega) cl (fun ls a3 s3 ok3 hls => ?_)
    repeat walk_at "go1"
    refine as_set 7 sc__law_machine.nd (ae_lstO ?_)
    repeat walk_at "go1"
    refine ⟨by decide, ?_⟩
    rw [show (O.set h (hnd a3 s3)).length = O.length from List.length_set, set_app hh]
    repeat walk_at "go1"
    refine as_for PassesOwn.never rfl (ai_range1 rfl T.range_ ?_)
    repeat walk_at "go1"
    refine draw_at (app_lt hh) ok3 (by omega) (by omega) (fun r3 a4 s4 ok4 r30 r31 => ?_)
    repeat walk_at "go1"
    refine ⟨r3, rfl, by omega, by omega, fun i ρ' O' => ∃ a s sts, HandOk a s ∧ O' = (O ++ [AO.lst ((sts.map stD).map PV.d)]).set h (hnd a s) ∧ (∀ t ∈ sts, StOk n t ∧ t.2.1 ∈ cds z) ∧ sts.Nodup ∧ sts.length ≤ i ∧ ∃ (y1 y2 : Option PV), ρ' = [some (.o h), some (pI u), some (pI e), some (pS z), some (.d (iD n)), some (.d (rmsD fs)), some (.d (rmsD ls)), some (.o O.length), y1, y2], ⟨a4, s4, [], ok4, rfl, fun _ h => (nomatch h), List.nodup_nil, Nat.le_refl _, _, _, rfl⟩, fun _ _ _ _ => trivial, ?_, ?_⟩
    · rintro i x ρ' O' hx ⟨a5, s5, sts, ok5, rfl, hst, hnu, hlen, y1, y2, rfl⟩
      have hi : i < 200 := by
        have h1 := (List.getElem?_eq_some_iff.mp hx).1
        unfold rngP at h1
        rw [List.length_map, List.length_range] at h1
        omega
      refine ag_name 8 sc__law_machine.nd ?_
      refine as_cons (as_set 9 sc__law_machine.nd (ae_tupD ?_))
      repeat walk_at "go1"
      refine draw_at (app_lt hh) ok5 (by omega) (by omega) (fun r4 a6 s6 ok6 r40 r41 => ?_)
      repeat walk_at "go1"
      refine c_lenS (sz (by omega)) ?_
      repeat walk_at "go1"
      refine draw_at (app_lt hh) ok6 (by omega) (by omega) (fun r5 a7 s7 ok7 r50 r51 => ?_)
      obtain ⟨c, hc, _, hcm⟩ := str_at hz.ok r50 r51
      refine ix_S (sz (by omega)) hc ?_
      repeat walk_at "go1"
      refine draw_at (app_lt hh) ok7 (by omega) (by omega) (fun r6 a8 s8 ok8 r60 r61 => ?_)
      repeat walk_at "go1"
      obtain ⟨b1, rfl⟩ := Int.eq_ofNat_of_zero_le r40
      obtain ⟨b2, rfl⟩ := Int.eq_ofNat_of_zero_le r60
      refine ⟨[iD b1, sgD c, iD b2], rfl, by show 3 ≤ 16000000; decide, ?_⟩
      have ht : StOk n (b1, c, b2) := ⟨by show b1 < n; omega, hz.all c hcm, by show b2 < n; omega⟩
      have hOl := app_last (y := hnd a8 s8) (x := AO.lst ((sts.map stD).map PV.d)) hh
      repeat walk_at "go1"
      refine b_notInO (x := stD (b1, c, b2)) hOl hu ((shp_st (k := 0) ht).sh (by decide)) ((shp_sts (k := 0) fun t h => (hst t h).1).sh (by decide)) ?_
      rw [any_sts]
      refine isB_mk (ifnd (fun hn1 => ?_) (fun hn1 => ?_))
      · repeat walk_at "go1"
        refine ⟨ty_O hOl, ?_⟩
        repeat walk_at "go1"
        refine m_append hOl (by rw [List.length_map, List.length_map]; omega) ?_
        rw [set_last hh]
        refine as_nil (as_nil (.keep ⟨a8, s8, sts ++ [(b1, c, b2)], ok8, by simp, fun t h => ?_, ?_, by simp; omega, _, _, rfl⟩))
        · rcases List.mem_append.mp h with h | h
          · exact hst t h
          · have e9 : t = (b1, c, b2) := by simpa using h
            subst e9
            exact ⟨ht, hcm⟩
        · rw [List.nodup_append]
          refine ⟨hnu, by simp, fun x hx y hy e9 => ?_⟩
          have e10 : y = (b1, c, b2) := by simpa using hy
          rw [e10] at e9
          exact hn1 (e9 ▸ hx)
      · refine as_nil (as_nil (.keep ⟨a8, s8, sts, ok8, rfl, hst, hnu, by omega, _, _, rfl⟩))
    · rintro ρ' O' ⟨a5, s5, sts, ok5, rfl, hst, hnu, hlen, y1, y2, rfl⟩
      unfold rngP at hlen
      rw [List.length_map, List.length_range] at hlen
      have hl : sts.length ≤ 200 := by omega
      have hl2 : (sts.length : Int) ≤ r3 := by omega
      refine as_cons (as_ret (ae_tupO ?_))
      repeat walk_at "go1"
      refine ⟨by show 4 ≤ 16000000; decide, ?_⟩
      have hm : MOk ⟨n, fs, ls, sts⟩ := ⟨by show 1 ≤ n; omega, by show n ≤ 12; omega, hfs, hls, fun t h => (hst t h).1, hnu, hl⟩
      have e9 : ((O ++ [AO.lst ((sts.map stD).map PV.d)]).set h (hnd a5 s5)).length = O.length + 1 := by simp
      rw [e9, ← set_app hh]
      have z9 := gh_tupL (Φ := Φ) (O := O.set h (hnd a5 s5)) (ds := sts.map stD) (pre := [iD n, rmsD fs, rmsD ls]) (cl_hnd cl) (q ⟨n, fs, ls, sts⟩ _ _ ok5 hm (by show (n : Int) ≤ u; omega) (fun t h => (hst t h).2) (by show (sts.length : Int) < u + e; omega))
      rw [List.length_set] at z9 ⊢
      exact z9
theorem ok__law_word {f : Addr} {fd : FuncData} (F : Fun K "_law_word" "_law_word" s__law_word f fd) (T : Txt mg) (XS : Xs ⟨P, w, K, mg, base⟩) (E1 : D__law_draw ⟨P, w, K, mg, base⟩) : Fn ⟨P, w, K, mg, base⟩ 2 f fd P__law_word (up rWord) := by
  refine okA F sc__law_word (fun args O Φ Ξ h => ?_) (fun cdv A outer s H E as0 F0 args O Φ Ξ hr h => ?_)
  · obtain ⟨h, a, s, z, u, rfl, _⟩ := h
    rfl
  · obtain ⟨h, a, s, z, u, rfl, hO, ok, hz, u0, u1, cl, q⟩ := h
    have hh : h < O.length := (List.getElem?_eq_some_iff.mp hO).1
    have hzl := hz.l1
    have hzl0 := hz.l0
    have ll : ∀ a s, (O.set h (hnd a s)).length = O.length := fun _ _ => List.length_set
    rw [← set_same hO]
    refine as_cons (as_ret (ae_bm PySem.F.plainAttrs_str PySem.F.slot_str_join PySem.F.type_str_join ?_))
    walk_at "go1"
    refine ⟨ty_S, aa_cons ?_⟩
    refine ae_lc (own := [("_law_k", 3)]) (g := gName 3) rfl sc__law_word.nd (blkOk_by (N := N__law_word) (sc := defScope s__law_word) (by decide +kernel)) (fun _ _ _ _ _ => (pg_name (i := 3) sc__law_word.nd rfl (.inl rfl))) (wipes_name (by decide)) mono_name ?_
    refine lc_inv mono_name (ai_range1 rfl T.range_ ?_)
    repeat walk_at "go1"
    refine draw_at hh ok (by omega) (by omega) (fun m a2 s2 ok2 m0 m1 => ?_)
    repeat walk_at "go1"
    refine ⟨m, rfl, by omega, by omega, by rw [ll, ll]; exact Nat.le_refl _, by unfold rngP; simp; omega, fun O' => ∃ a s, HandOk a s ∧ O' = O.set h (hnd a s), fun _ d => ∃ c, d = .str ⟨#[c]⟩ ∧ c ∈ cds z, ⟨_, _, ok2, rfl⟩, ?_, ?_, ?_⟩
    · rintro O' ⟨a3, s3, ok3, rfl⟩
      exact ⟨by rw [ll, ll], cl_hnd cl, fun _ => trivial⟩
    · rintro x hx O' acc ⟨a3, s3, ok3, rfl⟩
      rw [set_app hh]
      refine agr_name (fun _ _ _ _ _ => ats_nil (iteT (fun _ _ _ _ _ => ?_)))
      repeat walk_at "go1"
      refine c_lenS (sz (by omega)) ?_
      repeat walk_at "go1"
      refine draw_at (app_lt hh) ok3 (by omega) (by omega) (fun r5 a7 s7 ok7 r50 r51 => ?_)
      obtain ⟨c, hc, hc1, hcm⟩ := str_at hz.ok r50 r51
      refine ix_S (sz (by omega)) hc ?_
      exact ⟨_, .str ⟨#[c]⟩, (set_app hh).symm, ⟨_, _, ok7, rfl⟩, rfl, c, rfl, hcm⟩
    · rintro O' ds ⟨a3, s3, ok3, rfl⟩ hds hdl
      obtain ⟨ys, rfl, hy⟩ := strs_of (P := fun y => ∃ c, y = ⟨#[c]⟩ ∧ c ∈ cds z) fun d hd => by
        obtain ⟨x, _, c, e1, e2⟩ := hds d hd
        exact ⟨_, e1, c, rfl, e2⟩
      walk_at "go1"
      have hl1 : ∀ y ∈ ys, y.length ≤ 1 := fun y h => by
        obtain ⟨c, rfl, _⟩ := hy y h
        exact Nat.le_refl _
      obtain ⟨j1, j2⟩ := join0_len hl1
      have hn : ys.length ≤ m.toNat := by
        rw [List.length_map] at hdl
        unfold rngP at hdl
        rw [List.length_map, List.length_range] at hdl
        exact hdl
      refine m_join ?_ (.keep (q _ _ _ ok3 (by omega) fun c hc => ?_))
      · show _ + ys.length * 0 ≤ _
        omega
      · rw [cds_join0] at hc
        obtain ⟨l, hl, hc⟩ := List.mem_flatten.mp hc
        obtain ⟨y, hy1, rfl⟩ := List.mem_map.mp hl
        obtain ⟨c', rfl, hc'⟩ := hy y hy1
        have e : c = c' := by simpa [cds] using hc
        rw [e]; exact hc'
end
end K29
set_option pp.maxSteps 1200
namespace K29
open PySem PySem.Spec L2 Al
open PyProof.Rows hiding St
local macro_rules | `(tactic| walk_at "v") => `(tactic| first | refine ae_var 0 rfl ?_ | refine ae_var 1 rfl ?_ | refine ae_var 2 rfl ?_ | refine ae_var 3 rfl ?_ | refine ae_var 4 rfl ?_ | refine ae_var 5 rfl ?_ | refine ae_var 6 rfl ?_ | refine ae_var 7 rfl ?_ | refine ae_var 8 rfl ?_ | refine ae_var 9 rfl ?_ | refine ae_var 10 rfl ?_ | refine ae_var 11 rfl ?_ | refine ae_var 12 rfl ?_ | refine ae_var 13 rfl ?_ | refine ae_var 14 rfl ?_ | refine ae_var 15 rfl ?_ | refine ae_var 16 rfl ?_ | refine ae_var 17 rfl ?_ | refine ae_var 18 rfl ?_ | refine ae_var 19 rfl ?_ | refine ae_ty (Txt.int_ ‹_›) boot_int ?_ | refine ae_ty (Txt.str_ ‹_›) boot_str ?_ | refine ae_ty (Txt.bool_ ‹_›) boot_bool ?_ | refine ae_ty (Txt.list_ ‹_›) boot_list ?_ | refine ae_ty (Txt.tuple_ ‹_›) boot_tuple ?_ | refine ae_globS (Txt.LETTERS ‹_›).choose_spec ?_ | refine ae_globI (Txt.MOST_ROOMS ‹_›).choose_spec ?_ | refine ae_globI (Txt.MOST_STEPS ‹_›).choose_spec ?_ | refine ae_globI (Txt.MOST_WORD ‹_›).choose_spec ?_)
local macro_rules | `(tactic| walk_at "ge") => `(tactic| first
  | ((with_reducible show ite (true = true) _ _); refine iteT ?_)
  | ((with_reducible show ite (false = true) _ _); refine iteF ?_)
  | ((with_reducible show ite ((!true) = true) _ _); refine iteF ?_)
  | ((with_reducible show ite ((!false) = true) _ _); refine iteT ?_)
  | ((with_reducible show IsB _ _ _); refine isB_mk ?_)
  | ((with_reducible show AE _ (Expr.Name _ _) _ _ _); walk_at "v")
  | ((with_reducible show AE _ (Expr.Constant (Const.int _) _ _) _ _ _); refine ae_int ?_)
  | ((with_reducible show AE _ (Expr.Constant (Const.str _) _ _) _ _ _); refine ae_str ?_)
  | ((with_reducible show AE _ (Expr.Constant (Const.bool _) _ _) _ _ _); refine ae_bl ?_)
  | ((with_reducible show AE _ (Expr.Constant Const.none _ _) _ _ _); refine ae_non ?_)
  | ((with_reducible show AO1 _ (some _) _ _ _); refine ao_some ?_)
  | ((with_reducible show AO1 _ none _ _ _); refine ao_none ?_)
  | ((with_reducible show AE _ (Expr.BinOp _ _ _ _) _ _ _); refine ae_bin ?_)
  | ((with_reducible show AE _ (Expr.Compare _ [_] [_] _) _ _ _); refine ae_cmp ?_)
  | ((with_reducible show AE _ (Expr.Compare _ [_, _] [_, _] _) _ _ _); refine ae_chain ?_)
  | ((with_reducible show AE _ (Expr.Subscript _ (Expr.Slice none none (some _) _) _) _ _ _); refine ae_revS ?_)
  | ((with_reducible show AE _ (Expr.Subscript _ (Expr.Slice _ _ _ _) _) _ _ _); fail)
  | ((with_reducible show AE _ (Expr.Subscript _ _ _) _ _ _); refine ae_ix ?_)
  | ((with_reducible show AE _ (Expr.BoolOp _ [_] _) _ _ _); refine ae_one ?_)
  | ((with_reducible show AE _ (Expr.BoolOp BoolOp.And _ _) _ _ _); refine ae_and ?_)
  | ((with_reducible show AE _ (Expr.BoolOp BoolOp.Or _ _) _ _ _); refine ae_or ?_)
  | ((with_reducible show AE _ (Expr.UnaryOp UnaryOp.Not _ _) _ _ _); refine ae_not ?_)
  | ((with_reducible show AE _ (Expr.UnaryOp _ _ _) _ _ _); refine ae_un ?_)
  | ((with_reducible show AE _ (Expr.IfExp _ _ _ _) _ _ _); refine ae_if ?_)
  | ((with_reducible show AT _ (Expr.Compare _ [_] [_] _) _ _ _); refine at_cmp ?_)
  | ((with_reducible show AT _ (Expr.Compare _ [_, _] [_, _] _) _ _ _); refine at_chain ?_)
  | ((with_reducible show AT _ (Expr.UnaryOp UnaryOp.Not _ _) _ _ _); refine at_not ?_)
  | ((with_reducible show AT _ (Expr.BoolOp _ _ _) _ _ _); refine at_w ?_)
  | ((with_reducible show AT _ (Expr.Call _ _ _ _) _ _ _); refine at_val ?_)
  | ((with_reducible show AT _ (Expr.Name _ _) _ _ _); refine at_val ?_)
  | ((with_reducible show AW _ (Expr.BoolOp BoolOp.And [_] _) _ _ _); refine aw_and1 ?_)
  | ((with_reducible show AW _ (Expr.BoolOp BoolOp.Or [_] _) _ _ _); refine aw_or1 ?_)
  | ((with_reducible show AW _ (Expr.BoolOp BoolOp.And _ _) _ _ _); refine aw_and ?_)
  | ((with_reducible show AW _ (Expr.BoolOp BoolOp.Or _ _) _ _ _); refine aw_or ?_)
  | ((with_reducible show AA _ [] _ _ _); refine aa_nil ?_)
  | ((with_reducible show AA _ (_ :: _) _ _ _); refine aa_cons ?_)
  | ((with_reducible show BinA _ (binaryOp Operator.Add) (PV.d (PyData.int _)) (PV.d (PyData.int _)) _ _); refine b_add ?_)
  | ((with_reducible show BinA _ (binaryOp Operator.Sub) (PV.d (PyData.int _)) (PV.d (PyData.int _)) _ _); refine b_sub ?_)
  | ((with_reducible show BinA _ (compareOp CmpOp.Lt) (PV.d (PyData.int _)) (PV.d (PyData.int _)) _ _); refine b_lt ?_)
  | ((with_reducible show BinA _ (compareOp CmpOp.LtE) (PV.d (PyData.int _)) (PV.d (PyData.int _)) _ _); refine b_le ?_)
  | ((with_reducible show BinA _ (compareOp CmpOp.Gt) (PV.d (PyData.int _)) (PV.d (PyData.int _)) _ _); refine b_gt ?_)
  | ((with_reducible show BinA _ (compareOp CmpOp.GtE) (PV.d (PyData.int _)) (PV.d (PyData.int _)) _ _); refine b_ge ?_)
  | ((with_reducible show BinA _ (compareOp CmpOp.Eq) (PV.d (PyData.int _)) (PV.d (PyData.int _)) _ _); refine b_eqI ?_)
  | ((with_reducible show BinA _ (compareOp CmpOp.NotEq) (PV.d (PyData.int _)) (PV.d (PyData.int _)) _ _); refine b_neI ?_)
  | ((with_reducible show BinA _ (compareOp CmpOp.Eq) (PV.d (PyData.str _)) (PV.d (PyData.str _)) _ _); refine b_eqS ?_)
  | ((with_reducible show BinA _ (compareOp CmpOp.NotEq) (PV.d (PyData.str _)) (PV.d (PyData.str _)) _ _); refine b_neS ?_)
  | ((with_reducible show BinA _ (compareOp CmpOp.LtE) (PV.d (PyData.str _)) (PV.d (PyData.str _)) _ _); refine b_leS ?_)
  | ((with_reducible show BinA _ (compareOp CmpOp.Lt) (PV.d (PyData.str _)) (PV.d (PyData.str _)) _ _); refine b_ltS ?_)
  | ((with_reducible show BinA _ (compareOp CmpOp.Eq) (PV.d (PyData.bool _)) (PV.d (PyData.bool _)) _ _); refine b_eqB ?_)
  | ((with_reducible show AE _ (Expr.Call (Expr.Name "int" _) _ [] _) _ _ _); refine ae_callTy rfl (Txt.int_ ‹_›) boot_int ?_)
  | ((with_reducible show AE _ (Expr.Call (Expr.Name "isinstance" _) _ [] _) _ _ _); refine ae_callB rfl (Txt.isi_ ‹_›) boot_isinstance ?_)
  | ((with_reducible show AE _ (Expr.Call (Expr.Name "len" _) _ [] _) _ _ _); refine ae_callB rfl (Txt.len_ ‹_›) PySem.boot_len ?_)
  | ((with_reducible show AE _ (Expr.Call (Expr.Name "list" _) _ [] _) _ _ _); refine ae_callTy rfl (Txt.list_ ‹_›) boot_list ?_)
  | ((with_reducible show AE _ (Expr.Call (Expr.Name "max" _) _ [] _) _ _ _); refine ae_callB rfl (Txt.max_ ‹_›) boot_max ?_)
  | ((with_reducible show AE _ (Expr.Call (Expr.Name "min" _) _ [] _) _ _ _); refine ae_callB rfl (Txt.min_ ‹_›) boot_min ?_)
  | ((with_reducible show AE _ (Expr.Call (Expr.Name "sum" _) _ [] _) _ _ _); refine ae_callB rfl (Txt.sum_ ‹_›) boot_sum ?_)
  | ((with_reducible show CallA _ (Value.builtin "isinstance") [PV.d _, PV.v (V.ty "int")] _ _); refine c_isInt ?_)
  | ((with_reducible show CallA _ (Value.builtin "isinstance") [PV.d _, PV.v (V.ty "str")] _ _); refine c_isStr ?_)
  | ((with_reducible show CallA _ (Value.builtin "isinstance") [PV.d _, PV.v (V.ty "bool")] _ _); refine c_isBool ?_)
  | ((with_reducible show CallA _ (Value.builtin "isinstance") [PV.d _, PV.v (V.ty "list")] _ _); refine c_isList ?_)
  | ((with_reducible show CallA _ (Value.builtin "isinstance") [PV.d _, PV.v (V.ty "tuple")] _ _); refine c_isTup ?_)
  | ((with_reducible show CallA _ (Value.builtin "len") [PV.d (PyData.list _)] _ _); refine c_lenL ?_)
  | ((with_reducible show CallA _ (Value.builtin "len") [PV.d (PyData.tuple _)] _ _); refine c_lenT ?_)
  | ((with_reducible show CallA _ (Value.builtin "sum") [PV.d (PyData.list (List.map PyData.int _))] _ _); refine c_sum rfl ?_)
  | ((with_reducible show CallA _ (Value.type "int") [PV.d (PyData.bool _)] _ _); refine c_intB ?_)
  | ((with_reducible show AE _ (Expr.Call (Expr.Attribute _ "append" _) _ _ _) _ _ _); refine ae_bm PySem.F.plainAttrs_list PySem.F.slot_list_append PySem.F.type_list_append ?_)
  | ((with_reducible show BinA _ (inplaceOp Operator.Add) (PV.d (PyData.int _)) (PV.d (PyData.int _)) _ _); refine ib_add ?_)
  | ((with_reducible show UnA _ (unaryOp UnaryOp.USub) (PV.d (PyData.int _)) _ _); refine u_neg ?_)
  | ((with_reducible show IxA _ (PV.d (mD _)) (PV.d (PyData.int 0)) _ _); refine ixm0 ?_)
  | ((with_reducible show IxA _ (PV.d (mD _)) (PV.d (PyData.int 1)) _ _); refine ixm1 ?_)
  | ((with_reducible show IxA _ (PV.d (mD _)) (PV.d (PyData.int 2)) _ _); refine ixm2 ?_)
  | ((with_reducible show IxA _ (PV.d (mD _)) (PV.d (PyData.int 3)) _ _); refine ixm3 ?_)
  | ((with_reducible show IxA _ (PV.d (stD _)) (PV.d (PyData.int 0)) _ _); refine ixs0 ?_)
  | ((with_reducible show IxA _ (PV.d (stD _)) (PV.d (PyData.int 1)) _ _); refine ixs1 ?_)
  | ((with_reducible show IxA _ (PV.d (stD _)) (PV.d (PyData.int 2)) _ _); refine ixs2 ?_))
local macro_rules | `(tactic| walk_at "go1") => `(tactic| first
  | walk_at "ge"
  | ((with_reducible show ASs _ (_ :: _) _ _ _); refine as_cons ?_)
  | ((with_reducible show ASs _ [] _ _ _); refine as_nil ?_)
  | ((with_reducible show AS _ (Stmt.Return (some _) _) _ _ _); refine as_ret ?_)
  | ((with_reducible show AS _ (Stmt.If _ _ _ _) _ _ _); refine as_if ?_)
  | ((with_reducible show AS _ (Stmt.Expr _ _) _ _ _); refine as_expr ?_))
local macro_rules | `(tactic| walk_at "fld") => `(tactic| (refine ae_fld ?_; refine ae_var 0 rfl ?_; refine ⟨_, "Reader", _, _, rfl, by assumption, Xs.k_Reader ‹_›, ?_, rfl, ?_⟩; (first | exact Xs.f_Reader_read_machine ‹_› | exact Xs.f_Reader_word ‹_› | exact Xs.f_Reader_vectors ‹_›)))
local macro_rules | `(tactic| walk_at "ge") => `(tactic| first | ((with_reducible show AE _ (Expr.Attribute (Expr.Name "self" _) _ _) _ _ _); walk_at "fld") | ((with_reducible show AT _ (Expr.Attribute _ _ _) _ _ _); refine at_val ?_))
section
variable {P : Program} {w : World} {K : PySem.W.Frag} {mg : Str → Option Value} {base : Heap}
theorem ok_Reader___eq__ {f : Addr} {fd : FuncData} (F : Fun K "__eq__" "Reader.__eq__" s_Reader___eq__ f fd) (T : Txt mg) (XS : Xs ⟨P, w, K, mg, base⟩) : Fn ⟨P, w, K, mg, base⟩ 1 f fd P_Reader___eq__ (up rEqR) := by
  refine okA F sc_Reader___eq__ (fun args O Φ Ξ h => ?_) (fun cdv A outer s H E as0 F0 args O Φ Ξ hr h => ?_)
  · first | (obtain ⟨rfl, _⟩ := h; rfl) | (obtain ⟨_, rfl, _⟩ := h; rfl) | (obtain ⟨_, _, rfl, _⟩ := h; rfl) | (obtain ⟨_, _, _, rfl, _⟩ := h; rfl) | (obtain ⟨_, _, _, _, rfl, _⟩ := h; rfl) | (obtain ⟨_, _, _, _, _, rfl, _⟩ := h; rfl) | (obtain ⟨_, _, _, _, _, _, rfl, _⟩ := h; rfl) | (obtain ⟨_, _, _, _, _, _, _, rfl, _⟩ := h; rfl) | (obtain ⟨_, _, _, _, _, _, _, _, rfl, _⟩ := h; rfl) | (obtain ⟨_, _, _, _, _, _, _, _, _, rfl, _⟩ := h; rfl) | (obtain ⟨_, _, _, _, _, _, _, _, _, _, rfl, _⟩ := h; rfl) | (obtain ⟨_, _, _, _, _, _, _, _, _, _, _, rfl, _⟩ := h; rfl)
  · skip
    obtain ⟨n, y, q0, m, z, rfl, hO, hm, h⟩ := h
    have shm : ∀ {m : Mach}, MOk m → SeqAt.shaped (mD m) = true := fun h => h.shp.sh (by decide)
    refine as_cons ?_
    obtain ⟨n2, q2, m2, z2, rfl, hO2, hm2, q⟩ | ⟨d, rfl, q⟩ | ⟨j, xs, rfl, hj, q⟩ := h
    · refine as_if ?_
      walk_at "ge"
      walk_at "ge"
      refine ae_callB rfl T.isi_ rfl (aa_cons (ae_var 1 rfl (aa_cons (ae_cls XS.e_Reader.nm (fun C hC _ _ => aa_nil (c_isK XS.e_Reader hC hO2 ?_))))))
      refine isB_mk (iteF ?_)
      refine as_nil ?_
      refine as_cons (as_ret ?_)
      repeat walk_at "ge"
      refine ae_fld (ae_var 1 rfl ⟨_, "Reader", _, _, rfl, hO2, XS.k_Reader, XS.f_Reader_read_machine, rfl, ?_⟩)
      refine b_eq hr.units (shm hm) (shm hm2) ?_
      unfold eqM at q
      refine isB_mk (ifb (fun h1 => ?_) (fun h1 => ?_))
      · rw [h1, Bool.true_and] at q
        repeat walk_at "ge"
        refine ae_fld (ae_var 1 rfl ⟨_, "Reader", _, _, rfl, hO2, XS.k_Reader, XS.f_Reader_word, rfl, ?_⟩)
        refine b_eqS ?_
        exact .keep q
      · rw [h1, Bool.false_and] at q
        exact .keep q
    · refine as_if ?_
      walk_at "ge"
      walk_at "ge"
      refine ae_callB rfl T.isi_ rfl (aa_cons (ae_var 1 rfl (aa_cons (ae_cls XS.e_Reader.nm (fun C hC _ _ => aa_nil (c_isKd XS.e_Reader hC ?_))))))
      refine isB_mk (iteT ?_)
      refine as_cons (as_ret ?_)
      repeat walk_at "ge"
      exact .keep q
    · refine as_if ?_
      walk_at "ge"
      walk_at "ge"
      refine ae_callB rfl T.isi_ rfl (aa_cons (ae_var 1 rfl (aa_cons (ae_cls XS.e_Reader.nm (fun C hC _ _ => aa_nil (c_isKl XS.e_Reader hC hj ?_))))))
      refine isB_mk (iteT ?_)
      refine as_cons (as_ret ?_)
      repeat walk_at "ge"
      exact .keep q
end
end K29
set_option pp.maxSteps 1200
namespace K29
open PySem PySem.Spec L2 Al
open PyProof.Rows hiding St
local macro_rules | `(tactic| walk_at "v") => `(tactic| first | refine ae_var 0 rfl ?_ | refine ae_var 1 rfl ?_ | refine ae_var 2 rfl ?_ | refine ae_var 3 rfl ?_ | refine ae_var 4 rfl ?_ | refine ae_var 5 rfl ?_ | refine ae_var 6 rfl ?_ | refine ae_var 7 rfl ?_ | refine ae_var 8 rfl ?_ | refine ae_var 9 rfl ?_ | refine ae_var 10 rfl ?_ | refine ae_var 11 rfl ?_ | refine ae_var 12 rfl ?_ | refine ae_var 13 rfl ?_ | refine ae_var 14 rfl ?_ | refine ae_var 15 rfl ?_ | refine ae_var 16 rfl ?_ | refine ae_var 17 rfl ?_ | refine ae_var 18 rfl ?_ | refine ae_var 19 rfl ?_ | refine ae_ty (Txt.int_ ‹_›) boot_int ?_ | refine ae_ty (Txt.str_ ‹_›) boot_str ?_ | refine ae_ty (Txt.bool_ ‹_›) boot_bool ?_ | refine ae_ty (Txt.list_ ‹_›) boot_list ?_ | refine ae_ty (Txt.tuple_ ‹_›) boot_tuple ?_ | refine ae_globS (Txt.LETTERS ‹_›).choose_spec ?_ | refine ae_globI (Txt.MOST_ROOMS ‹_›).choose_spec ?_ | refine ae_globI (Txt.MOST_STEPS ‹_›).choose_spec ?_ | refine ae_globI (Txt.MOST_WORD ‹_›).choose_spec ?_)
local macro_rules | `(tactic| walk_at "ge") => `(tactic| first
  | ((with_reducible show ite (true = true) _ _); refine iteT ?_)
  | ((with_reducible show ite (false = true) _ _); refine iteF ?_)
  | ((with_reducible show ite ((!true) = true) _ _); refine iteF ?_)
  | ((with_reducible show ite ((!false) = true) _ _); refine iteT ?_)
  | ((with_reducible show IsB _ _ _); refine isB_mk ?_)
  | ((with_reducible show AE _ (Expr.Name _ _) _ _ _); walk_at "v")
  | ((with_reducible show AE _ (Expr.Constant (Const.int _) _ _) _ _ _); refine ae_int ?_)
  | ((with_reducible show AE _ (Expr.Constant (Const.str _) _ _) _ _ _); refine ae_str ?_)
  | ((with_reducible show AE _ (Expr.Constant (Const.bool _) _ _) _ _ _); refine ae_bl ?_)
  | ((with_reducible show AE _ (Expr.Constant Const.none _ _) _ _ _); refine ae_non ?_)
  | ((with_reducible show AO1 _ (some _) _ _ _); refine ao_some ?_)
  | ((with_reducible show AO1 _ none _ _ _); refine ao_none ?_)
  | ((with_reducible show AE _ (Expr.BinOp _ _ _ _) _ _ _); refine ae_bin ?_)
  | ((with_reducible show AE _ (Expr.Compare _ [_] [_] _) _ _ _); refine ae_cmp ?_)
  | ((with_reducible show AE _ (Expr.Compare _ [_, _] [_, _] _) _ _ _); refine ae_chain ?_)
  | ((with_reducible show AE _ (Expr.Subscript _ (Expr.Slice none none (some _) _) _) _ _ _); refine ae_revS ?_)
  | ((with_reducible show AE _ (Expr.Subscript _ (Expr.Slice _ _ _ _) _) _ _ _); fail)
  | ((with_reducible show AE _ (Expr.Subscript _ _ _) _ _ _); refine ae_ix ?_)
  | ((with_reducible show AE _ (Expr.BoolOp _ [_] _) _ _ _); refine ae_one ?_)
  | ((with_reducible show AE _ (Expr.BoolOp BoolOp.And _ _) _ _ _); refine ae_and ?_)
  | ((with_reducible show AE _ (Expr.BoolOp BoolOp.Or _ _) _ _ _); refine ae_or ?_)
  | ((with_reducible show AE _ (Expr.UnaryOp UnaryOp.Not _ _) _ _ _); refine ae_not ?_)
  | ((with_reducible show AE _ (Expr.UnaryOp _ _ _) _ _ _); refine ae_un ?_)
  | ((with_reducible show AE _ (Expr.IfExp _ _ _ _) _ _ _); refine ae_if ?_)
  | ((with_reducible show AT _ (Expr.Compare _ [_] [_] _) _ _ _); refine at_cmp ?_)
  | ((with_reducible show AT _ (Expr.Compare _ [_, _] [_, _] _) _ _ _); refine at_chain ?_)
  | ((with_reducible show AT _ (Expr.UnaryOp UnaryOp.Not _ _) _ _ _); refine at_not ?_)
  | ((with_reducible show AT _ (Expr.BoolOp _ _ _) _ _ _); refine at_w ?_)
  | ((with_reducible show AT _ (Expr.Call _ _ _ _) _ _ _); refine at_val ?_)
  | ((with_reducible show AT _ (Expr.Name _ _) _ _ _); refine at_val ?_)
  | ((with_reducible show AW _ (Expr.BoolOp BoolOp.And [_] _) _ _ _); refine aw_and1 ?_)
  | ((with_reducible show AW _ (Expr.BoolOp BoolOp.Or [_] _) _ _ _); refine aw_or1 ?_)
  | ((with_reducible show AW _ (Expr.BoolOp BoolOp.And _ _) _ _ _); refine aw_and ?_)
  | ((with_reducible show AW _ (Expr.BoolOp BoolOp.Or _ _) _ _ _); refine aw_or ?_)
  | ((with_reducible show AA _ [] _ _ _); refine aa_nil ?_)
  | ((with_reducible show AA _ (_ :: _) _ _ _); refine aa_cons ?_)
  | ((with_reducible show BinA _ (binaryOp Operator.Add) (PV.d (PyData.int _)) (PV.d (PyData.int _)) _ _); refine b_add ?_)
  | ((with_reducible show BinA _ (binaryOp Operator.Sub) (PV.d (PyData.int _)) (PV.d (PyData.int _)) _ _); refine b_sub ?_)
  | ((with_reducible show BinA _ (compareOp CmpOp.Lt) (PV.d (PyData.int _)) (PV.d (PyData.int _)) _ _); refine b_lt ?_)
  | ((with_reducible show BinA _ (compareOp CmpOp.LtE) (PV.d (PyData.int _)) (PV.d (PyData.int _)) _ _); refine b_le ?_)
  | ((with_reducible show BinA _ (compareOp CmpOp.Gt) (PV.d (PyData.int _)) (PV.d (PyData.int _)) _ _); refine b_gt ?_)
  | ((with_reducible show BinA _ (compareOp CmpOp.GtE) (PV.d (PyData.int _)) (PV.d (PyData.int _)) _ _); refine b_ge ?_)
  | ((with_reducible show BinA _ (compareOp CmpOp.Eq) (PV.d (PyData.int _)) (PV.d (PyData.int _)) _ _); refine b_eqI ?_)
  | ((with_reducible show BinA _ (compareOp CmpOp.NotEq) (PV.d (PyData.int _)) (PV.d (PyData.int _)) _ _); refine b_neI ?_)
  | ((with_reducible show BinA _ (compareOp CmpOp.Eq) (PV.d (PyData.str _)) (PV.d (PyData.str _)) _ _); refine b_eqS ?_)
  | ((with_reducible show BinA _ (compareOp CmpOp.NotEq) (PV.d (PyData.str _)) (PV.d (PyData.str _)) _ _); refine b_neS ?_)
  | ((with_reducible show BinA _ (compareOp CmpOp.LtE) (PV.d (PyData.str _)) (PV.d (PyData.str _)) _ _); refine b_leS ?_)
  | ((with_reducible show BinA _ (compareOp CmpOp.Lt) (PV.d (PyData.str _)) (PV.d (PyData.str _)) _ _); refine b_ltS ?_)
  | ((with_reducible show BinA _ (compareOp CmpOp.Eq) (PV.d (PyData.bool _)) (PV.d (PyData.bool _)) _ _); refine b_eqB ?_)
  | ((with_reducible show AE _ (Expr.Call (Expr.Name "int" _) _ [] _) _ _ _); refine ae_callTy rfl (Txt.int_ ‹_›) boot_int ?_)
  | ((with_reducible show AE _ (Expr.Call (Expr.Name "isinstance" _) _ [] _) _ _ _); refine ae_callB rfl (Txt.isi_ ‹_›) boot_isinstance ?_)
  | ((with_reducible show AE _ (Expr.Call (Expr.Name "len" _) _ [] _) _ _ _); refine ae_callB rfl (Txt.len_ ‹_›) PySem.boot_len ?_)
  | ((with_reducible show AE _ (Expr.Call (Expr.Name "list" _) _ [] _) _ _ _); refine ae_callTy rfl (Txt.list_ ‹_›) boot_list ?_)
  | ((with_reducible show AE _ (Expr.Call (Expr.Name "max" _) _ [] _) _ _ _); refine ae_callB rfl (Txt.max_ ‹_›) boot_max ?_)
  | ((with_reducible show AE _ (Expr.Call (Expr.Name "min" _) _ [] _) _ _ _); refine ae_callB rfl (Txt.min_ ‹_›) boot_min ?_)
  | ((with_reducible show AE _ (Expr.Call (Expr.Name "sum" _) _ [] _) _ _ _); refine ae_callB rfl (Txt.sum_ ‹_›) boot_sum ?_)
  | ((with_reducible show AE _ (Expr.Call (Expr.Name "_law_machine" _) _ [] _) _ _ _); refine ae_callA ‹D__law_machine _› (RoomG.mono ‹_› (by first | decide | omega)) ?_)
  | ((with_reducible show AE _ (Expr.Call (Expr.Name "_law_draw" _) _ [] _) _ _ _); refine ae_callA ‹D__law_draw _› (RoomG.mono ‹_› (by first | decide | omega)) ?_)
  | ((with_reducible show CallA _ (Value.builtin "isinstance") [PV.d _, PV.v (V.ty "int")] _ _); refine c_isInt ?_)
  | ((with_reducible show CallA _ (Value.builtin "isinstance") [PV.d _, PV.v (V.ty "str")] _ _); refine c_isStr ?_)
  | ((with_reducible show CallA _ (Value.builtin "isinstance") [PV.d _, PV.v (V.ty "bool")] _ _); refine c_isBool ?_)
  | ((with_reducible show CallA _ (Value.builtin "isinstance") [PV.d _, PV.v (V.ty "list")] _ _); refine c_isList ?_)
  | ((with_reducible show CallA _ (Value.builtin "isinstance") [PV.d _, PV.v (V.ty "tuple")] _ _); refine c_isTup ?_)
  | ((with_reducible show CallA _ (Value.builtin "len") [PV.d (PyData.list _)] _ _); refine c_lenL ?_)
  | ((with_reducible show CallA _ (Value.builtin "len") [PV.d (PyData.tuple _)] _ _); refine c_lenT ?_)
  | ((with_reducible show CallA _ (Value.builtin "sum") [PV.d (PyData.list (List.map PyData.int _))] _ _); refine c_sum rfl ?_)
  | ((with_reducible show CallA _ (Value.type "int") [PV.d (PyData.bool _)] _ _); refine c_intB ?_)
  | ((with_reducible show AE _ (Expr.Call (Expr.Attribute _ "append" _) _ _ _) _ _ _); refine ae_bm PySem.F.plainAttrs_list PySem.F.slot_list_append PySem.F.type_list_append ?_)
  | ((with_reducible show BinA _ (inplaceOp Operator.Add) (PV.d (PyData.int _)) (PV.d (PyData.int _)) _ _); refine ib_add ?_)
  | ((with_reducible show UnA _ (unaryOp UnaryOp.USub) (PV.d (PyData.int _)) _ _); refine u_neg ?_)
  | ((with_reducible show IxA _ (PV.d (mD _)) (PV.d (PyData.int 0)) _ _); refine ixm0 ?_)
  | ((with_reducible show IxA _ (PV.d (mD _)) (PV.d (PyData.int 1)) _ _); refine ixm1 ?_)
  | ((with_reducible show IxA _ (PV.d (mD _)) (PV.d (PyData.int 2)) _ _); refine ixm2 ?_)
  | ((with_reducible show IxA _ (PV.d (mD _)) (PV.d (PyData.int 3)) _ _); refine ixm3 ?_)
  | ((with_reducible show IxA _ (PV.d (stD _)) (PV.d (PyData.int 0)) _ _); refine ixs0 ?_)
  | ((with_reducible show IxA _ (PV.d (stD _)) (PV.d (PyData.int 1)) _ _); refine ixs1 ?_)
  | ((with_reducible show IxA _ (PV.d (stD _)) (PV.d (PyData.int 2)) _ _); refine ixs2 ?_))
local macro_rules | `(tactic| walk_at "go1") => `(tactic| first
  | walk_at "ge"
  | ((with_reducible show ASs _ (_ :: _) _ _ _); refine as_cons ?_)
  | ((with_reducible show ASs _ [] _ _ _); refine as_nil ?_)
  | ((with_reducible show AS _ (Stmt.Return (some _) _) _ _ _); refine as_ret ?_)
  | ((with_reducible show AS _ (Stmt.If _ _ _ _) _ _ _); refine as_if ?_)
  | ((with_reducible show AS _ (Stmt.Expr _ _) _ _ _); refine as_expr ?_))
local macro_rules | `(tactic| walk_at "fld") => `(tactic| (refine ae_fld ?_; refine ae_var 0 rfl ?_; refine ⟨_, "Reader", _, _, rfl, by assumption, Xs.k_Reader ‹_›, ?_, rfl, ?_⟩; (first | exact Xs.f_Reader_read_machine ‹_› | exact Xs.f_Reader_word ‹_› | exact Xs.f_Reader_vectors ‹_›)))
local macro_rules | `(tactic| walk_at "ge") => `(tactic| first | ((with_reducible show AE _ (Expr.Attribute (Expr.Name "self" _) _ _) _ _ _); walk_at "fld") | ((with_reducible show AT _ (Expr.Attribute _ _ _) _ _ _); refine at_val ?_))
section
variable {P : Program} {w : World} {K : PySem.W.Frag} {mg : Str → Option Value} {base : Heap}
theorem ok__law_machines {f : Addr} {fd : FuncData} (F : Fun K "_law_machines" "_law_machines" s__law_machines f fd) (T : Txt mg) (XS : Xs ⟨P, w, K, mg, base⟩) (E1 : D__law_machine ⟨P, w, K, mg, base⟩) (E2 : D__law_draw ⟨P, w, K, mg, base⟩) : Fn ⟨P, w, K, mg, base⟩ 4 f fd P__law_machines (up rMachs29) := by
  refine okA F sc__law_machines (fun args O Φ Ξ h => ?_) (fun cdv A outer s H E as0 F0 args O Φ Ξ hr h => ?_)
  · first | (obtain ⟨rfl, _⟩ := h; rfl) | (obtain ⟨_, rfl, _⟩ := h; rfl) | (obtain ⟨_, _, rfl, _⟩ := h; rfl) | (obtain ⟨_, _, _, rfl, _⟩ := h; rfl) | (obtain ⟨_, _, _, _, rfl, _⟩ := h; rfl) | (obtain ⟨_, _, _, _, _, rfl, _⟩ := h; rfl) | (obtain ⟨_, _, _, _, _, _, rfl, _⟩ := h; rfl) | (obtain ⟨_, _, _, _, _, _, _, rfl, _⟩ := h; rfl) | (obtain ⟨_, _, _, _, _, _, _, _, rfl, _⟩ := h; rfl) | (obtain ⟨_, _, _, _, _, _, _, _, _, rfl, _⟩ := h; rfl) | (obtain ⟨_, _, _, _, _, _, _, _, _, _, rfl, _⟩ := h; rfl) | (obtain ⟨_, _, _, _, _, _, _, _, _, _, _, rfl, _⟩ := h; rfl)
  · skip
    obtain ⟨h, a, s, z, rfl, hO, ok, hz, cl, q⟩ := h
    have hh : h < O.length := (List.getElem?_eq_some_iff.mp hO).1
    have ll : ∀ a s, (O.set h (hnd a s)).length = O.length := fun _ _ => List.length_set
    have hx : ∀ X, (O.set h X)[h]? = some X := fun X => List.getElem?_set_self hh
    refine as_cons (as_set 2 sc__law_machines.nd ?_)
    repeat walk_at "ge"
    refine ⟨h, a, s, 4, 7, z, rfl, hO, ok, by decide, by decide, by decide, by decide, hz, cl, fun m a1 s1 ok1 hm hmn _ hml => ?_⟩
    refine as_cons (as_set 3 sc__law_machines.nd ?_)
    repeat walk_at "ge"
    refine ⟨h, a1, s1, 4, 7, z, rfl, hx _, ok1, by decide, by decide, by decide, by decide, hz, cl_hnd cl, fun m2 a2 s2 ok2 hm2 hmn2 _ hml2 => ?_⟩
    rw [List.set_set]
    refine as_cons (as_set 4 sc__law_machines.nd (ae_tupD ?_))
    repeat walk_at "ge"
    refine c_listD isL_d ?_
    repeat walk_at "ge"
    refine c_listD isL_d ?_
    repeat walk_at "ge"
    refine c_listD isL_d ?_
    repeat walk_at "ge"
    refine ⟨[iD m.n, rmsD m.fs, rmsD m.ls, stsD m.st], rfl, by show 4 ≤ 16000000; decide, ?_⟩
    refine as_cons (as_set 5 sc__law_machines.nd (ae_tupD ?_))
    repeat walk_at "ge"
    refine c_listD isL_d ?_
    repeat walk_at "ge"
    refine c_listD isL_d ?_
    refine aa_cons (ae_revL ?_)
    repeat walk_at "ge"
    refine ⟨_, rfl, ?_⟩
    repeat walk_at "ge"
    refine ⟨[iD m.n, rmsD m.fs, rmsD m.ls, stsD m.st.reverse], by rw [← List.map_reverse]; rfl, by show 4 ≤ 16000000; decide, ?_⟩
    refine as_cons (as_set 6 sc__law_machines.nd ?_)
    repeat walk_at "ge"
    have hn0 := hm.n0
    have hn1 := hm.n1
    refine ⟨h, a2, s2, m.n, rfl, hx _, ok2, by omega, by omega, fun w a3 s3 ok3 w0 w1 => ?_⟩
    rw [List.set_set]
    obtain ⟨v, rfl⟩ := Int.eq_ofNat_of_zero_le w0
    refine as_cons ?_
    refine as_setLc 7 (own := [("_law_room", 8)]) (g := gName 8) rfl sc__law_machines.nd (blkOk_by (N := N__law_machines) (sc := defScope s__law_machines) (by decide +kernel)) (fun _ _ _ _ _ => (pg_name (i := 8) sc__law_machines.nd rfl (.inl rfl))) (wipes_name (by decide)) mono_name ?_ rfl
    refine lc_pure (α := Nat) mono_name (ai_range1 rfl T.range_ ?_)
    repeat walk_at "ge"
    refine ⟨m.n, rfl, by omega, by omega, Nat.le_refl _, cl_hnd cl, List.range m.n, fun i => .d (iD i), fun r => if (!decide (decide (r ∈ m.ls) = decide (r = v))) = true then some (iD r) else none, by rw [Int.toNat_natCast, rng_map], by rw [List.length_range]; omega, fun _ => trivial, ?_, ?_⟩
    · intro r hr2 acc
      refine agr_name (fun _ _ _ _ _ => ats_one ?_)
      repeat walk_at "ge"
      refine b_inL (hu65 hr) rfl ((shp_rms (k := 0) _).sh (by decide)) ?_
      rw [any_rms]
      repeat walk_at "ge"
      have e9 : decide (((r : Nat) : Int) = ((v : Nat) : Int)) = decide (r = v) := by rw [Bool.eq_iff_iff, decide_eq_true_iff, decide_eq_true_iff]; omega
      rw [e9]
      refine b_ne hr.units rfl rfl ?_
      rw [show PyData.eqv (.bool (decide (r ∈ m.ls))) (.bool (decide (r = v))) = decide (decide (r ∈ m.ls) = decide (r = v)) from rfl]
      cases hb : decide (decide (r ∈ m.ls) = decide (r = v)) with
      | true =>
        repeat walk_at "ge"
        exact ⟨rfl, by dsimp only; rw [hb]; rfl⟩
      | false =>
        repeat walk_at "ge"
        refine fun _ _ _ _ _ => ?_
        repeat walk_at "ge"
        exact ⟨rfl, iD r, by dsimp only; rw [hb]; rfl, rfl⟩
    rw [fm_filter]
    refine as_cons (as_ret (ae_lstD ?_))
    repeat walk_at "ge"
    refine ae_tupD ?_
    repeat walk_at "ge"
    refine c_listD isL_d ?_
    repeat walk_at "ge"
    refine c_listD isL_d ?_
    repeat walk_at "ge"
    refine ⟨[iD m.n, rmsD m.fs, rmsD ((List.range m.n).filter fun r => !decide (decide (r ∈ m.ls) = decide (r = v))), stsD m.st], rfl, by show 4 ≤ 16000000; decide, ?_⟩
    repeat walk_at "ge"
    refine ⟨[mD m, mD m, mD m2, mD ⟨m.n, m.fs, m.ls, m.st.reverse⟩, mD ⟨m.n, m.fs, (List.range m.n).filter fun r => !decide (decide (r ∈ m.ls) = decide (r = v)), m.st⟩], rfl, by show 5 ≤ 16000000; decide, ?_⟩
    refine .keep (q [m, m, m2, ⟨m.n, m.fs, m.ls, m.st.reverse⟩, ⟨m.n, m.fs, (List.range m.n).filter fun r => !decide (decide (r ∈ m.ls) = decide (r = v)), m.st⟩] a3 s3 ok3 rfl (fun y hy => ?_))
    simp only [List.mem_cons, List.not_mem_nil, or_false] at hy
    rcases hy with rfl | rfl | rfl | rfl | rfl
    · exact hm
    · exact hm
    · exact hm2
    · exact ⟨hm.n0, hm.n1, hm.fs, hm.ls, fun s hs => hm.st s (List.mem_reverse.mp hs), by show List.Pairwise _ m.st.reverse; rw [List.pairwise_reverse]; exact hm.nd.imp fun h => Ne.symm h, by show m.st.reverse.length ≤ 200; rw [List.length_reverse]; exact hm.len⟩
    · exact ⟨hm.n0, hm.n1, hm.fs, ⟨List.Pairwise.sublist List.filter_sublist List.pairwise_lt_range, fun r hr9 => List.mem_range.mp (List.mem_filter.mp hr9).1⟩, hm.st, hm.nd, hm.len⟩
end
end K29
set_option pp.maxSteps 1200
namespace K29
open PySem PySem.Spec L2 Al
open PyProof.Rows hiding St
local macro_rules | `(tactic| walk_at "v") => `(tactic| first | refine ae_var 0 rfl ?_ | refine ae_var 1 rfl ?_ | refine ae_var 2 rfl ?_ | refine ae_var 3 rfl ?_ | refine ae_var 4 rfl ?_ | refine ae_var 5 rfl ?_ | refine ae_var 6 rfl ?_ | refine ae_var 7 rfl ?_ | refine ae_var 8 rfl ?_ | refine ae_var 9 rfl ?_ | refine ae_var 10 rfl ?_ | refine ae_var 11 rfl ?_ | refine ae_var 12 rfl ?_ | refine ae_var 13 rfl ?_ | refine ae_var 14 rfl ?_ | refine ae_var 15 rfl ?_ | refine ae_var 16 rfl ?_ | refine ae_var 17 rfl ?_ | refine ae_var 18 rfl ?_ | refine ae_var 19 rfl ?_ | refine ae_ty (Txt.int_ ‹_›) boot_int ?_ | refine ae_ty (Txt.str_ ‹_›) boot_str ?_ | refine ae_ty (Txt.bool_ ‹_›) boot_bool ?_ | refine ae_ty (Txt.list_ ‹_›) boot_list ?_ | refine ae_ty (Txt.tuple_ ‹_›) boot_tuple ?_ | refine ae_globS (Txt.LETTERS ‹_›).choose_spec ?_ | refine ae_globI (Txt.MOST_ROOMS ‹_›).choose_spec ?_ | refine ae_globI (Txt.MOST_STEPS ‹_›).choose_spec ?_ | refine ae_globI (Txt.MOST_WORD ‹_›).choose_spec ?_)
local macro_rules | `(tactic| walk_at "ge") => `(tactic| first
  | ((with_reducible show ite (true = true) _ _); refine iteT ?_)
  | ((with_reducible show ite (false = true) _ _); refine iteF ?_)
  | ((with_reducible show ite ((!true) = true) _ _); refine iteF ?_)
  | ((with_reducible show ite ((!false) = true) _ _); refine iteT ?_)
  | ((with_reducible show IsB _ _ _); refine isB_mk ?_)
  | ((with_reducible show AE _ (Expr.Name _ _) _ _ _); walk_at "v")
  | ((with_reducible show AE _ (Expr.Constant (Const.int _) _ _) _ _ _); refine ae_int ?_)
  | ((with_reducible show AE _ (Expr.Constant (Const.str _) _ _) _ _ _); refine ae_str ?_)
  | ((with_reducible show AE _ (Expr.Constant (Const.bool _) _ _) _ _ _); refine ae_bl ?_)
  | ((with_reducible show AE _ (Expr.Constant Const.none _ _) _ _ _); refine ae_non ?_)
  | ((with_reducible show AO1 _ (some _) _ _ _); refine ao_some ?_)
  | ((with_reducible show AO1 _ none _ _ _); refine ao_none ?_)
  | ((with_reducible show AE _ (Expr.BinOp _ _ _ _) _ _ _); refine ae_bin ?_)
  | ((with_reducible show AE _ (Expr.Compare _ [_] [_] _) _ _ _); refine ae_cmp ?_)
  | ((with_reducible show AE _ (Expr.Compare _ [_, _] [_, _] _) _ _ _); refine ae_chain ?_)
  | ((with_reducible show AE _ (Expr.Subscript _ (Expr.Slice none none (some _) _) _) _ _ _); refine ae_revS ?_)
  | ((with_reducible show AE _ (Expr.Subscript _ (Expr.Slice _ _ _ _) _) _ _ _); fail)
  | ((with_reducible show AE _ (Expr.Subscript _ _ _) _ _ _); refine ae_ix ?_)
  | ((with_reducible show AE _ (Expr.BoolOp _ [_] _) _ _ _); refine ae_one ?_)
  | ((with_reducible show AE _ (Expr.BoolOp BoolOp.And _ _) _ _ _); refine ae_and ?_)
  | ((with_reducible show AE _ (Expr.BoolOp BoolOp.Or _ _) _ _ _); refine ae_or ?_)
  | ((with_reducible show AE _ (Expr.UnaryOp UnaryOp.Not _ _) _ _ _); refine ae_not ?_)
  | ((with_reducible show AE _ (Expr.UnaryOp _ _ _) _ _ _); refine ae_un ?_)
  | ((with_reducible show AE _ (Expr.IfExp _ _ _ _) _ _ _); refine ae_if ?_)
  | ((with_reducible show AT _ (Expr.Compare _ [_] [_] _) _ _ _); refine at_cmp ?_)
  | ((with_reducible show AT _ (Expr.Compare _ [_, _] [_, _] _) _ _ _); refine at_chain ?_)
  | ((with_reducible show AT _ (Expr.UnaryOp UnaryOp.Not _ _) _ _ _); refine at_not ?_)
  | ((with_reducible show AT _ (Expr.BoolOp _ _ _) _ _ _); refine at_w ?_)
  | ((with_reducible show AT _ (Expr.Call _ _ _ _) _ _ _); refine at_val ?_)
  | ((with_reducible show AT _ (Expr.Name _ _) _ _ _); refine at_val ?_)
  | ((with_reducible show AW _ (Expr.BoolOp BoolOp.And [_] _) _ _ _); refine aw_and1 ?_)
  | ((with_reducible show AW _ (Expr.BoolOp BoolOp.Or [_] _) _ _ _); refine aw_or1 ?_)
  | ((with_reducible show AW _ (Expr.BoolOp BoolOp.And _ _) _ _ _); refine aw_and ?_)
  | ((with_reducible show AW _ (Expr.BoolOp BoolOp.Or _ _) _ _ _); refine aw_or ?_)
  | ((with_reducible show AA _ [] _ _ _); refine aa_nil ?_)
  | ((with_reducible show AA _ (_ :: _) _ _ _); refine aa_cons ?_)
  | ((with_reducible show BinA _ (binaryOp Operator.Add) (PV.d (PyData.int _)) (PV.d (PyData.int _)) _ _); refine b_add ?_)
  | ((with_reducible show BinA _ (binaryOp Operator.Sub) (PV.d (PyData.int _)) (PV.d (PyData.int _)) _ _); refine b_sub ?_)
  | ((with_reducible show BinA _ (compareOp CmpOp.Lt) (PV.d (PyData.int _)) (PV.d (PyData.int _)) _ _); refine b_lt ?_)
  | ((with_reducible show BinA _ (compareOp CmpOp.LtE) (PV.d (PyData.int _)) (PV.d (PyData.int _)) _ _); refine b_le ?_)
  | ((with_reducible show BinA _ (compareOp CmpOp.Gt) (PV.d (PyData.int _)) (PV.d (PyData.int _)) _ _); refine b_gt ?_)
  | ((with_reducible show BinA _ (compareOp CmpOp.GtE) (PV.d (PyData.int _)) (PV.d (PyData.int _)) _ _); refine b_ge ?_)
  | ((with_reducible show BinA _ (compareOp CmpOp.Eq) (PV.d (PyData.int _)) (PV.d (PyData.int _)) _ _); refine b_eqI ?_)
  | ((with_reducible show BinA _ (compareOp CmpOp.NotEq) (PV.d (PyData.int _)) (PV.d (PyData.int _)) _ _); refine b_neI ?_)
  | ((with_reducible show BinA _ (compareOp CmpOp.Eq) (PV.d (PyData.str _)) (PV.d (PyData.str _)) _ _); refine b_eqS ?_)
  | ((with_reducible show BinA _ (compareOp CmpOp.NotEq) (PV.d (PyData.str _)) (PV.d (PyData.str _)) _ _); refine b_neS ?_)
  | ((with_reducible show BinA _ (compareOp CmpOp.LtE) (PV.d (PyData.str _)) (PV.d (PyData.str _)) _ _); refine b_leS ?_)
  | ((with_reducible show BinA _ (compareOp CmpOp.Lt) (PV.d (PyData.str _)) (PV.d (PyData.str _)) _ _); refine b_ltS ?_)
  | ((with_reducible show BinA _ (compareOp CmpOp.Eq) (PV.d (PyData.bool _)) (PV.d (PyData.bool _)) _ _); refine b_eqB ?_)
  | ((with_reducible show AE _ (Expr.Call (Expr.Name "int" _) _ [] _) _ _ _); refine ae_callTy rfl (Txt.int_ ‹_›) boot_int ?_)
  | ((with_reducible show AE _ (Expr.Call (Expr.Name "isinstance" _) _ [] _) _ _ _); refine ae_callB rfl (Txt.isi_ ‹_›) boot_isinstance ?_)
  | ((with_reducible show AE _ (Expr.Call (Expr.Name "len" _) _ [] _) _ _ _); refine ae_callB rfl (Txt.len_ ‹_›) PySem.boot_len ?_)
  | ((with_reducible show AE _ (Expr.Call (Expr.Name "list" _) _ [] _) _ _ _); refine ae_callTy rfl (Txt.list_ ‹_›) boot_list ?_)
  | ((with_reducible show AE _ (Expr.Call (Expr.Name "max" _) _ [] _) _ _ _); refine ae_callB rfl (Txt.max_ ‹_›) boot_max ?_)
  | ((with_reducible show AE _ (Expr.Call (Expr.Name "min" _) _ [] _) _ _ _); refine ae_callB rfl (Txt.min_ ‹_›) boot_min ?_)
  | ((with_reducible show AE _ (Expr.Call (Expr.Name "sum" _) _ [] _) _ _ _); refine ae_callB rfl (Txt.sum_ ‹_›) boot_sum ?_)
  | ((with_reducible show CallA _ (Value.builtin "isinstance") [PV.d _, PV.v (V.ty "int")] _ _); refine c_isInt ?_)
  | ((with_reducible show CallA _ (Value.builtin "isinstance") [PV.d _, PV.v (V.ty "str")] _ _); refine c_isStr ?_)
  | ((with_reducible show CallA _ (Value.builtin "isinstance") [PV.d _, PV.v (V.ty "bool")] _ _); refine c_isBool ?_)
  | ((with_reducible show CallA _ (Value.builtin "isinstance") [PV.d _, PV.v (V.ty "list")] _ _); refine c_isList ?_)
  | ((with_reducible show CallA _ (Value.builtin "isinstance") [PV.d _, PV.v (V.ty "tuple")] _ _); refine c_isTup ?_)
  | ((with_reducible show CallA _ (Value.builtin "len") [PV.d (PyData.list _)] _ _); refine c_lenL ?_)
  | ((with_reducible show CallA _ (Value.builtin "len") [PV.d (PyData.tuple _)] _ _); refine c_lenT ?_)
  | ((with_reducible show CallA _ (Value.builtin "sum") [PV.d (PyData.list (List.map PyData.int _))] _ _); refine c_sum rfl ?_)
  | ((with_reducible show CallA _ (Value.type "int") [PV.d (PyData.bool _)] _ _); refine c_intB ?_)
  | ((with_reducible show AE _ (Expr.Call (Expr.Attribute _ "append" _) _ _ _) _ _ _); refine ae_bm PySem.F.plainAttrs_list PySem.F.slot_list_append PySem.F.type_list_append ?_)
  | ((with_reducible show BinA _ (inplaceOp Operator.Add) (PV.d (PyData.int _)) (PV.d (PyData.int _)) _ _); refine ib_add ?_)
  | ((with_reducible show UnA _ (unaryOp UnaryOp.USub) (PV.d (PyData.int _)) _ _); refine u_neg ?_)
  | ((with_reducible show IxA _ (PV.d (mD _)) (PV.d (PyData.int 0)) _ _); refine ixm0 ?_)
  | ((with_reducible show IxA _ (PV.d (mD _)) (PV.d (PyData.int 1)) _ _); refine ixm1 ?_)
  | ((with_reducible show IxA _ (PV.d (mD _)) (PV.d (PyData.int 2)) _ _); refine ixm2 ?_)
  | ((with_reducible show IxA _ (PV.d (mD _)) (PV.d (PyData.int 3)) _ _); refine ixm3 ?_)
  | ((with_reducible show IxA _ (PV.d (stD _)) (PV.d (PyData.int 0)) _ _); refine ixs0 ?_)
  | ((with_reducible show IxA _ (PV.d (stD _)) (PV.d (PyData.int 1)) _ _); refine ixs1 ?_)
  | ((with_reducible show IxA _ (PV.d (stD _)) (PV.d (PyData.int 2)) _ _); refine ixs2 ?_))
local macro_rules | `(tactic| walk_at "go1") => `(tactic| first
  | walk_at "ge"
  | ((with_reducible show ASs _ (_ :: _) _ _ _); refine as_cons ?_)
  | ((with_reducible show ASs _ [] _ _ _); refine as_nil ?_)
  | ((with_reducible show AS _ (Stmt.Return (some _) _) _ _ _); refine as_ret ?_)
  | ((with_reducible show AS _ (Stmt.If _ _ _ _) _ _ _); refine as_if ?_)
  | ((with_reducible show AS _ (Stmt.Expr _ _) _ _ _); refine as_expr ?_))
local macro_rules | `(tactic| walk_at "fld") => `(tactic| (refine ae_fld ?_; refine ae_var 0 rfl ?_; refine ⟨_, "Reader", _, _, rfl, by assumption, Xs.k_Reader ‹_›, ?_, rfl, ?_⟩; (first | exact Xs.f_Reader_read_machine ‹_› | exact Xs.f_Reader_word ‹_› | exact Xs.f_Reader_vectors ‹_›)))
local macro_rules | `(tactic| walk_at "ge") => `(tactic| first | ((with_reducible show AE _ (Expr.Attribute (Expr.Name "self" _) _ _) _ _ _); walk_at "fld") | ((with_reducible show AT _ (Expr.Attribute _ _ _) _ _ _); refine at_val ?_))
section
variable {P : Program} {w : World} {K : PySem.W.Frag} {mg : Str → Option Value} {base : Heap}
theorem ok__law_all_alike {f : Addr} {fd : FuncData} (F : Fun K "_law_all_alike" "_law_all_alike" s__law_all_alike f fd) (T : Txt mg) (XS : Xs ⟨P, w, K, mg, base⟩) (E1 : D_Reader___eq__ ⟨P, w, K, mg, base⟩) : Fn ⟨P, w, K, mg, base⟩ 4 f fd P__law_all_alike (up rAlike29) := by
  refine okA F sc__law_all_alike (fun args O Φ Ξ h => ?_) (fun cdv A outer s H E as0 F0 args O Φ Ξ hr h => ?_)
  · first | (obtain ⟨rfl, _⟩ := h; rfl) | (obtain ⟨_, rfl, _⟩ := h; rfl) | (obtain ⟨_, _, rfl, _⟩ := h; rfl) | (obtain ⟨_, _, _, rfl, _⟩ := h; rfl) | (obtain ⟨_, _, _, _, rfl, _⟩ := h; rfl) | (obtain ⟨_, _, _, _, _, rfl, _⟩ := h; rfl) | (obtain ⟨_, _, _, _, _, _, rfl, _⟩ := h; rfl) | (obtain ⟨_, _, _, _, _, _, _, rfl, _⟩ := h; rfl) | (obtain ⟨_, _, _, _, _, _, _, _, rfl, _⟩ := h; rfl) | (obtain ⟨_, _, _, _, _, _, _, _, _, rfl, _⟩ := h; rfl) | (obtain ⟨_, _, _, _, _, _, _, _, _, _, rfl, _⟩ := h; rfl) | (obtain ⟨_, _, _, _, _, _, _, _, _, _, _, rfl, _⟩ := h; rfl)
  · skip
    obtain ⟨r, k, L, rfl, hr0, hk0, hR, hL, cl, q⟩ := h
    have hlen : ((L.map Rdr.n).map PV.o).length = L.length := by rw [List.length_map, List.length_map]
    have shl : SeqAt.shaped (.list (L.map mkD)) = true := hR.shp.sh (by decide)
    have hLk : IsL O (.o k) ((L.map mkD).map PV.d) := .inr ⟨_, rfl, hk0⟩
    have hLr : IsL O (.o r) ((L.map Rdr.n).map PV.o) := .inr ⟨_, rfl, hr0⟩
    refine as_cons ?_
    refine as_for PassesOwn.never rfl (ai_enumQ rfl T.enumerate_ ?_)
    repeat walk_at "ge"
    have ix : ∀ {i : Nat} {x : PV}, (enQ ((L.map Rdr.n).map PV.o))[i]? = some x → ∃ y, L[i]? = some y ∧ x = .p (pI (i : Nat)) (.o y.n) := fun {i x} hx => by
      obtain ⟨d, hd, rfl⟩ := enQ_at hx
      rw [List.map_map, List.getElem?_map, Option.map_eq_some_iff] at hd
      obtain ⟨y, hy, rfl⟩ := hd
      exact ⟨y, hy, rfl⟩
    have mk_at : ∀ {i : Nat} {y : Rdr}, L[i]? = some y → atI ((L.map mkD).map PV.d) (i : Nat) = some (.d (mkD y)) := fun {i y} hy => by
      refine atI_nat ?_
      rw [List.getElem?_map, List.getElem?_map, hy]
      rfl
    refine ⟨_, hLr, fun i ρ' O' => O' = O ∧ ∃ (y2 y3 y4 y5 y6 : Option PV), ρ' = [some (.o r), some (.o k), y2, y3, y4, y5, y6], ⟨rfl, none, none, none, none, none, rfl⟩, fun _ _ _ h => by obtain ⟨rfl, _⟩ := h; exact hLr, ?_, ?_⟩
    · rintro i x ρ' O' hx ⟨rfl, y2, y3, y4, y5, y6, rfl⟩
      obtain ⟨a, ha, rfl⟩ := ix hx
      have haL := List.mem_of_getElem? ha
      refine ag_tup2 rfl (ags_cons (ag_name 2 sc__law_all_alike.nd (ags_cons (ag_name 3 sc__law_all_alike.nd (ags_nil ?_)))))
      refine as_cons ?_
      refine as_for PassesOwn.never rfl (ai_enumQ rfl T.enumerate_ ?_)
      repeat walk_at "ge"
      refine ⟨_, hLr, fun i2 ρ' O'' => O'' = O' ∧ ∃ (y4 y5 y6 : Option PV), ρ' = [some (.o r), some (.o k), some (pI (i : Nat)), some (.o a.n), y4, y5, y6], ⟨rfl, y4, y5, y6, rfl⟩, fun _ _ _ h => by obtain ⟨rfl, _⟩ := h; exact hLr, ?_, ?_⟩
      · rintro j x ρ' O'' hx ⟨rfl, y4, y5, y6, rfl⟩
        obtain ⟨b, hb, rfl⟩ := ix hx
        have hbL := List.mem_of_getElem? hb
        refine ag_tup2 rfl (ags_cons (ag_name 4 sc__law_all_alike.nd (ags_cons (ag_name 5 sc__law_all_alike.nd (ags_nil ?_)))))
        refine as_cons (as_set 6 sc__law_all_alike.nd ?_)
        repeat walk_at "ge"
        refine ix_O hk0 (mk_at ha) ?_
        repeat walk_at "ge"
        refine ix_O hk0 (mk_at hb) ?_
        refine b_eq hr.units ((shp_mk (hR.mo a haL) (hR.wo a haL)).sh (by decide)) ((shp_mk (hR.mo b hbL) (hR.wo b hbL)).sh (by decide)) ?_
        rw [eqv_mk]
        refine as_cons (as_if ?_)
        repeat walk_at "ge"
        refine b_cmp rfl (eq_RR E1 (.here (hr.mono (by decide))) (hR.ob a haL) (hR.ob b hbL) (hR.mo a haL) (hR.mo b hbL)) ?_
        repeat walk_at "ge"
        refine b_ne (a := .bool _) (b := .bool _) hr.units rfl rfl ?_
        rw [eqv_same rfl]
        repeat walk_at "ge"
        refine b_cmp rfl (ne_RR E1 XS.e_Reader (.here (hr.mono (by decide))) (hR.ob a haL) (hR.ob b hbL) (hR.mo a haL) (hR.mo b hbL)) ?_
        repeat walk_at "ge"
        rw [show decide ((!eqM a.m a.z b.m b.z) = eqM a.m a.z b.m b.z) = false by cases eqM a.m a.z b.m b.z <;> rfl]
        repeat walk_at "ge"
        exact as_nil (as_nil (.keep ⟨rfl, _, _, _, rfl⟩))
      · rintro ρ' O'' ⟨rfl, y4, y5, y6, rfl⟩
        refine as_nil (.keep ⟨rfl, _, _, _, _, _, rfl⟩)
    · rintro ρ' O' ⟨rfl, y2, y3, y4, y5, y6, rfl⟩
      refine as_cons (as_ret (ae_bl ?_))
      exact .keep q
end
end K29
set_option pp.maxSteps 1200
namespace K29
open PySem PySem.Spec L2 Al
open PyProof.Rows hiding St
local macro_rules | `(tactic| walk_at "v") => `(tactic| first | refine ae_var 0 rfl ?_ | refine ae_var 1 rfl ?_ | refine ae_var 2 rfl ?_ | refine ae_var 3 rfl ?_ | refine ae_var 4 rfl ?_ | refine ae_var 5 rfl ?_ | refine ae_var 6 rfl ?_ | refine ae_var 7 rfl ?_ | refine ae_var 8 rfl ?_ | refine ae_var 9 rfl ?_ | refine ae_var 10 rfl ?_ | refine ae_var 11 rfl ?_ | refine ae_var 12 rfl ?_ | refine ae_var 13 rfl ?_ | refine ae_var 14 rfl ?_ | refine ae_var 15 rfl ?_ | refine ae_var 16 rfl ?_ | refine ae_var 17 rfl ?_ | refine ae_var 18 rfl ?_ | refine ae_var 19 rfl ?_ | refine ae_ty (Txt.int_ ‹_›) boot_int ?_ | refine ae_ty (Txt.str_ ‹_›) boot_str ?_ | refine ae_ty (Txt.bool_ ‹_›) boot_bool ?_ | refine ae_ty (Txt.list_ ‹_›) boot_list ?_ | refine ae_ty (Txt.tuple_ ‹_›) boot_tuple ?_ | refine ae_globS (Txt.LETTERS ‹_›).choose_spec ?_ | refine ae_globI (Txt.MOST_ROOMS ‹_›).choose_spec ?_ | refine ae_globI (Txt.MOST_STEPS ‹_›).choose_spec ?_ | refine ae_globI (Txt.MOST_WORD ‹_›).choose_spec ?_)
local macro_rules | `(tactic| walk_at "ge") => `(tactic| first
  | ((with_reducible show ite (true = true) _ _); refine iteT ?_)
  | ((with_reducible show ite (false = true) _ _); refine iteF ?_)
  | ((with_reducible show ite ((!true) = true) _ _); refine iteF ?_)
  | ((with_reducible show ite ((!false) = true) _ _); refine iteT ?_)
  | ((with_reducible show IsB _ _ _); refine isB_mk ?_)
  | ((with_reducible show AE _ (Expr.Name _ _) _ _ _); walk_at "v")
  | ((with_reducible show AE _ (Expr.Constant (Const.int _) _ _) _ _ _); refine ae_int ?_)
  | ((with_reducible show AE _ (Expr.Constant (Const.str _) _ _) _ _ _); refine ae_str ?_)
  | ((with_reducible show AE _ (Expr.Constant (Const.bool _) _ _) _ _ _); refine ae_bl ?_)
  | ((with_reducible show AE _ (Expr.Constant Const.none _ _) _ _ _); refine ae_non ?_)
  | ((with_reducible show AO1 _ (some _) _ _ _); refine ao_some ?_)
  | ((with_reducible show AO1 _ none _ _ _); refine ao_none ?_)
  | ((with_reducible show AE _ (Expr.BinOp _ _ _ _) _ _ _); refine ae_bin ?_)
  | ((with_reducible show AE _ (Expr.Compare _ [_] [_] _) _ _ _); refine ae_cmp ?_)
  | ((with_reducible show AE _ (Expr.Compare _ [_, _] [_, _] _) _ _ _); refine ae_chain ?_)
  | ((with_reducible show AE _ (Expr.Subscript _ (Expr.Slice none none (some _) _) _) _ _ _); refine ae_revS ?_)
  | ((with_reducible show AE _ (Expr.Subscript _ (Expr.Slice _ _ _ _) _) _ _ _); fail)
  | ((with_reducible show AE _ (Expr.Subscript _ _ _) _ _ _); refine ae_ix ?_)
  | ((with_reducible show AE _ (Expr.BoolOp _ [_] _) _ _ _); refine ae_one ?_)
  | ((with_reducible show AE _ (Expr.BoolOp BoolOp.And _ _) _ _ _); refine ae_and ?_)
  | ((with_reducible show AE _ (Expr.BoolOp BoolOp.Or _ _) _ _ _); refine ae_or ?_)
  | ((with_reducible show AE _ (Expr.UnaryOp UnaryOp.Not _ _) _ _ _); refine ae_not ?_)
  | ((with_reducible show AE _ (Expr.UnaryOp _ _ _) _ _ _); refine ae_un ?_)
  | ((with_reducible show AE _ (Expr.IfExp _ _ _ _) _ _ _); refine ae_if ?_)
  | ((with_reducible show AT _ (Expr.Compare _ [_] [_] _) _ _ _); refine at_cmp ?_)
  | ((with_reducible show AT _ (Expr.Compare _ [_, _] [_, _] _) _ _ _); refine at_chain ?_)
  | ((with_reducible show AT _ (Expr.UnaryOp UnaryOp.Not _ _) _ _ _); refine at_not ?_)
  | ((with_reducible show AT _ (Expr.BoolOp _ _ _) _ _ _); refine at_w ?_)
  | ((with_reducible show AT _ (Expr.Call _ _ _ _) _ _ _); refine at_val ?_)
  | ((with_reducible show AT _ (Expr.Name _ _) _ _ _); refine at_val ?_)
  | ((with_reducible show AW _ (Expr.BoolOp BoolOp.And [_] _) _ _ _); refine aw_and1 ?_)
  | ((with_reducible show AW _ (Expr.BoolOp BoolOp.Or [_] _) _ _ _); refine aw_or1 ?_)
  | ((with_reducible show AW _ (Expr.BoolOp BoolOp.And _ _) _ _ _); refine aw_and ?_)
  | ((with_reducible show AW _ (Expr.BoolOp BoolOp.Or _ _) _ _ _); refine aw_or ?_)
  | ((with_reducible show AA _ [] _ _ _); refine aa_nil ?_)
  | ((with_reducible show AA _ (_ :: _) _ _ _); refine aa_cons ?_)
  | ((with_reducible show BinA _ (binaryOp Operator.Add) (PV.d (PyData.int _)) (PV.d (PyData.int _)) _ _); refine b_add ?_)
  | ((with_reducible show BinA _ (binaryOp Operator.Sub) (PV.d (PyData.int _)) (PV.d (PyData.int _)) _ _); refine b_sub ?_)
  | ((with_reducible show BinA _ (compareOp CmpOp.Lt) (PV.d (PyData.int _)) (PV.d (PyData.int _)) _ _); refine b_lt ?_)
  | ((with_reducible show BinA _ (compareOp CmpOp.LtE) (PV.d (PyData.int _)) (PV.d (PyData.int _)) _ _); refine b_le ?_)
  | ((with_reducible show BinA _ (compareOp CmpOp.Gt) (PV.d (PyData.int _)) (PV.d (PyData.int _)) _ _); refine b_gt ?_)
  | ((with_reducible show BinA _ (compareOp CmpOp.GtE) (PV.d (PyData.int _)) (PV.d (PyData.int _)) _ _); refine b_ge ?_)
  | ((with_reducible show BinA _ (compareOp CmpOp.Eq) (PV.d (PyData.int _)) (PV.d (PyData.int _)) _ _); refine b_eqI ?_)
  | ((with_reducible show BinA _ (compareOp CmpOp.NotEq) (PV.d (PyData.int _)) (PV.d (PyData.int _)) _ _); refine b_neI ?_)
  | ((with_reducible show BinA _ (compareOp CmpOp.Eq) (PV.d (PyData.str _)) (PV.d (PyData.str _)) _ _); refine b_eqS ?_)
  | ((with_reducible show BinA _ (compareOp CmpOp.NotEq) (PV.d (PyData.str _)) (PV.d (PyData.str _)) _ _); refine b_neS ?_)
  | ((with_reducible show BinA _ (compareOp CmpOp.LtE) (PV.d (PyData.str _)) (PV.d (PyData.str _)) _ _); refine b_leS ?_)
  | ((with_reducible show BinA _ (compareOp CmpOp.Lt) (PV.d (PyData.str _)) (PV.d (PyData.str _)) _ _); refine b_ltS ?_)
  | ((with_reducible show BinA _ (compareOp CmpOp.Eq) (PV.d (PyData.bool _)) (PV.d (PyData.bool _)) _ _); refine b_eqB ?_)
  | ((with_reducible show AE _ (Expr.Call (Expr.Name "int" _) _ [] _) _ _ _); refine ae_callTy rfl (Txt.int_ ‹_›) boot_int ?_)
  | ((with_reducible show AE _ (Expr.Call (Expr.Name "isinstance" _) _ [] _) _ _ _); refine ae_callB rfl (Txt.isi_ ‹_›) boot_isinstance ?_)
  | ((with_reducible show AE _ (Expr.Call (Expr.Name "len" _) _ [] _) _ _ _); refine ae_callB rfl (Txt.len_ ‹_›) PySem.boot_len ?_)
  | ((with_reducible show AE _ (Expr.Call (Expr.Name "list" _) _ [] _) _ _ _); refine ae_callTy rfl (Txt.list_ ‹_›) boot_list ?_)
  | ((with_reducible show AE _ (Expr.Call (Expr.Name "max" _) _ [] _) _ _ _); refine ae_callB rfl (Txt.max_ ‹_›) boot_max ?_)
  | ((with_reducible show AE _ (Expr.Call (Expr.Name "min" _) _ [] _) _ _ _); refine ae_callB rfl (Txt.min_ ‹_›) boot_min ?_)
  | ((with_reducible show AE _ (Expr.Call (Expr.Name "sum" _) _ [] _) _ _ _); refine ae_callB rfl (Txt.sum_ ‹_›) boot_sum ?_)
  | ((with_reducible show CallA _ (Value.builtin "isinstance") [PV.d _, PV.v (V.ty "int")] _ _); refine c_isInt ?_)
  | ((with_reducible show CallA _ (Value.builtin "isinstance") [PV.d _, PV.v (V.ty "str")] _ _); refine c_isStr ?_)
  | ((with_reducible show CallA _ (Value.builtin "isinstance") [PV.d _, PV.v (V.ty "bool")] _ _); refine c_isBool ?_)
  | ((with_reducible show CallA _ (Value.builtin "isinstance") [PV.d _, PV.v (V.ty "list")] _ _); refine c_isList ?_)
  | ((with_reducible show CallA _ (Value.builtin "isinstance") [PV.d _, PV.v (V.ty "tuple")] _ _); refine c_isTup ?_)
  | ((with_reducible show CallA _ (Value.builtin "len") [PV.d (PyData.list _)] _ _); refine c_lenL ?_)
  | ((with_reducible show CallA _ (Value.builtin "len") [PV.d (PyData.tuple _)] _ _); refine c_lenT ?_)
  | ((with_reducible show CallA _ (Value.builtin "sum") [PV.d (PyData.list (List.map PyData.int _))] _ _); refine c_sum rfl ?_)
  | ((with_reducible show CallA _ (Value.type "int") [PV.d (PyData.bool _)] _ _); refine c_intB ?_)
  | ((with_reducible show AE _ (Expr.Call (Expr.Attribute _ "append" _) _ _ _) _ _ _); refine ae_bm PySem.F.plainAttrs_list PySem.F.slot_list_append PySem.F.type_list_append ?_)
  | ((with_reducible show BinA _ (inplaceOp Operator.Add) (PV.d (PyData.int _)) (PV.d (PyData.int _)) _ _); refine ib_add ?_)
  | ((with_reducible show UnA _ (unaryOp UnaryOp.USub) (PV.d (PyData.int _)) _ _); refine u_neg ?_)
  | ((with_reducible show IxA _ (PV.d (mD _)) (PV.d (PyData.int 0)) _ _); refine ixm0 ?_)
  | ((with_reducible show IxA _ (PV.d (mD _)) (PV.d (PyData.int 1)) _ _); refine ixm1 ?_)
  | ((with_reducible show IxA _ (PV.d (mD _)) (PV.d (PyData.int 2)) _ _); refine ixm2 ?_)
  | ((with_reducible show IxA _ (PV.d (mD _)) (PV.d (PyData.int 3)) _ _); refine ixm3 ?_)
  | ((with_reducible show IxA _ (PV.d (stD _)) (PV.d (PyData.int 0)) _ _); refine ixs0 ?_)
  | ((with_reducible show IxA _ (PV.d (stD _)) (PV.d (PyData.int 1)) _ _); refine ixs1 ?_)
  | ((with_reducible show IxA _ (PV.d (stD _)) (PV.d (PyData.int 2)) _ _); refine ixs2 ?_))
local macro_rules | `(tactic| walk_at "go1") => `(tactic| first
  | walk_at "ge"
  | ((with_reducible show ASs _ (_ :: _) _ _ _); refine as_cons ?_)
  | ((with_reducible show ASs _ [] _ _ _); refine as_nil ?_)
  | ((with_reducible show AS _ (Stmt.Return (some _) _) _ _ _); refine as_ret ?_)
  | ((with_reducible show AS _ (Stmt.If _ _ _ _) _ _ _); refine as_if ?_)
  | ((with_reducible show AS _ (Stmt.Expr _ _) _ _ _); refine as_expr ?_))
local macro_rules | `(tactic| walk_at "fld") => `(tactic| (refine ae_fld ?_; refine ae_var 0 rfl ?_; refine ⟨_, "Reader", _, _, rfl, by assumption, Xs.k_Reader ‹_›, ?_, rfl, ?_⟩; (first | exact Xs.f_Reader_read_machine ‹_› | exact Xs.f_Reader_word ‹_› | exact Xs.f_Reader_vectors ‹_›)))
local macro_rules | `(tactic| walk_at "ge") => `(tactic| first | ((with_reducible show AE _ (Expr.Attribute (Expr.Name "self" _) _ _) _ _ _); walk_at "fld") | ((with_reducible show AT _ (Expr.Attribute _ _ _) _ _ _); refine at_val ?_))
section
variable {P : Program} {w : World} {K : PySem.W.Frag} {mg : Str → Option Value} {base : Heap}
theorem ok__law_unlike_others {f : Addr} {fd : FuncData} (F : Fun K "_law_unlike_others" "_law_unlike_others" s__law_unlike_others f fd) (T : Txt mg) (XS : Xs ⟨P, w, K, mg, base⟩) (E1 : D_Reader___eq__ ⟨P, w, K, mg, base⟩) : Fn ⟨P, w, K, mg, base⟩ 4 f fd P__law_unlike_others (up rUnlike29) := by
  refine okA F sc__law_unlike_others (fun args O Φ Ξ h => ?_) (fun cdv A outer s H E as0 F0 args O Φ Ξ hr h => ?_)
  · first | (obtain ⟨rfl, _⟩ := h; rfl) | (obtain ⟨_, rfl, _⟩ := h; rfl) | (obtain ⟨_, _, rfl, _⟩ := h; rfl) | (obtain ⟨_, _, _, rfl, _⟩ := h; rfl) | (obtain ⟨_, _, _, _, rfl, _⟩ := h; rfl) | (obtain ⟨_, _, _, _, _, rfl, _⟩ := h; rfl) | (obtain ⟨_, _, _, _, _, _, rfl, _⟩ := h; rfl) | (obtain ⟨_, _, _, _, _, _, _, rfl, _⟩ := h; rfl) | (obtain ⟨_, _, _, _, _, _, _, _, rfl, _⟩ := h; rfl) | (obtain ⟨_, _, _, _, _, _, _, _, _, rfl, _⟩ := h; rfl) | (obtain ⟨_, _, _, _, _, _, _, _, _, _, rfl, _⟩ := h; rfl) | (obtain ⟨_, _, _, _, _, _, _, _, _, _, _, rfl, _⟩ := h; rfl)
  · skip
    obtain ⟨n, q0, m, z, dm, rfl, hdm, hO, hm, cl, q⟩ := h
    have hn : n < O.length := (List.getElem?_eq_some_iff.mp hO).1
    refine as_cons ?_
    refine as_for PassesOwn.never rfl (ai_listO (ae_lstO ?_))
    repeat walk_at "ge"
    refine ae_lstO ?_
    repeat walk_at "ge"
    refine ⟨by show 1 ≤ 16000000; decide, ?_⟩
    repeat walk_at "ge"
    refine ⟨by show 7 ≤ 16000000; decide, ?_⟩
    obtain ⟨th, hth⟩ : ∃ th : List PV, th = [PV.d .none, pS ("Reader()" : Str), .d dm, pI 0, .o O.length, pS ("" : Str), pB true] := ⟨_, rfl⟩
    obtain ⟨B, hB⟩ : ∃ B : Own, B = O ++ [AO.lst [.o n]] ++ [AO.lst th] := ⟨_, rfl⟩
    have hBn : B[n]? = some (RdI m z q0) := by rw [hB, List.append_assoc, List.getElem?_append_left hn]; exact hO
    have hBl : B[O.length]? = some (.lst [.o n]) := by rw [hB, List.append_assoc]; exact get_at0
    have hBt : B[(O ++ [AO.lst [.o n]]).length]? = some (.lst th) := by rw [hB]; exact get_at0
    have htk : B.take O.length = O := by rw [hB, List.append_assoc, take_app]
    rw [← hth, ← hB]
    refine ⟨_, th, rfl, hBt, fun i ρ' O' => O' = B ∧ ∃ y : Option PV, ρ' = [some (.o n), some (.d dm), y], ⟨rfl, none, rfl⟩, fun _ _ _ h => by obtain ⟨rfl, _⟩ := h; exact hBt, ?_, ?_⟩
    · rintro i x ρ' O' hx ⟨rfl, y, rfl⟩
      have hx2 : (∃ d, x = .d d ∧ tyD d ≠ "dict") ∨ x = .o O.length := by
        have := List.mem_of_getElem? hx
        rw [hth] at this
        simp only [List.mem_cons, List.not_mem_nil, or_false] at this
        rcases this with rfl | rfl | rfl | rfl | rfl | rfl | rfl
        · exact .inl ⟨_, rfl, by simp [tyD]⟩
        · exact .inl ⟨_, rfl, by simp [tyD]⟩
        · exact .inl ⟨_, rfl, hdm⟩
        · exact .inl ⟨_, rfl, by simp [tyD]⟩
        · exact .inr rfl
        · exact .inl ⟨_, rfl, by simp [tyD]⟩
        · exact .inl ⟨_, rfl, by simp [tyD]⟩
      refine ag_name 2 sc__law_unlike_others.nd ?_
      refine as_cons (as_if ?_)
      rcases hx2 with ⟨d, rfl, hd⟩ | rfl
      · repeat walk_at "ge"
        refine b_cmp rfl (eq_Rd E1 (.here (hr.mono (by decide))) hBn hm) ?_
        repeat walk_at "ge"
        refine b_cmp rfl (ne_Rd E1 XS.e_Reader (.here (hr.mono (by decide))) hBn hm) ?_
        repeat walk_at "ge"
        refine b_cmp rfl (eq_dR E1 XS.e_Reader (.here (hr.mono (by decide))) hBn hm hd) ?_
        repeat walk_at "ge"
        exact as_nil (as_nil (.keep ⟨rfl, _, rfl⟩))
      · repeat walk_at "ge"
        refine b_cmp rfl (eq_Rl E1 (.here (hr.mono (by decide))) hBn hm hBl) ?_
        repeat walk_at "ge"
        refine b_cmp rfl (ne_Rl E1 XS.e_Reader (.here (hr.mono (by decide))) hBn hm hBl) ?_
        repeat walk_at "ge"
        refine b_cmp rfl (eq_lR E1 XS.e_Reader (.here (hr.mono (by decide))) hBn hm hBl) ?_
        repeat walk_at "ge"
        exact as_nil (as_nil (.keep ⟨rfl, _, rfl⟩))
    · rintro ρ' O' ⟨rfl, y, rfl⟩
      refine as_cons (as_ret (ae_bl ?_))
      refine .drop O.length (Nat.le_refl _) rfl (by rw [htk]; exact cl) ?_
      rw [htk]
      exact .keep q
end
end K29
set_option pp.maxSteps 1200
namespace K29
open PySem PySem.Spec L2 Al
open PyProof.Rows hiding St
local macro_rules | `(tactic| walk_at "v") => `(tactic| first | refine ae_var 0 rfl ?_ | refine ae_var 1 rfl ?_ | refine ae_var 2 rfl ?_ | refine ae_var 3 rfl ?_ | refine ae_var 4 rfl ?_ | refine ae_var 5 rfl ?_ | refine ae_var 6 rfl ?_ | refine ae_var 7 rfl ?_ | refine ae_var 8 rfl ?_ | refine ae_var 9 rfl ?_ | refine ae_var 10 rfl ?_ | refine ae_var 11 rfl ?_ | refine ae_var 12 rfl ?_ | refine ae_var 13 rfl ?_ | refine ae_var 14 rfl ?_ | refine ae_var 15 rfl ?_ | refine ae_var 16 rfl ?_ | refine ae_var 17 rfl ?_ | refine ae_var 18 rfl ?_ | refine ae_var 19 rfl ?_ | refine ae_ty (Txt.int_ ‹_›) boot_int ?_ | refine ae_ty (Txt.str_ ‹_›) boot_str ?_ | refine ae_ty (Txt.bool_ ‹_›) boot_bool ?_ | refine ae_ty (Txt.list_ ‹_›) boot_list ?_ | refine ae_ty (Txt.tuple_ ‹_›) boot_tuple ?_ | refine ae_globS (Txt.LETTERS ‹_›).choose_spec ?_ | refine ae_globI (Txt.MOST_ROOMS ‹_›).choose_spec ?_ | refine ae_globI (Txt.MOST_STEPS ‹_›).choose_spec ?_ | refine ae_globI (Txt.MOST_WORD ‹_›).choose_spec ?_)
local macro_rules | `(tactic| walk_at "ge") => `(tactic| first
  | ((with_reducible show ite (true = true) _ _); refine iteT ?_)
  | ((with_reducible show ite (false = true) _ _); refine iteF ?_)
  | ((with_reducible show ite ((!true) = true) _ _); refine iteF ?_)
  | ((with_reducible show ite ((!false) = true) _ _); refine iteT ?_)
  | ((with_reducible show IsB _ _ _); refine isB_mk ?_)
  | ((with_reducible show AE _ (Expr.Name _ _) _ _ _); walk_at "v")
  | ((with_reducible show AE _ (Expr.Constant (Const.int _) _ _) _ _ _); refine ae_int ?_)
  | ((with_reducible show AE _ (Expr.Constant (Const.str _) _ _) _ _ _); refine ae_str ?_)
  | ((with_reducible show AE _ (Expr.Constant (Const.bool _) _ _) _ _ _); refine ae_bl ?_)
  | ((with_reducible show AE _ (Expr.Constant Const.none _ _) _ _ _); refine ae_non ?_)
  | ((with_reducible show AO1 _ (some _) _ _ _); refine ao_some ?_)
  | ((with_reducible show AO1 _ none _ _ _); refine ao_none ?_)
  | ((with_reducible show AE _ (Expr.BinOp _ _ _ _) _ _ _); refine ae_bin ?_)
  | ((with_reducible show AE _ (Expr.Compare _ [_] [_] _) _ _ _); refine ae_cmp ?_)
  | ((with_reducible show AE _ (Expr.Compare _ [_, _] [_, _] _) _ _ _); refine ae_chain ?_)
  | ((with_reducible show AE _ (Expr.Subscript _ (Expr.Slice none none (some _) _) _) _ _ _); refine ae_revS ?_)
  | ((with_reducible show AE _ (Expr.Subscript _ (Expr.Slice _ _ _ _) _) _ _ _); fail)
  | ((with_reducible show AE _ (Expr.Subscript _ _ _) _ _ _); refine ae_ix ?_)
  | ((with_reducible show AE _ (Expr.BoolOp _ [_] _) _ _ _); refine ae_one ?_)
  | ((with_reducible show AE _ (Expr.BoolOp BoolOp.And _ _) _ _ _); refine ae_and ?_)
  | ((with_reducible show AE _ (Expr.BoolOp BoolOp.Or _ _) _ _ _); refine ae_or ?_)
  | ((with_reducible show AE _ (Expr.UnaryOp UnaryOp.Not _ _) _ _ _); refine ae_not ?_)
  | ((with_reducible show AE _ (Expr.UnaryOp _ _ _) _ _ _); refine ae_un ?_)
  | ((with_reducible show AE _ (Expr.IfExp _ _ _ _) _ _ _); refine ae_if ?_)
  | ((with_reducible show AT _ (Expr.Compare _ [_] [_] _) _ _ _); refine at_cmp ?_)
  | ((with_reducible show AT _ (Expr.Compare _ [_, _] [_, _] _) _ _ _); refine at_chain ?_)
  | ((with_reducible show AT _ (Expr.UnaryOp UnaryOp.Not _ _) _ _ _); refine at_not ?_)
  | ((with_reducible show AT _ (Expr.BoolOp _ _ _) _ _ _); refine at_w ?_)
  | ((with_reducible show AT _ (Expr.Call _ _ _ _) _ _ _); refine at_val ?_)
  | ((with_reducible show AT _ (Expr.Name _ _) _ _ _); refine at_val ?_)
  | ((with_reducible show AW _ (Expr.BoolOp BoolOp.And [_] _) _ _ _); refine aw_and1 ?_)
  | ((with_reducible show AW _ (Expr.BoolOp BoolOp.Or [_] _) _ _ _); refine aw_or1 ?_)
  | ((with_reducible show AW _ (Expr.BoolOp BoolOp.And _ _) _ _ _); refine aw_and ?_)
  | ((with_reducible show AW _ (Expr.BoolOp BoolOp.Or _ _) _ _ _); refine aw_or ?_)
  | ((with_reducible show AA _ [] _ _ _); refine aa_nil ?_)
  | ((with_reducible show AA _ (_ :: _) _ _ _); refine aa_cons ?_)
  | ((with_reducible show BinA _ (binaryOp Operator.Add) (PV.d (PyData.int _)) (PV.d (PyData.int _)) _ _); refine b_add ?_)
  | ((with_reducible show BinA _ (binaryOp Operator.Sub) (PV.d (PyData.int _)) (PV.d (PyData.int _)) _ _); refine b_sub ?_)
  | ((with_reducible show BinA _ (compareOp CmpOp.Lt) (PV.d (PyData.int _)) (PV.d (PyData.int _)) _ _); refine b_lt ?_)
  | ((with_reducible show BinA _ (compareOp CmpOp.LtE) (PV.d (PyData.int _)) (PV.d (PyData.int _)) _ _); refine b_le ?_)
  | ((with_reducible show BinA _ (compareOp CmpOp.Gt) (PV.d (PyData.int _)) (PV.d (PyData.int _)) _ _); refine b_gt ?_)
  | ((with_reducible show BinA _ (compareOp CmpOp.GtE) (PV.d (PyData.int _)) (PV.d (PyData.int _)) _ _); refine b_ge ?_)
  | ((with_reducible show BinA _ (compareOp CmpOp.Eq) (PV.d (PyData.int _)) (PV.d (PyData.int _)) _ _); refine b_eqI ?_)
  | ((with_reducible show BinA _ (compareOp CmpOp.NotEq) (PV.d (PyData.int _)) (PV.d (PyData.int _)) _ _); refine b_neI ?_)
  | ((with_reducible show BinA _ (compareOp CmpOp.Eq) (PV.d (PyData.str _)) (PV.d (PyData.str _)) _ _); refine b_eqS ?_)
  | ((with_reducible show BinA _ (compareOp CmpOp.NotEq) (PV.d (PyData.str _)) (PV.d (PyData.str _)) _ _); refine b_neS ?_)
  | ((with_reducible show BinA _ (compareOp CmpOp.LtE) (PV.d (PyData.str _)) (PV.d (PyData.str _)) _ _); refine b_leS ?_)
  | ((with_reducible show BinA _ (compareOp CmpOp.Lt) (PV.d (PyData.str _)) (PV.d (PyData.str _)) _ _); refine b_ltS ?_)
  | ((with_reducible show BinA _ (compareOp CmpOp.Eq) (PV.d (PyData.bool _)) (PV.d (PyData.bool _)) _ _); refine b_eqB ?_)
  | ((with_reducible show AE _ (Expr.Call (Expr.Name "int" _) _ [] _) _ _ _); refine ae_callTy rfl (Txt.int_ ‹_›) boot_int ?_)
  | ((with_reducible show AE _ (Expr.Call (Expr.Name "isinstance" _) _ [] _) _ _ _); refine ae_callB rfl (Txt.isi_ ‹_›) boot_isinstance ?_)
  | ((with_reducible show AE _ (Expr.Call (Expr.Name "len" _) _ [] _) _ _ _); refine ae_callB rfl (Txt.len_ ‹_›) PySem.boot_len ?_)
  | ((with_reducible show AE _ (Expr.Call (Expr.Name "list" _) _ [] _) _ _ _); refine ae_callTy rfl (Txt.list_ ‹_›) boot_list ?_)
  | ((with_reducible show AE _ (Expr.Call (Expr.Name "max" _) _ [] _) _ _ _); refine ae_callB rfl (Txt.max_ ‹_›) boot_max ?_)
  | ((with_reducible show AE _ (Expr.Call (Expr.Name "min" _) _ [] _) _ _ _); refine ae_callB rfl (Txt.min_ ‹_›) boot_min ?_)
  | ((with_reducible show AE _ (Expr.Call (Expr.Name "sum" _) _ [] _) _ _ _); refine ae_callB rfl (Txt.sum_ ‹_›) boot_sum ?_)
  | ((with_reducible show AE _ (Expr.Call (Expr.Name "_law_draw" _) _ [] _) _ _ _); refine ae_callA ‹D__law_draw _› (RoomG.mono ‹_› (by first | decide | omega)) ?_)
  | ((with_reducible show AE _ (Expr.Call (Expr.Name "_law_all_alike" _) _ [] _) _ _ _); refine ae_callA ‹D__law_all_alike _› (RoomG.mono ‹_› (by first | decide | omega)) ?_)
  | ((with_reducible show CallA _ (Value.builtin "isinstance") [PV.d _, PV.v (V.ty "int")] _ _); refine c_isInt ?_)
  | ((with_reducible show CallA _ (Value.builtin "isinstance") [PV.d _, PV.v (V.ty "str")] _ _); refine c_isStr ?_)
  | ((with_reducible show CallA _ (Value.builtin "isinstance") [PV.d _, PV.v (V.ty "bool")] _ _); refine c_isBool ?_)
  | ((with_reducible show CallA _ (Value.builtin "isinstance") [PV.d _, PV.v (V.ty "list")] _ _); refine c_isList ?_)
  | ((with_reducible show CallA _ (Value.builtin "isinstance") [PV.d _, PV.v (V.ty "tuple")] _ _); refine c_isTup ?_)
  | ((with_reducible show CallA _ (Value.builtin "len") [PV.d (PyData.list _)] _ _); refine c_lenL ?_)
  | ((with_reducible show CallA _ (Value.builtin "len") [PV.d (PyData.tuple _)] _ _); refine c_lenT ?_)
  | ((with_reducible show CallA _ (Value.builtin "sum") [PV.d (PyData.list (List.map PyData.int _))] _ _); refine c_sum rfl ?_)
  | ((with_reducible show CallA _ (Value.type "int") [PV.d (PyData.bool _)] _ _); refine c_intB ?_)
  | ((with_reducible show AE _ (Expr.Call (Expr.Attribute _ "append" _) _ _ _) _ _ _); refine ae_bm PySem.F.plainAttrs_list PySem.F.slot_list_append PySem.F.type_list_append ?_)
  | ((with_reducible show BinA _ (inplaceOp Operator.Add) (PV.d (PyData.int _)) (PV.d (PyData.int _)) _ _); refine ib_add ?_)
  | ((with_reducible show UnA _ (unaryOp UnaryOp.USub) (PV.d (PyData.int _)) _ _); refine u_neg ?_)
  | ((with_reducible show IxA _ (PV.d (mD _)) (PV.d (PyData.int 0)) _ _); refine ixm0 ?_)
  | ((with_reducible show IxA _ (PV.d (mD _)) (PV.d (PyData.int 1)) _ _); refine ixm1 ?_)
  | ((with_reducible show IxA _ (PV.d (mD _)) (PV.d (PyData.int 2)) _ _); refine ixm2 ?_)
  | ((with_reducible show IxA _ (PV.d (mD _)) (PV.d (PyData.int 3)) _ _); refine ixm3 ?_)
  | ((with_reducible show IxA _ (PV.d (stD _)) (PV.d (PyData.int 0)) _ _); refine ixs0 ?_)
  | ((with_reducible show IxA _ (PV.d (stD _)) (PV.d (PyData.int 1)) _ _); refine ixs1 ?_)
  | ((with_reducible show IxA _ (PV.d (stD _)) (PV.d (PyData.int 2)) _ _); refine ixs2 ?_))
local macro_rules | `(tactic| walk_at "go1") => `(tactic| first
  | walk_at "ge"
  | ((with_reducible show ASs _ (_ :: _) _ _ _); refine as_cons ?_)
  | ((with_reducible show ASs _ [] _ _ _); refine as_nil ?_)
  | ((with_reducible show AS _ (Stmt.Return (some _) _) _ _ _); refine as_ret ?_)
  | ((with_reducible show AS _ (Stmt.If _ _ _ _) _ _ _); refine as_if ?_)
  | ((with_reducible show AS _ (Stmt.Expr _ _) _ _ _); refine as_expr ?_))
local macro_rules | `(tactic| walk_at "fld") => `(tactic| (refine ae_fld ?_; refine ae_var 0 rfl ?_; refine ⟨_, "Reader", _, _, rfl, by assumption, Xs.k_Reader ‹_›, ?_, rfl, ?_⟩; (first | exact Xs.f_Reader_read_machine ‹_› | exact Xs.f_Reader_word ‹_› | exact Xs.f_Reader_vectors ‹_›)))
local macro_rules | `(tactic| walk_at "ge") => `(tactic| first | ((with_reducible show AE _ (Expr.Attribute (Expr.Name "self" _) _ _) _ _ _); walk_at "fld") | ((with_reducible show AT _ (Expr.Attribute _ _ _) _ _ _); refine at_val ?_))
section
variable {P : Program} {w : World} {K : PySem.W.Frag} {mg : Str → Option Value} {base : Heap}
theorem ok__law_twins_right {f : Addr} {fd : FuncData} (F : Fun K "_law_twins_right" "_law_twins_right" s__law_twins_right f fd) (T : Txt mg) (XS : Xs ⟨P, w, K, mg, base⟩) (E1 : D__law_draw ⟨P, w, K, mg, base⟩) (E2 : D__law_all_alike ⟨P, w, K, mg, base⟩) (E3 : D_Reader_counts ⟨P, w, K, mg, base⟩) (E4 : D_Reader_ways ⟨P, w, K, mg, base⟩) (E5 : D_Reader_reached ⟨P, w, K, mg, base⟩) (E6 : D_Reader_twin ⟨P, w, K, mg, base⟩) (E7 : D_Reader_feed ⟨P, w, K, mg, base⟩) (E8 : D_Reader_text ⟨P, w, K, mg, base⟩) (E9 : D_Reader_back0 ⟨P, w, K, mg, base⟩) (E10 : D_Reader_backP ⟨P, w, K, mg, base⟩) (E11 : D_Reader___len__ ⟨P, w, K, mg, base⟩) (E12 : D_Reader___eq__ ⟨P, w, K, mg, base⟩) : Fn ⟨P, w, K, mg, base⟩ 9 f fd P__law_twins_right (up rTwins29) := by
  refine okA F sc__law_twins_right (fun args O Φ Ξ h => ?_) (fun cdv A outer s H E as0 F0 args O Φ Ξ hr h => ?_)
  · first | (obtain ⟨rfl, _⟩ := h; rfl) | (obtain ⟨_, rfl, _⟩ := h; rfl) | (obtain ⟨_, _, rfl, _⟩ := h; rfl) | (obtain ⟨_, _, _, rfl, _⟩ := h; rfl) | (obtain ⟨_, _, _, _, rfl, _⟩ := h; rfl) | (obtain ⟨_, _, _, _, _, rfl, _⟩ := h; rfl) | (obtain ⟨_, _, _, _, _, _, rfl, _⟩ := h; rfl) | (obtain ⟨_, _, _, _, _, _, _, rfl, _⟩ := h; rfl) | (obtain ⟨_, _, _, _, _, _, _, _, rfl, _⟩ := h; rfl) | (obtain ⟨_, _, _, _, _, _, _, _, _, rfl, _⟩ := h; rfl) | (obtain ⟨_, _, _, _, _, _, _, _, _, _, rfl, _⟩ := h; rfl) | (obtain ⟨_, _, _, _, _, _, _, _, _, _, _, rfl, _⟩ := h; rfl)
  · skip
    obtain ⟨h, r, k, ha0, hs0, z0, L, rfl, hO, ok, h3, r3, k3, hr0, hk0, hR9, hK9, hR, hL0, hL, hz0, cl, Q⟩ := h
    have hh : h < O.length := (List.getElem?_eq_some_iff.mp hO).1
    have hLpos : 0 < L.length := List.length_pos_iff.mpr hL0
    refine as_cons (as_set 4 sc__law_twins_right.nd ?_)
    repeat walk_at "ge"
    refine c_lenIL (xs := (L.map Rdr.n).map PV.o) (.inr ⟨_, rfl, hR9⟩) ?_
    rw [List.length_map, List.length_map]
    repeat walk_at "ge"
    refine ⟨h, ha0, hs0, L.length, rfl, hO, ok, by omega, by omega, fun w a1 s1 ok1 w0 w1 => ?_⟩
    obtain ⟨i, rfl⟩ := Int.eq_ofNat_of_zero_le w0
    have hi : i < L.length := by omega
    obtain ⟨x, hx⟩ : ∃ x, L[i]? = some x := ⟨_, List.getElem?_eq_getElem hi⟩
    have hxL := List.mem_of_getElem? hx
    obtain ⟨n, q, m, z⟩ := x
    have hm : MOk m := hR.mo _ hxL
    have hz : WordOk z := hR.wo _ hxL
    have hz3 : z.length ≤ 3 := hR.sh _ hxL
    obtain ⟨B, hB⟩ : ∃ B : Own, B = O.set h (hnd a1 s1) := ⟨_, rfl⟩
    have hRB : Rs B L := by rw [hB]; exact hR.set h3 _
    have rB : B[r]? = some (.lst ((L.map Rdr.n).map PV.o)) := by rw [hB, List.getElem?_set_ne hr0]; exact hR9
    have kB : B[k]? = some (.lst ((L.map mkD).map PV.d)) := by rw [hB, List.getElem?_set_ne hk0]; exact hK9
    have clB : ClO B := by rw [hB]; exact cl_hnd cl
    rw [← hB]
    have nB : B[n]? = some (RdI m z q) := hRB.ob _ hxL
    have qB : B[q]? = some (rws m (cds z)) := hRB.ve _ hxL
    have n3 : 3 ≤ n := hRB.ln _ hxL
    have q3 : 3 ≤ q := hRB.lq _ hxL
    have hnq : n ≠ q := fun e => by rw [e, qB] at nB; cases nB
    have rd_at : atI ((L.map Rdr.n).map PV.o) (i : Nat) = some (.o n) := by
      refine atI_nat ?_
      rw [List.getElem?_map, List.getElem?_map, hx]
      rfl
    have mk_at : atI ((L.map mkD).map PV.d) (i : Nat) = some (.d (mkD ⟨n, q, m, z⟩)) := by
      refine atI_nat ?_
      rw [List.getElem?_map, List.getElem?_map, hx]
      rfl
    refine as_cons (as_set 5 sc__law_twins_right.nd (ae_lstD ?_))
    refine aa_cons (AE.gh (ae_meth0 E3 (hr.mono (by decide)) ?_))
    repeat walk_at "ge"
    refine ix_O rB rd_at ?_
    refine ⟨n, _, rfl, nB, rfl, ?_⟩
    refine ⟨n, q, m, z, rfl, nB, qB, gh_list0 clB (Nat.le_refl _) ?_⟩
    refine aa_cons (ae_meth0 E4 (hr.mono (by decide)) ?_)
    repeat walk_at "ge"
    refine ix_O rB rd_at ?_
    refine ⟨n, _, rfl, nB, rfl, ?_⟩
    refine ⟨n, q, m, z, rfl, nB, qB, hm, clB, ?_⟩
    refine aa_cons (AE.gh (ae_meth0 E5 (hr.mono (by decide)) ?_))
    repeat walk_at "ge"
    refine ix_O rB rd_at ?_
    refine ⟨n, _, rfl, nB, rfl, ?_⟩
    refine ⟨n, q, m, z, rfl, nB, qB, hm, gh_list0 clB (Nat.le_refl _) ?_⟩
    refine aa_nil ⟨[vD (vecR m (cds z)), .int (waysN m (cds z) m.fs m.ls), rmsD (inV (vecR m (cds z)))], rfl, by show 3 ≤ 16000000; decide, ?_⟩
    obtain ⟨ah, hah⟩ : ∃ ah : List PyData, ah = [vD (vecR m (cds z)), .int (waysN m (cds z) m.fs m.ls), rmsD (inV (vecR m (cds z)))] := ⟨_, rfl⟩
    have sah : Shp 2 (.list ah) := shp_list fun d hd => by
      rw [hah] at hd
      simp only [List.mem_cons, List.not_mem_nil, or_false] at hd
      rcases hd with rfl | rfl | rfl
      · exact shp_v _
      · exact shp_int _
      · exact shp_rms _
    rw [← hah]
    refine as_cons (as_set 6 sc__law_twins_right.nd (ae_meth0 E6 (hr.mono (by decide)) ?_))
    repeat walk_at "ge"
    refine ix_O rB rd_at ?_
    refine ⟨n, _, rfl, nB, rfl, ?_⟩
    refine ⟨n, q, m, z, rfl, nB, qB, hm, hz, clB, ?_⟩
    obtain ⟨C, hC⟩ : ∃ C : Own, C = B ++ [RdI m z (B.length + 1), rws m (cds z)] := ⟨_, rfl⟩
    have bel : ∀ (m2 : Mach) (z2 : Str) (cs : List Nat), ClO (B ++ [RdI m2 z2 (B.length + 1), rws m2 cs]) := fun m2 z2 cs => cl_ext clB (fun x hx => by
      simp only [List.mem_cons, List.not_mem_nil, or_false] at hx
      rcases hx with rfl | rfl
      · show (true && (true && (decide (B.length + 1 < B.length + 2) && true))) = true
        rw [decide_eq_true (by omega)]; rfl
      · exact lst_below _)
    have app_ : ∀ {j : Nat} {y : AO} (U : Own), B[j]? = some y → (B ++ U)[j]? = some y := fun {j y} U hj => by
      rw [List.getElem?_append_left (List.getElem?_eq_some_iff.mp hj).1]; exact hj
    have hT : C[B.length]? = some (RdI m z (B.length + 1)) := by rw [hC]; exact get_at0
    have hT1 : C[B.length + 1]? = some (rws m (cds z)) := by rw [hC]; exact get_at 1
    have rC : C[r]? = some (.lst ((L.map Rdr.n).map PV.o)) := by rw [hC]; exact app_ _ rB
    have kC : C[k]? = some (.lst ((L.map mkD).map PV.d)) := by rw [hC]; exact app_ _ kB
    have RC : Rs C L := by rw [hC]; exact hRB.app _
    have clC : ClO C := by rw [hC]; exact bel _ _ _
    rw [← hC]
    -- the first that is alike
    have hex : ∃ y ∈ L, eqM y.m y.z m z = true := ⟨_, hxL, eqM_same hm z⟩
    obtain ⟨j, hj⟩ : ∃ j, j = L.findIdx fun y => eqM y.m y.z m z := ⟨_, rfl⟩
    have jl : j < L.length := by rw [hj]; exact List.findIdx_lt_length_of_exists hex
    have jt : eqM L[j].m L[j].z m z = true := by
      have := List.findIdx_getElem (xs := L) (p := fun y => eqM y.m y.z m z) (w := by rw [← hj]; exact jl)
      simpa only [← hj] using this
    have jn : ∀ i2 (h2 : i2 < j), eqM (L[i2]'(by omega)).m (L[i2]'(by omega)).z m z = false := fun i2 h2 => by
      have := List.not_of_lt_findIdx (xs := L) (p := fun y => eqM y.m y.z m z) (i := i2) (by rw [← hj]; exact h2)
      simpa using this
    obtain ⟨e, he⟩ : ∃ e : Nat → Bool, e = fun k2 => match L[k2]? with | some y => eqM y.m y.z m z | none => false := ⟨_, rfl⟩
    have ee : ∀ {i2 : Nat} {y : Rdr}, L[i2]? = some y → e i2 = eqM y.m y.z m z := fun {i2 y} h2 => by rw [he]; simp only [h2]
    have ej : e j = true := by rw [ee (List.getElem?_eq_getElem jl)]; exact jt
    have en : ∀ k2, k2 < j → e k2 = false := fun k2 h2 => by rw [ee (List.getElem?_eq_getElem (by omega : k2 < L.length))]; exact jn k2 h2
    have hne : ∀ n2 ∈ L.map Rdr.n, n2 ≠ B.length := fun n2 h2 => by
      obtain ⟨y, hy, rfl⟩ := List.mem_map.mp h2
      have := (List.getElem?_eq_some_iff.mp (hRB.ob y hy)).1
      omega
    have nsl : (L.map Rdr.n).length = L.length := List.length_map _
    refine as_cons (as_if ?_)
    repeat walk_at "ge"
    refine ae_bm PySem.F.plainAttrs_list PySem.F.slot_list_index PySem.F.type_list_index ?_
    walk_at "ge"
    refine ⟨ty_O rC, ?_⟩
    repeat walk_at "ge"
    have cmpT : ∀ i2 n2, (L.map Rdr.n)[i2]? = some n2 → CmpOk (axN P w K mg base N__law_twins_right "_law_twins_right" (defScope s__law_twins_right) f cdv A outer s H E as0 F0) (Ax.A (axN P w K mg base N__law_twins_right "_law_twins_right" (defScope s__law_twins_right) f cdv A outer s H E as0 F0)).in1 .Eq (.o n2) (.o B.length) C (e i2) := fun i2 n2 h2 => by
      rw [List.getElem?_map, Option.map_eq_some_iff] at h2
      obtain ⟨y, hy, rfl⟩ := h2
      have hyL := List.mem_of_getElem? hy
      rw [ee hy]
      exact eq_RR (k := 1) E12 (SubA.in1 (.here (hr.mono (by decide)))) (RC.ob y hyL) hT (RC.mo y hyL) hm
    refine m_indexI e (i := j) rC (by rw [nsl]; omega) hne cmpT (by rw [nsl]; exact jl) ej en ?_
    refine ae_bm PySem.F.plainAttrs_list PySem.F.slot_list_index PySem.F.type_list_index ?_
    walk_at "ge"
    refine ⟨ty_O kC, ?_⟩
    repeat walk_at "ge"
    refine ix_O kC mk_at ?_
    repeat walk_at "ge"
    refine m_index (hu65 hr) (isD_o kC) (RC.shp.sh (by decide)) ((shp_mk hm hz).sh (by decide)) (j := j) (z := mkD L[j]) (by rw [List.getElem?_map, List.getElem?_eq_getElem jl]; rfl) (by rw [eqv_mk]; exact jt) (fun k2 z' hk2 hz' => ?_) ?_
    · have k2l : k2 < L.length := by omega
      rw [List.getElem?_map, List.getElem?_eq_getElem k2l] at hz'
      cases hz'
      rw [eqv_mk]
      exact jn k2 hk2
    refine b_neI ?_
    rw [decide_eq_true rfl]
    repeat walk_at "ge"
    refine b_notInI e rC hne cmpT ?_
    rw [show (List.range (L.map Rdr.n).length).any e = true from List.any_eq_true.mpr ⟨j, List.mem_range.mpr (by rw [nsl]; exact jl), ej⟩]
    repeat walk_at "ge"
    refine as_nil ?_
    obtain ⟨c, hc, _, hcm⟩ := str_at hz0.ok (i := 0) (by decide) (by have := hz0.l0; omega)
    have hsc : sgn c = true := hz0.all c hcm
    refine as_cons (as_expr ?_)
    refine ae_meth E7 (hr.mono (by decide)) ?_
    repeat walk_at "ge"
    refine ⟨B.length, _, rfl, hT, rfl, ?_⟩
    repeat walk_at "ge"
    refine ix_S (sz (by have := hz0.l1; omega)) hc ?_
    repeat walk_at "ge"
    refine ⟨B.length, B.length + 1, m, z, c, rfl, hT, hT1, by omega, hm, by omega, hsc, clC, ?_⟩
    have cz : (cds z).length = z.length := cds_len z
    obtain ⟨zc, hzc⟩ : ∃ zc : Str, zc = mkS (cds z ++ [c]) := ⟨_, rfl⟩
    have czc : cds zc = cds z ++ [c] := by rw [hzc, cds_mkS]
    have lzc : zc.length = z.length + 1 := by rw [hzc, mkS_len, List.length_append, cz]; rfl
    have zne : zc ≠ z := fun e9 => by rw [e9] at lzc; omega
    have hwc : WordOk zc := ⟨by omega, fun d hd => by
      rw [czc, List.mem_append] at hd
      rcases hd with hd | hd
      · exact hz.all d hd
      · rw [List.mem_singleton.mp hd]; exact hsc⟩
    rw [← hzc, ← czc, hC, set_at0, set_at 1]
    obtain ⟨D, hD⟩ : ∃ D : Own, D = B ++ [RdI m zc (B.length + 1), rws m (cds zc)] := ⟨_, rfl⟩
    show ASs _ _ _ (B ++ [RdI m zc (B.length + 1), rws m (cds zc)]) _
    rw [← hD]
    have hTD : D[B.length]? = some (RdI m zc (B.length + 1)) := by rw [hD]; exact get_at0
    have hTD1 : D[B.length + 1]? = some (rws m (cds zc)) := by rw [hD]; exact get_at 1
    have rD : D[r]? = some (.lst ((L.map Rdr.n).map PV.o)) := by rw [hD]; exact app_ _ rB
    have kD : D[k]? = some (.lst ((L.map mkD).map PV.d)) := by rw [hD]; exact app_ _ kB
    have nD : D[n]? = some (RdI m z q) := by rw [hD]; exact app_ _ nB
    have qD : D[q]? = some (rws m (cds z)) := by rw [hD]; exact app_ _ qB
    have RD : Rs D L := by rw [hD]; exact hRB.app _
    have clD : ClO D := by rw [hD]; exact bel _ _ _
    refine as_cons (as_if ?_)
    repeat walk_at "ge"
    refine ix_O rD rd_at ?_
    refine b_cmp rfl (eq_RR (k := 1) E12 (.here (hr.mono (by decide))) hTD nD hm hm) ?_
    rw [eqM_ne zne]
    repeat walk_at "ge"
    refine ae_meth0 E8 (hr.mono (by decide)) ?_
    repeat walk_at "ge"
    refine ix_O rD rd_at ?_
    refine ⟨n, _, rfl, nD, rfl, ?_⟩
    refine ⟨n, q, m, z, rfl, nD, ?_⟩
    repeat walk_at "ge"
    refine ix_O kD mk_at ?_
    repeat walk_at "ge"
    refine ix_T (xs := [mD m, .str z]) (a := .str z) rfl ?_
    refine b_neS ?_
    rw [decide_eq_true rfl]
    repeat walk_at "ge"
    refine ⟨r, k, L, rfl, rD, kD, RD, hL, clD, ?_⟩
    repeat walk_at "ge"
    refine as_nil ?_
    -- the other one stays as it was
    refine as_cons (as_if ?_)
    refine at_cmp ?_
    refine ae_lstD (aa_cons (AE.gh (ae_meth0 E3 (hr.mono (by decide)) ?_)))
    repeat walk_at "ge"
    refine ix_O rD rd_at ?_
    refine ⟨n, _, rfl, nD, rfl, ?_⟩
    refine ⟨n, q, m, z, rfl, nD, qD, gh_list0 clD (Nat.le_refl _) ?_⟩
    refine aa_cons (ae_meth0 E4 (hr.mono (by decide)) ?_)
    repeat walk_at "ge"
    refine ix_O rD rd_at ?_
    refine ⟨n, _, rfl, nD, rfl, ?_⟩
    refine ⟨n, q, m, z, rfl, nD, qD, hm, clD, ?_⟩
    refine aa_cons (AE.gh (ae_meth0 E5 (hr.mono (by decide)) ?_))
    repeat walk_at "ge"
    refine ix_O rD rd_at ?_
    refine ⟨n, _, rfl, nD, rfl, ?_⟩
    refine ⟨n, q, m, z, rfl, nD, qD, hm, gh_list0 clD (Nat.le_refl _) ?_⟩
    refine aa_nil ⟨[vD (vecR m (cds z)), .int (waysN m (cds z) m.fs m.ls), rmsD (inV (vecR m (cds z)))], rfl, by show 3 ≤ 16000000; decide, ?_⟩
    rw [← hah]
    repeat walk_at "ge"
    refine b_ne hr.units (sah.sh (by decide)) (sah.sh (by decide)) ?_
    rw [eqv_same sah.1]
    repeat walk_at "ge"
    refine as_nil ?_
    refine as_cons (as_expr ?_)
    refine ae_meth E7 (hr.mono (by decide)) ?_
    repeat walk_at "ge"
    refine ix_O rD rd_at ?_
    refine ⟨n, _, rfl, nD, rfl, ?_⟩
    repeat walk_at "ge"
    refine ix_S (sz (by have := hz0.l1; omega)) hc ?_
    repeat walk_at "ge"
    refine ⟨n, q, m, z, c, rfl, nD, qD, hnq, hm, by omega, hsc, clD, ?_⟩
    have nl : n < B.length := (List.getElem?_eq_some_iff.mp nB).1
    have ql : q < B.length := (List.getElem?_eq_some_iff.mp qB).1
    obtain ⟨B2, hB2⟩ : ∃ B2 : Own, B2 = (B.set n (RdI m zc q)).set q (rws m (cds zc)) := ⟨_, rfl⟩
    have lB2 : B2.length = B.length := by rw [hB2, List.length_set, List.length_set]
    have clB2 : ClO B2 := by rw [hB2]; exact cl_set (cl_rdI clB ql) (lst_below _)
    have sA : ∀ (U : Own) (x1 x2 : AO), ((B ++ U).set n x1).set q x2 = (B.set n x1).set q x2 ++ U := fun U x1 x2 => by
      rw [List.set_append_left _ _ nl, List.set_append_left _ _ (by rw [List.length_set]; exact ql)]
    rw [← hzc, ← czc, hD, sA, ← hB2, ← lB2]
    have nB2 : B2[n]? = some (RdI m zc q) := by rw [hB2, List.getElem?_set_ne (Ne.symm hnq)]; exact List.getElem?_set_self nl
    have qB2 : B2[q]? = some (rws m (cds zc)) := by rw [hB2]; exact List.getElem?_set_self (by rw [List.length_set]; exact ql)
    have rB2 : B2[r]? = some (.lst ((L.map Rdr.n).map PV.o)) := by rw [hB2, List.getElem?_set_ne (by omega), List.getElem?_set_ne (by omega)]; exact rB
    have kB2 : B2[k]? = some (.lst ((L.map mkD).map PV.d)) := by rw [hB2, List.getElem?_set_ne (by omega), List.getElem?_set_ne (by omega)]; exact kB
    have app2 : ∀ {j : Nat} {y : AO} (U : Own), B2[j]? = some y → (B2 ++ U)[j]? = some y := fun {j y} U hj => by
      rw [List.getElem?_append_left (List.getElem?_eq_some_iff.mp hj).1]; exact hj
    obtain ⟨G, hG⟩ : ∃ G : Own, G = B2 ++ [RdI m zc (B2.length + 1), rws m (cds zc)] := ⟨_, rfl⟩
    rw [← hG]
    have hTG : G[B2.length]? = some (RdI m zc (B2.length + 1)) := by rw [hG]; exact get_at0
    have hTG1 : G[B2.length + 1]? = some (rws m (cds zc)) := by rw [hG]; exact get_at 1
    have rG : G[r]? = some (.lst ((L.map Rdr.n).map PV.o)) := by rw [hG]; exact app2 _ rB2
    have kG : G[k]? = some (.lst ((L.map mkD).map PV.d)) := by rw [hG]; exact app2 _ kB2
    have nG : G[n]? = some (RdI m zc q) := by rw [hG]; exact app2 _ nB2
    have qG : G[q]? = some (rws m (cds zc)) := by rw [hG]; exact app2 _ qB2
    have clG : ClO G := by
      rw [hG]
      refine cl_ext clB2 (fun x hx => ?_)
      simp only [List.mem_cons, List.not_mem_nil, or_false] at hx
      rcases hx with rfl | rfl
      · show (true && (true && (decide (B2.length + 1 < B2.length + 2) && true))) = true
        rw [decide_eq_true (by omega)]; rfl
      · exact lst_below _
    refine as_cons (as_if ?_)
    repeat walk_at "ge"
    refine ix_O rG rd_at ?_
    refine b_cmp rfl (ne_RR (k := 1) E12 XS.e_Reader (.here (hr.mono (by decide))) hTG nG hm hm) ?_
    rw [eqM_same hm]
    repeat walk_at "ge"
    refine AE.gh (ae_meth0 E3 (hr.mono (by decide)) ?_)
    repeat walk_at "ge"
    refine ⟨B2.length, _, rfl, hTG, rfl, ?_⟩
    refine ⟨B2.length, B2.length + 1, m, zc, rfl, hTG, hTG1, gh_list0 clG (Nat.le_refl _) ?_⟩
    refine AE.gh (ae_meth0 E3 (hr.mono (by decide)) ?_)
    repeat walk_at "ge"
    refine ix_O rG rd_at ?_
    refine ⟨n, _, rfl, nG, rfl, ?_⟩
    refine ⟨n, q, m, zc, rfl, nG, qG, gh_list0 clG (Nat.le_refl _) ?_⟩
    have shv : ∀ cs, SeqAt.shaped (vD (vecR m cs)) = true := fun cs => (shp_v (k := 0) _).sh (by decide)
    refine b_ne hr.units (shv _) (shv _) ?_
    rw [eqv_same (shp_v (k := 0) (vecR m (cds zc))).1]
    repeat walk_at "ge"
    refine ae_meth0 E4 (hr.mono (by decide)) ?_
    repeat walk_at "ge"
    refine ⟨B2.length, _, rfl, hTG, rfl, ?_⟩
    refine ⟨B2.length, B2.length + 1, m, zc, rfl, hTG, hTG1, hm, clG, ?_⟩
    refine ae_meth0 E4 (hr.mono (by decide)) ?_
    repeat walk_at "ge"
    refine ix_O rG rd_at ?_
    refine ⟨n, _, rfl, nG, rfl, ?_⟩
    refine ⟨n, q, m, zc, rfl, nG, qG, hm, clG, ?_⟩
    repeat walk_at "ge"
    rw [decide_eq_true rfl]
    repeat walk_at "ge"
    refine as_nil ?_
    refine as_cons (as_expr ?_)
    refine ae_meth E10 (hr.mono (by decide)) ?_
    repeat walk_at "ge"
    refine ix_O rG rd_at ?_
    refine ⟨n, _, rfl, nG, rfl, ?_⟩
    repeat walk_at "ge"
    refine ix_O rG rd_at ?_
    repeat walk_at "ge"
    refine c_lenI (k := 1) E11 (RoomG.mono (j := 2) hr (by decide)) nG ?_
    refine ⟨n, q, m, zc, rfl, nG, by omega, zc.length, rfl, by omega, ?_⟩
    repeat walk_at "ge"
    refine ⟨n, q, m, zc, zc.length, rfl, nG, qG, hnq, by omega, Nat.le_refl _, by omega, clG, ?_⟩
    have nl2 : n < B2.length := by rw [lB2]; exact nl
    obtain ⟨B3, hB3⟩ : ∃ B3 : Own, B3 = B2.set n (RdI m (mkS ((cds zc).take (zc.length - zc.length))) G.length) := ⟨_, rfl⟩
    have lB3 : B3.length = B2.length := by rw [hB3, List.length_set]
    have lG : G.length = B2.length + 2 := by rw [hG, List.length_append]; rfl
    have ap : ∀ (B T U : Own), B ++ T ++ U = B ++ (T ++ U) := fun B T U => List.append_assoc _ _ _
    have hGs : G.set n (RdI m (mkS ((cds zc).take (zc.length - zc.length))) G.length) ++ [rws m ((cds zc).take (zc.length - zc.length))] = B3 ++ [RdI m zc (B3.length + 1), rws m (cds zc), rws m ((cds zc).take (zc.length - zc.length))] := by
      rw [hB3]
      conv => lhs; rw [hG]
      rw [List.set_append_left _ _ nl2, ap, List.length_set, ← hG]
      rfl
    obtain ⟨I2, hI2⟩ : ∃ I2 : Own, I2 = B3 ++ [RdI m zc (B3.length + 1), rws m (cds zc), rws m ((cds zc).take (zc.length - zc.length))] := ⟨_, rfl⟩
    have clB3x : ClO I2 := by
      rw [hI2, ← hGs]
      have h0 : ClO (G ++ [rws m ((cds zc).take (zc.length - zc.length))]) := cl_app clG (lst_below _)
      have h1 := cl_rdI (n := n) (q := G.length) (m := m) (z := mkS ((cds zc).take (zc.length - zc.length))) h0 (by rw [List.length_append]; exact Nat.lt_succ_self _)
      rw [List.set_append_left _ _ (by rw [lG]; omega)] at h1
      exact h1
    rw [hGs, ← hI2, ← lB3]
    have app3 : ∀ {j : Nat} {y : AO} (U : Own), B3[j]? = some y → (B3 ++ U)[j]? = some y := fun {j y} U hj => by
      rw [List.getElem?_append_left (List.getElem?_eq_some_iff.mp hj).1]; exact hj
    have nB3 : B3[n]? = some (RdI m (mkS ((cds zc).take (zc.length - zc.length))) G.length) := by rw [hB3]; exact List.getElem?_set_self nl2
    have rB3 : B3[r]? = some (.lst ((L.map Rdr.n).map PV.o)) := by rw [hB3, List.getElem?_set_ne (by omega)]; exact rB2
    have kB3 : B3[k]? = some (.lst ((L.map mkD).map PV.d)) := by rw [hB3, List.getElem?_set_ne (by omega)]; exact kB2
    have z0e : mkS ((cds zc).take (zc.length - zc.length)) = ⟨#[]⟩ := by rw [Nat.sub_self]; rfl
    have nI : I2[n]? = some (RdI m ⟨#[]⟩ G.length) := by rw [hI2, ← z0e]; exact app3 _ nB3
    have rI : I2[r]? = some (.lst ((L.map Rdr.n).map PV.o)) := by rw [hI2]; exact app3 _ rB3
    have kI : I2[k]? = some (.lst ((L.map mkD).map PV.d)) := by rw [hI2]; exact app3 _ kB3
    have hTI : I2[B3.length]? = some (RdI m zc (B3.length + 1)) := by rw [hI2]; exact get_at0
    have hTI1 : I2[B3.length + 1]? = some (rws m (cds zc)) := by rw [hI2]; exact get_at 1
    refine as_cons (as_if ?_)
    repeat walk_at "ge"
    refine c_lenI (k := 1) E11 (RoomG.mono (j := 2) hr (by decide)) hTI ?_
    refine ⟨B3.length, B3.length + 1, m, zc, rfl, hTI, by omega, zc.length, rfl, by omega, ?_⟩
    repeat walk_at "ge"
    refine ix_O kI mk_at ?_
    repeat walk_at "ge"
    refine ix_T (xs := [mD m, .str z]) (a := .str z) rfl ?_
    repeat walk_at "ge"
    refine c_lenS (sz (by omega)) ?_
    repeat walk_at "ge"
    rw [decide_eq_true (show ((zc.length : Nat) : Int) = (z.length : Nat) + 1 by omega)]
    repeat walk_at "ge"
    refine ix_O rI rd_at ?_
    repeat walk_at "ge"
    refine c_lenI (k := 1) E11 (RoomG.mono (j := 2) hr (by decide)) nI ?_
    refine ⟨n, G.length, m, ⟨#[]⟩, rfl, nI, by show 0 ≤ 400; omega, 0, rfl, by omega, ?_⟩
    repeat walk_at "ge"
    refine as_nil ?_
    refine as_cons (as_expr ?_)
    refine ae_meth0 E9 (hr.mono (by decide)) ?_
    repeat walk_at "ge"
    refine ⟨B3.length, _, rfl, hTI, rfl, ?_⟩
    refine ⟨B3.length, B3.length + 1, m, zc, 1, rfl, hTI, hTI1, by omega, Nat.le_refl _, by omega, by omega, clB3x, ?_⟩
    have tk : (cds zc).take (zc.length - 1) = cds z := by rw [czc, lzc, ← cz, Nat.add_sub_cancel, List.take_left]
    have mz : mkS (cds z) = z := str_ext (by rw [cds_mkS])
    have lI : I2.length = B3.length + 3 := by rw [hI2, List.length_append]; rfl
    rw [tk, mz, lI]
    obtain ⟨J, hJ⟩ : ∃ J : Own, J = B3 ++ [RdI m z (B3.length + 3), rws m (cds zc), rws m ((cds zc).take (zc.length - zc.length)), rws m (cds z)] := ⟨_, rfl⟩
    have hJs : I2.set B3.length (RdI m z (B3.length + 3)) ++ [rws m (cds z)] = J := by rw [hI2, set_at0, ap, hJ]; rfl
    have clJ : ClO J := by
      rw [← hJs]
      have h0 : ClO (I2 ++ [rws m (cds z)]) := cl_app clB3x (lst_below _)
      have h1 := cl_rdI (n := B3.length) (q := B3.length + 3) (m := m) (z := z) h0 (by rw [List.length_append, lI]; exact Nat.lt_succ_self _)
      rw [List.set_append_left _ _ (by rw [lI]; omega)] at h1
      exact h1
    rw [hJs]
    have hTJ : J[B3.length]? = some (RdI m z (B3.length + 3)) := by rw [hJ]; exact get_at0
    have hTJ3 : J[B3.length + 3]? = some (rws m (cds z)) := by rw [hJ]; exact get_at 3
    refine as_cons (as_if ?_)
    repeat walk_at "ge"
    refine ae_lstD (aa_cons (AE.gh (ae_meth0 E3 (hr.mono (by decide)) ?_)))
    repeat walk_at "ge"
    refine ⟨B3.length, _, rfl, hTJ, rfl, ?_⟩
    refine ⟨B3.length, B3.length + 3, m, z, rfl, hTJ, hTJ3, gh_list0 clJ (Nat.le_refl _) ?_⟩
    refine aa_cons (ae_meth0 E4 (hr.mono (by decide)) ?_)
    repeat walk_at "ge"
    refine ⟨B3.length, _, rfl, hTJ, rfl, ?_⟩
    refine ⟨B3.length, B3.length + 3, m, z, rfl, hTJ, hTJ3, hm, clJ, ?_⟩
    refine aa_cons (AE.gh (ae_meth0 E5 (hr.mono (by decide)) ?_))
    repeat walk_at "ge"
    refine ⟨B3.length, _, rfl, hTJ, rfl, ?_⟩
    refine ⟨B3.length, B3.length + 3, m, z, rfl, hTJ, hTJ3, hm, gh_list0 clJ (Nat.le_refl _) ?_⟩
    refine aa_nil ⟨[vD (vecR m (cds z)), .int (waysN m (cds z) m.fs m.ls), rmsD (inV (vecR m (cds z)))], rfl, by show 3 ≤ 16000000; decide, ?_⟩
    rw [← hah]
    repeat walk_at "ge"
    refine b_ne hr.units (sah.sh (by decide)) (sah.sh (by decide)) ?_
    rw [eqv_same sah.1]
    repeat walk_at "ge"
    refine AE.gh (ae_meth0 E3 (hr.mono (by decide)) (ae_meth0 E6 (hr.mono (by decide)) ?_))
    repeat walk_at "ge"
    refine ⟨B3.length, _, rfl, hTJ, rfl, ?_⟩
    refine ⟨B3.length, B3.length + 3, m, z, rfl, hTJ, hTJ3, hm, hz, clJ, ?_⟩
    have clJ2 : ClO (J ++ [RdI m z (J.length + 1), rws m (cds z)]) := cl_ext clJ (fun x hx => by
      simp only [List.mem_cons, List.not_mem_nil, or_false] at hx
      rcases hx with rfl | rfl
      · show (true && (true && (decide (J.length + 1 < J.length + 2) && true))) = true
        rw [decide_eq_true (by omega)]; rfl
      · exact lst_below _)
    refine ⟨J.length, _, rfl, get_at0, rfl, ?_⟩
    refine ⟨J.length, J.length + 1, m, z, rfl, get_at0, get_at 1, gh_list0 clJ2 (by rw [List.length_append]; omega) ?_⟩
    repeat walk_at "ge"
    refine ix_L (xs := ah) (a := vD (vecR m (cds z))) (by rw [hah]; rfl) ?_
    refine b_ne hr.units (shv _) (shv _) ?_
    rw [eqv_same (shp_v (k := 0) (vecR m (cds z))).1]
    repeat walk_at "ge"
    refine as_nil ?_
    refine as_cons (as_ret (ae_bl ?_))
    exact .keep (Q _)
end
end K29
set_option pp.maxSteps 1200
namespace K29
open PySem PySem.Spec L2 Al
open PyProof.Rows hiding St
local macro_rules | `(tactic| walk_at "v") => `(tactic| first | refine ae_var 0 rfl ?_ | refine ae_var 1 rfl ?_ | refine ae_var 2 rfl ?_ | refine ae_var 3 rfl ?_ | refine ae_var 4 rfl ?_ | refine ae_var 5 rfl ?_ | refine ae_var 6 rfl ?_ | refine ae_var 7 rfl ?_ | refine ae_var 8 rfl ?_ | refine ae_var 9 rfl ?_ | refine ae_var 10 rfl ?_ | refine ae_var 11 rfl ?_ | refine ae_var 12 rfl ?_ | refine ae_var 13 rfl ?_ | refine ae_var 14 rfl ?_ | refine ae_var 15 rfl ?_ | refine ae_var 16 rfl ?_ | refine ae_var 17 rfl ?_ | refine ae_var 18 rfl ?_ | refine ae_var 19 rfl ?_ | refine ae_ty (Txt.int_ ‹_›) boot_int ?_ | refine ae_ty (Txt.str_ ‹_›) boot_str ?_ | refine ae_ty (Txt.bool_ ‹_›) boot_bool ?_ | refine ae_ty (Txt.list_ ‹_›) boot_list ?_ | refine ae_ty (Txt.tuple_ ‹_›) boot_tuple ?_ | refine ae_globS (Txt.LETTERS ‹_›).choose_spec ?_ | refine ae_globI (Txt.MOST_ROOMS ‹_›).choose_spec ?_ | refine ae_globI (Txt.MOST_STEPS ‹_›).choose_spec ?_ | refine ae_globI (Txt.MOST_WORD ‹_›).choose_spec ?_)
local macro_rules | `(tactic| walk_at "ge") => `(tactic| first
  | ((with_reducible show ite (true = true) _ _); refine iteT ?_)
  | ((with_reducible show ite (false = true) _ _); refine iteF ?_)
  | ((with_reducible show ite ((!true) = true) _ _); refine iteF ?_)
  | ((with_reducible show ite ((!false) = true) _ _); refine iteT ?_)
  | ((with_reducible show IsB _ _ _); refine isB_mk ?_)
  | ((with_reducible show AE _ (Expr.Name _ _) _ _ _); walk_at "v")
  | ((with_reducible show AE _ (Expr.Constant (Const.int _) _ _) _ _ _); refine ae_int ?_)
  | ((with_reducible show AE _ (Expr.Constant (Const.str _) _ _) _ _ _); refine ae_str ?_)
  | ((with_reducible show AE _ (Expr.Constant (Const.bool _) _ _) _ _ _); refine ae_bl ?_)
  | ((with_reducible show AE _ (Expr.Constant Const.none _ _) _ _ _); refine ae_non ?_)
  | ((with_reducible show AO1 _ (some _) _ _ _); refine ao_some ?_)
  | ((with_reducible show AO1 _ none _ _ _); refine ao_none ?_)
  | ((with_reducible show AE _ (Expr.BinOp _ _ _ _) _ _ _); refine ae_bin ?_)
  | ((with_reducible show AE _ (Expr.Compare _ [_] [_] _) _ _ _); refine ae_cmp ?_)
  | ((with_reducible show AE _ (Expr.Compare _ [_, _] [_, _] _) _ _ _); refine ae_chain ?_)
  | ((with_reducible show AE _ (Expr.Subscript _ (Expr.Slice none none (some _) _) _) _ _ _); refine ae_revS ?_)
  | ((with_reducible show AE _ (Expr.Subscript _ (Expr.Slice _ _ _ _) _) _ _ _); fail)
  | ((with_reducible show AE _ (Expr.Subscript _ _ _) _ _ _); refine ae_ix ?_)
  | ((with_reducible show AE _ (Expr.BoolOp _ [_] _) _ _ _); refine ae_one ?_)
  | ((with_reducible show AE _ (Expr.BoolOp BoolOp.And _ _) _ _ _); refine ae_and ?_)
  | ((with_reducible show AE _ (Expr.BoolOp BoolOp.Or _ _) _ _ _); refine ae_or ?_)
  | ((with_reducible show AE _ (Expr.UnaryOp UnaryOp.Not _ _) _ _ _); refine ae_not ?_)
  | ((with_reducible show AE _ (Expr.UnaryOp _ _ _) _ _ _); refine ae_un ?_)
  | ((with_reducible show AE _ (Expr.IfExp _ _ _ _) _ _ _); refine ae_if ?_)
  | ((with_reducible show AT _ (Expr.Compare _ [_] [_] _) _ _ _); refine at_cmp ?_)
  | ((with_reducible show AT _ (Expr.Compare _ [_, _] [_, _] _) _ _ _); refine at_chain ?_)
  | ((with_reducible show AT _ (Expr.UnaryOp UnaryOp.Not _ _) _ _ _); refine at_not ?_)
  | ((with_reducible show AT _ (Expr.BoolOp _ _ _) _ _ _); refine at_w ?_)
  | ((with_reducible show AT _ (Expr.Call _ _ _ _) _ _ _); refine at_val ?_)
  | ((with_reducible show AT _ (Expr.Name _ _) _ _ _); refine at_val ?_)
  | ((with_reducible show AW _ (Expr.BoolOp BoolOp.And [_] _) _ _ _); refine aw_and1 ?_)
  | ((with_reducible show AW _ (Expr.BoolOp BoolOp.Or [_] _) _ _ _); refine aw_or1 ?_)
  | ((with_reducible show AW _ (Expr.BoolOp BoolOp.And _ _) _ _ _); refine aw_and ?_)
  | ((with_reducible show AW _ (Expr.BoolOp BoolOp.Or _ _) _ _ _); refine aw_or ?_)
  | ((with_reducible show AA _ [] _ _ _); refine aa_nil ?_)
  | ((with_reducible show AA _ (_ :: _) _ _ _); refine aa_cons ?_)
  | ((with_reducible show BinA _ (binaryOp Operator.Add) (PV.d (PyData.int _)) (PV.d (PyData.int _)) _ _); refine b_add ?_)
  | ((with_reducible show BinA _ (binaryOp Operator.Sub) (PV.d (PyData.int _)) (PV.d (PyData.int _)) _ _); refine b_sub ?_)
  | ((with_reducible show BinA _ (compareOp CmpOp.Lt) (PV.d (PyData.int _)) (PV.d (PyData.int _)) _ _); refine b_lt ?_)
  | ((with_reducible show BinA _ (compareOp CmpOp.LtE) (PV.d (PyData.int _)) (PV.d (PyData.int _)) _ _); refine b_le ?_)
  | ((with_reducible show BinA _ (compareOp CmpOp.Gt) (PV.d (PyData.int _)) (PV.d (PyData.int _)) _ _); refine b_gt ?_)
  | ((with_reducible show BinA _ (compareOp CmpOp.GtE) (PV.d (PyData.int _)) (PV.d (PyData.int _)) _ _); refine b_ge ?_)
  | ((with_reducible show BinA _ (compareOp CmpOp.Eq) (PV.d (PyData.int _)) (PV.d (PyData.int _)) _ _); refine b_eqI ?_)
  | ((with_reducible show BinA _ (compareOp CmpOp.NotEq) (PV.d (PyData.int _)) (PV.d (PyData.int _)) _ _); refine b_neI ?_)
  | ((with_reducible show BinA _ (compareOp CmpOp.Eq) (PV.d (PyData.str _)) (PV.d (PyData.str _)) _ _); refine b_eqS ?_)
  | ((with_reducible show BinA _ (compareOp CmpOp.NotEq) (PV.d (PyData.str _)) (PV.d (PyData.str _)) _ _); refine b_neS ?_)
  | ((with_reducible show BinA _ (compareOp CmpOp.LtE) (PV.d (PyData.str _)) (PV.d (PyData.str _)) _ _); refine b_leS ?_)
  | ((with_reducible show BinA _ (compareOp CmpOp.Lt) (PV.d (PyData.str _)) (PV.d (PyData.str _)) _ _); refine b_ltS ?_)
  | ((with_reducible show BinA _ (compareOp CmpOp.Eq) (PV.d (PyData.bool _)) (PV.d (PyData.bool _)) _ _); refine b_eqB ?_)
  | ((with_reducible show AE _ (Expr.Call (Expr.Name "int" _) _ [] _) _ _ _); refine ae_callTy rfl (Txt.int_ ‹_›) boot_int ?_)
  | ((with_reducible show AE _ (Expr.Call (Expr.Name "isinstance" _) _ [] _) _ _ _); refine ae_callB rfl (Txt.isi_ ‹_›) boot_isinstance ?_)
  | ((with_reducible show AE _ (Expr.Call (Expr.Name "len" _) _ [] _) _ _ _); refine ae_callB rfl (Txt.len_ ‹_›) PySem.boot_len ?_)
  | ((with_reducible show AE _ (Expr.Call (Expr.Name "list" _) _ [] _) _ _ _); refine ae_callTy rfl (Txt.list_ ‹_›) boot_list ?_)
  | ((with_reducible show AE _ (Expr.Call (Expr.Name "max" _) _ [] _) _ _ _); refine ae_callB rfl (Txt.max_ ‹_›) boot_max ?_)
  | ((with_reducible show AE _ (Expr.Call (Expr.Name "min" _) _ [] _) _ _ _); refine ae_callB rfl (Txt.min_ ‹_›) boot_min ?_)
  | ((with_reducible show AE _ (Expr.Call (Expr.Name "sum" _) _ [] _) _ _ _); refine ae_callB rfl (Txt.sum_ ‹_›) boot_sum ?_)
  | ((with_reducible show AE _ (Expr.Call (Expr.Name "_law_hand" _) _ [] _) _ _ _); refine ae_callA ‹D__law_hand _› (RoomG.mono ‹_› (by first | decide | omega)) ?_)
  | ((with_reducible show AE _ (Expr.Call (Expr.Name "_law_letters" _) _ [] _) _ _ _); refine ae_callA ‹D__law_letters _› (RoomG.mono ‹_› (by first | decide | omega)) ?_)
  | ((with_reducible show AE _ (Expr.Call (Expr.Name "_law_machines" _) _ [] _) _ _ _); refine ae_callA ‹D__law_machines _› (RoomG.mono ‹_› (by first | decide | omega)) ?_)
  | ((with_reducible show AE _ (Expr.Call (Expr.Name "_law_word" _) _ [] _) _ _ _); refine ae_callA ‹D__law_word _› (RoomG.mono ‹_› (by first | decide | omega)) ?_)
  | ((with_reducible show AE _ (Expr.Call (Expr.Name "_law_all_alike" _) _ [] _) _ _ _); refine ae_callA ‹D__law_all_alike _› (RoomG.mono ‹_› (by first | decide | omega)) ?_)
  | ((with_reducible show AE _ (Expr.Call (Expr.Name "_law_unlike_others" _) _ [] _) _ _ _); refine ae_callA ‹D__law_unlike_others _› (RoomG.mono ‹_› (by first | decide | omega)) ?_)
  | ((with_reducible show AE _ (Expr.Call (Expr.Name "_law_twins_right" _) _ [] _) _ _ _); refine ae_callA ‹D__law_twins_right _› (RoomG.mono ‹_› (by first | decide | omega)) ?_)
  | ((with_reducible show CallA _ (Value.builtin "isinstance") [PV.d _, PV.v (V.ty "int")] _ _); refine c_isInt ?_)
  | ((with_reducible show CallA _ (Value.builtin "isinstance") [PV.d _, PV.v (V.ty "str")] _ _); refine c_isStr ?_)
  | ((with_reducible show CallA _ (Value.builtin "isinstance") [PV.d _, PV.v (V.ty "bool")] _ _); refine c_isBool ?_)
  | ((with_reducible show CallA _ (Value.builtin "isinstance") [PV.d _, PV.v (V.ty "list")] _ _); refine c_isList ?_)
  | ((with_reducible show CallA _ (Value.builtin "isinstance") [PV.d _, PV.v (V.ty "tuple")] _ _); refine c_isTup ?_)
  | ((with_reducible show CallA _ (Value.builtin "len") [PV.d (PyData.list _)] _ _); refine c_lenL ?_)
  | ((with_reducible show CallA _ (Value.builtin "len") [PV.d (PyData.tuple _)] _ _); refine c_lenT ?_)
  | ((with_reducible show CallA _ (Value.builtin "sum") [PV.d (PyData.list (List.map PyData.int _))] _ _); refine c_sum rfl ?_)
  | ((with_reducible show CallA _ (Value.type "int") [PV.d (PyData.bool _)] _ _); refine c_intB ?_)
  | ((with_reducible show AE _ (Expr.Call (Expr.Attribute _ "append" _) _ _ _) _ _ _); refine ae_bm PySem.F.plainAttrs_list PySem.F.slot_list_append PySem.F.type_list_append ?_)
  | ((with_reducible show BinA _ (inplaceOp Operator.Add) (PV.d (PyData.int _)) (PV.d (PyData.int _)) _ _); refine ib_add ?_)
  | ((with_reducible show UnA _ (unaryOp UnaryOp.USub) (PV.d (PyData.int _)) _ _); refine u_neg ?_)
  | ((with_reducible show IxA _ (PV.d (mD _)) (PV.d (PyData.int 0)) _ _); refine ixm0 ?_)
  | ((with_reducible show IxA _ (PV.d (mD _)) (PV.d (PyData.int 1)) _ _); refine ixm1 ?_)
  | ((with_reducible show IxA _ (PV.d (mD _)) (PV.d (PyData.int 2)) _ _); refine ixm2 ?_)
  | ((with_reducible show IxA _ (PV.d (mD _)) (PV.d (PyData.int 3)) _ _); refine ixm3 ?_)
  | ((with_reducible show IxA _ (PV.d (stD _)) (PV.d (PyData.int 0)) _ _); refine ixs0 ?_)
  | ((with_reducible show IxA _ (PV.d (stD _)) (PV.d (PyData.int 1)) _ _); refine ixs1 ?_)
  | ((with_reducible show IxA _ (PV.d (stD _)) (PV.d (PyData.int 2)) _ _); refine ixs2 ?_))
local macro_rules | `(tactic| walk_at "go1") => `(tactic| first
  | walk_at "ge"
  | ((with_reducible show ASs _ (_ :: _) _ _ _); refine as_cons ?_)
  | ((with_reducible show ASs _ [] _ _ _); refine as_nil ?_)
  | ((with_reducible show AS _ (Stmt.Return (some _) _) _ _ _); refine as_ret ?_)
  | ((with_reducible show AS _ (Stmt.If _ _ _ _) _ _ _); refine as_if ?_)
  | ((with_reducible show AS _ (Stmt.Expr _ _) _ _ _); refine as_expr ?_))
local macro_rules | `(tactic| walk_at "fld") => `(tactic| (refine ae_fld ?_; refine ae_var 0 rfl ?_; refine ⟨_, "Reader", _, _, rfl, by assumption, Xs.k_Reader ‹_›, ?_, rfl, ?_⟩; (first | exact Xs.f_Reader_read_machine ‹_› | exact Xs.f_Reader_word ‹_› | exact Xs.f_Reader_vectors ‹_›)))
local macro_rules | `(tactic| walk_at "ge") => `(tactic| first | ((with_reducible show AE _ (Expr.Attribute (Expr.Name "self" _) _ _) _ _ _); walk_at "fld") | ((with_reducible show AT _ (Expr.Attribute _ _ _) _ _ _); refine at_val ?_))
section
variable {P : Program} {w : World} {K : PySem.W.Frag} {mg : Str → Option Value} {base : Heap}
theorem ok_law {f : Addr} {fd : FuncData} (F : Fun K "law" "law" s_law f fd) (T : Txt mg) (XS : Xs ⟨P, w, K, mg, base⟩) (E1 : D__law_hand ⟨P, w, K, mg, base⟩) (E2 : D__law_letters ⟨P, w, K, mg, base⟩) (E3 : D__law_machines ⟨P, w, K, mg, base⟩) (E4 : D__law_word ⟨P, w, K, mg, base⟩) (E5 : D_new_Reader ⟨P, w, K, mg, base⟩) (E6 : D_Reader_take ⟨P, w, K, mg, base⟩) (E7 : D__law_all_alike ⟨P, w, K, mg, base⟩) (E8 : D__law_unlike_others ⟨P, w, K, mg, base⟩) (E9 : D__law_twins_right ⟨P, w, K, mg, base⟩) : Fn ⟨P, w, K, mg, base⟩ 10 f fd P_law (up rLaw) := by
  refine okA F sc_law (fun args O Φ Ξ h => ?_) (fun cdv A outer s H E as0 F0 args O Φ Ξ hr h => ?_)
  · first | (obtain ⟨rfl, _⟩ := h; rfl) | (obtain ⟨_, rfl, _⟩ := h; rfl) | (obtain ⟨_, _, rfl, _⟩ := h; rfl) | (obtain ⟨_, _, _, rfl, _⟩ := h; rfl) | (obtain ⟨_, _, _, _, rfl, _⟩ := h; rfl) | (obtain ⟨_, _, _, _, _, rfl, _⟩ := h; rfl) | (obtain ⟨_, _, _, _, _, _, rfl, _⟩ := h; rfl) | (obtain ⟨_, _, _, _, _, _, _, rfl, _⟩ := h; rfl) | (obtain ⟨_, _, _, _, _, _, _, _, rfl, _⟩ := h; rfl) | (obtain ⟨_, _, _, _, _, _, _, _, _, rfl, _⟩ := h; rfl) | (obtain ⟨_, _, _, _, _, _, _, _, _, _, rfl, _⟩ := h; rfl) | (obtain ⟨_, _, _, _, _, _, _, _, _, _, _, rfl, _⟩ := h; rfl)
  · skip
    obtain ⟨ns, rfl, hn, rfl, q⟩ := h
    refine as_cons ?_
    refine as_for PassesOwn.never rfl (ai_range1 rfl T.range_ ?_)
    repeat walk_at "ge"
    refine c_lens ?_
    repeat walk_at "ge"
    refine c_min2 rfl ?_
    repeat walk_at "ge"
    refine c_max2 rfl ?_
    walk_at "ge"
    generalize em : (if (if (8 : Int) < (ns.length : Nat) then (8 : Int) else (ns.length : Nat)) > 1 then (if (8 : Int) < (ns.length : Nat) then (8 : Int) else (ns.length : Nat)) else (1 : Int)) = mm
    have m0 : 0 ≤ mm := by omega
    have m1 : mm ≤ 63 := by omega
    refine ⟨mm, rfl, by omega, by omega, fun i ρ' O' => O' = [] ∧ ∃ (y1 y3 y4 y5 y8 y9 : Option PyData), ρ' = [some (.s ns), y1.map PV.d, none, y3.map PV.d, y4.map PV.d, y5.map PV.d, none, none, y8.map PV.d, y9.map PV.d, none], ⟨rfl, none, none, none, none, none, none, rfl⟩, fun _ _ _ _ => trivial, ?_, ?_⟩
    · rintro i x ρ' O' hx ⟨rfl, y1, y3, y4, y5, y8, y9, rfl⟩
      obtain ⟨hj, rfl⟩ := rng_at hx
      have cl2 : ∀ a s, ClO [hnd a s] := fun a s => rfl
      refine ag_name 1 sc_law.nd ?_
      refine as_cons (as_set 2 sc_law.nd ?_)
      repeat walk_at "ge"
      refine ⟨ns, _, rfl, by omega, by omega, fun a s ok => ?_⟩
      refine as_cons (as_set 3 sc_law.nd ?_)
      repeat walk_at "ge"
      refine ⟨0, a, s, rfl, rfl, ok, fun z a1 s1 ok1 hz hz10 => ?_⟩
      refine as_cons (as_set 4 sc_law.nd ?_)
      repeat walk_at "ge"
      refine ⟨0, a1, s1, z, rfl, rfl, ok1, hz, cl2 _ _, fun ms a2 s2 ok2 hml hmo => ?_⟩
      rw [show (([] ++ [hnd a s] : Own).set 0 (hnd a1 s1)).set 0 (hnd a2 s2) = [hnd a2 s2] from rfl]
      have wok : ∀ {y : Str}, (y.length : Int) ≤ 3 → (∀ c ∈ cds y, c ∈ cds z) → WordOk y := fun {y} h1 h2 => ⟨by omega, fun c hc => hz.all c (h2 c hc)⟩
      refine as_cons (as_set 5 sc_law.nd (ae_lstD ?_))
      repeat walk_at "ge"
      refine ⟨0, a2, s2, z, 3, rfl, rfl, ok2, hz, by decide, by decide, cl2 _ _, fun w1 a3 s3 ok3 hw1 hw1z => ?_⟩
      repeat walk_at "ge"
      refine ⟨0, a3, s3, z, 3, rfl, rfl, ok3, hz, by decide, by decide, cl2 _ _, fun w2 a4 s4 ok4 hw2 hw2z => ?_⟩
      rw [show ([hnd a2 s2].set 0 (hnd a3 s3)).set 0 (hnd a4 s4) = ([hnd a4 s4] : Own) from rfl]
      repeat walk_at "ge"
      refine ⟨[.str w1, .str w2], rfl, by show 2 ≤ 16000000; decide, ?_⟩
      have wok1 := wok hw1 hw1z
      have wok2 := wok hw2 hw2z
      refine as_cons (as_set 6 sc_law.nd (ae_lstO ?_))
      repeat walk_at "ge"
      refine ⟨by show 0 ≤ 16000000; decide, ?_⟩
      refine as_cons (as_set 7 sc_law.nd (ae_lstO ?_))
      repeat walk_at "ge"
      refine ⟨by show 0 ≤ 16000000; decide, ?_⟩
      show ASs _ _ [some (.s ns), some (.d (iD i)), some (.o 0), some (pS z), some (.d (.list (ms.map mD))), some (.d (.list [.str w1, .str w2])), some (.o 1), some (.o 2), y8.map PV.d, y9.map PV.d, none] [hnd a4 s4, .lst [], .lst []] _
      refine as_cons ?_
      refine as_for PassesOwn.never rfl (ai_list ?_)
      repeat walk_at "ge"
      refine ⟨_, rfl, fun i2 ρ' U => ∃ (L : List Rdr) (y8 y9 : Option PyData) (y10 : Option PV), U[0]? = some (hnd a4 s4) ∧ U[1]? = some (.lst ((L.map Rdr.n).map PV.o)) ∧ U[2]? = some (.lst ((L.map mkD).map PV.d)) ∧ Rs U L ∧ ClO U ∧ L.length = 2 * i2 ∧ ρ' = [some (.s ns), some (.d (iD i)), some (.o 0), some (pS z), some (.d (.list (ms.map mD))), some (.d (.list [.str w1, .str w2])), some (.o 1), some (.o 2), y8.map PV.d, y9.map PV.d, y10], ⟨[], y8, y9, none, rfl, rfl, rfl, Rs.nil, rfl, rfl, rfl⟩, fun _ _ _ _ => trivial, ?_, ?_⟩
      · rintro i2 x ρ' U hx ⟨L, y8, y9, y10, u0, u1, u2, hR, cl, hL, rfl⟩
        have hi2 : i2 < ms.length := by
          have := (List.getElem?_eq_some_iff.mp hx).1
          rw [List.length_map, List.length_map] at this
          exact this
        rw [List.getElem?_map, List.getElem?_map, Option.map_map, Option.map_eq_some_iff] at hx
        obtain ⟨m, hm0, rfl⟩ := hx
        have hm : MOk m := hmo m (List.mem_of_getElem? hm0)
        refine ag_name 8 sc_law.nd ?_
        refine as_cons ?_
        refine as_for PassesOwn.never rfl (ai_list ?_)
        repeat walk_at "ge"
        refine ⟨_, rfl, fun i3 ρ' U => ∃ (L : List Rdr) (y9 : Option PyData) (y10 : Option PV), U[0]? = some (hnd a4 s4) ∧ U[1]? = some (.lst ((L.map Rdr.n).map PV.o)) ∧ U[2]? = some (.lst ((L.map mkD).map PV.d)) ∧ Rs U L ∧ ClO U ∧ L.length = 2 * i2 + i3 ∧ ρ' = [some (.s ns), some (.d (iD i)), some (.o 0), some (pS z), some (.d (.list (ms.map mD))), some (.d (.list [.str w1, .str w2])), some (.o 1), some (.o 2), some (.d (mD m)), y9.map PV.d, y10], ⟨L, y9, y10, u0, u1, u2, hR, cl, hL, rfl⟩, fun _ _ _ _ => trivial, ?_, ?_⟩
        · rintro i3 x ρ' U hx ⟨L, y9, y10, u0, u1, u2, hR, cl, hL, rfl⟩
          have hi3 : i3 < 2 := (List.getElem?_eq_some_iff.mp hx).1
          obtain ⟨wd, rfl, hwd, hw3⟩ : ∃ wd : Str, x = pS wd ∧ WordOk wd ∧ wd.length ≤ 3 := by
            have := List.mem_of_getElem? hx
            simp only [List.map_cons, List.map_nil, List.mem_cons, List.not_mem_nil, or_false] at this
            rcases this with rfl | rfl
            · exact ⟨w1, rfl, wok1, by omega⟩
            · exact ⟨w2, rfl, wok2, by omega⟩
          have hU3 : 3 ≤ U.length := by have := (List.getElem?_eq_some_iff.mp u2).1; omega
          have ap : ∀ (B T U : Own), B ++ T ++ U = B ++ (T ++ U) := fun B T U => List.append_assoc _ _ _
          have ln : ∀ (B T : Own), (B ++ T).length = B.length + T.length := fun B T => List.length_append
          have ez : mkS (cds (⟨#[]⟩ : Str) ++ cds wd) = wd := str_ext (by rw [cds_mkS]; rfl)
          have bel : ∀ (m2 : Mach) (z2 : Str) (cs : List Nat), ClO (U ++ [RdI m2 z2 (U.length + 1), rws m2 cs]) := fun m2 z2 cs => cl_ext cl (fun x hx => by
            simp only [List.mem_cons, List.not_mem_nil, or_false] at hx
            rcases hx with rfl | rfl
            · show (true && (true && (decide (U.length + 1 < U.length + 2) && true))) = true
              rw [decide_eq_true (by omega)]; rfl
            · exact lst_below _)
          refine ag_name 9 sc_law.nd ?_
          refine as_cons (as_set 10 sc_law.nd (ae_mkX (Ξ := fun _ _ _ => False) E5 (hr.mono (by decide)) takes_none ?_))
          repeat walk_at "ge"
          refine ⟨U.length, .d (mD m), m, rfl, get_at0, isM_d, hm, cl_app cl rfl, rfl, ?_⟩
          rw [set_at0, ap, ln]
          show ASs _ _ [some (.s ns), some (.d (iD i)), some (.o 0), some (pS z), some (.d (.list (ms.map mD))), some (.d (.list [.str w1, .str w2])), some (.o 1), some (.o 2), some (.d (mD m)), some (pS wd), some (.o U.length)] (U ++ [RdI m ⟨#[]⟩ (U.length + 1), rws m []]) _
          refine as_cons (as_expr (ae_meth E6 (hr.mono (by decide)) ?_))
          repeat walk_at "ge"
          refine ⟨U.length, _, rfl, get_at0, rfl, ?_⟩
          repeat walk_at "ge"
          refine ⟨U.length, U.length + 1, m, ⟨#[]⟩, wd, rfl, get_at0, get_at 1, by omega, hm, hwd, by show 0 + wd.length ≤ 400; omega, bel _ _ _, ?_⟩
          rw [set_at0, set_at 1, ez]
          obtain ⟨V, hV⟩ : ∃ V : Own, V = U ++ [RdI m wd (U.length + 1), rws m (cds wd)] := ⟨_, rfl⟩
          show ASs _ _ _ (U ++ [RdI m wd (U.length + 1), rws m (cds wd)]) _
          rw [← hV]
          have appU : ∀ {j : Nat} {y : AO}, U[j]? = some y → V[j]? = some y := fun {j y} hj => by
            rw [hV, List.getElem?_append_left (List.getElem?_eq_some_iff.mp hj).1]; exact hj
          have lV : V.length = U.length + 2 := by rw [hV, List.length_append]; rfl
          have V1 := appU u1
          have V2 := appU u2
          have Vn : V[U.length]? = some (RdI m wd (U.length + 1)) := by rw [hV]; exact get_at0
          have Vq : V[U.length + 1]? = some (rws m (cds wd)) := by rw [hV]; exact get_at 1
          have clV : ClO V := by rw [hV]; exact bel _ _ _
          have RV : Rs V L := by rw [hV]; exact hR.app _
          refine as_cons (as_expr ?_)
          repeat walk_at "ge"
          refine ⟨ty_O V1, ?_⟩
          repeat walk_at "ge"
          refine m_append V1 (by rw [List.length_map, List.length_map]; omega) ?_
          refine as_cons (as_expr ?_)
          repeat walk_at "ge"
          have W2 : (V.set 1 (.lst ((L.map Rdr.n).map PV.o ++ [PV.o U.length])))[2]? = some (.lst ((L.map mkD).map PV.d)) := by rw [List.getElem?_set_ne (by decide)]; exact V2
          refine ⟨ty_O W2, ?_⟩
          repeat walk_at "ge"
          refine ae_tupD ?_
          repeat walk_at "ge"
          refine ⟨[mD m, .str wd], rfl, by show 2 ≤ 16000000; decide, ?_⟩
          repeat walk_at "ge"
          refine m_append W2 (by rw [List.length_map, List.length_map]; omega) ?_
          have e1 : (L.map Rdr.n).map PV.o ++ [PV.o U.length] = ((L ++ [Rdr.mk U.length (U.length + 1) m wd]).map Rdr.n).map PV.o := by rw [List.map_append, List.map_append]; rfl
          have e2 : (L.map mkD).map PV.d ++ [PV.d (.tuple [mD m, .str wd])] = ((L ++ [Rdr.mk U.length (U.length + 1) m wd]).map mkD).map PV.d := by rw [List.map_append, List.map_append]; rfl
          rw [e1, e2]
          have R1 := (RV.set (k := 1) (by decide) (.lst (((L ++ [Rdr.mk U.length (U.length + 1) m wd]).map Rdr.n).map PV.o))).set (k := 2) (by decide) (.lst (((L ++ [Rdr.mk U.length (U.length + 1) m wd]).map mkD).map PV.d))
          refine as_nil (.keep ⟨L ++ [⟨U.length, U.length + 1, m, wd⟩], some (.str wd), some (.o U.length), ?_, ?_, ?_, R1.add (x := ⟨U.length, U.length + 1, m, wd⟩) ?_ ?_ hm hwd hw3 (by show 3 ≤ U.length; omega) (by show 3 ≤ U.length + 1; omega), ?_, by rw [List.length_append, hL]; rfl, rfl⟩)
          · rw [List.getElem?_set_ne (by decide), List.getElem?_set_ne (by decide)]; exact appU u0
          · rw [List.getElem?_set_ne (by decide)]; exact List.getElem?_set_self (by omega)
          · exact List.getElem?_set_self (by rw [List.length_set]; omega)
          · show (List.set _ 2 _)[U.length]? = _
            rw [List.getElem?_set_ne (by omega), List.getElem?_set_ne (by omega)]; exact Vn
          · show (List.set _ 2 _)[U.length + 1]? = _
            rw [List.getElem?_set_ne (by omega), List.getElem?_set_ne (by omega)]; exact Vq
          · refine cl_set (cl_set clV (os_below fun n hn => ?_)) (lst_below _)
            obtain ⟨y, hy, rfl⟩ := List.mem_map.mp hn
            rcases List.mem_append.mp hy with hy | hy
            · have := (List.getElem?_eq_some_iff.mp (hR.ob y hy)).1
              omega
            · rw [List.mem_singleton.mp hy]
              show U.length < V.length
              omega
        · rintro ρ' U ⟨L, y9, y10, u0, u1, u2, hR, cl, hL, rfl⟩
          refine as_nil (.keep ⟨L, some (mD m), y9, y10, u0, u1, u2, hR, cl, ?_, rfl⟩)
          rw [hL]
          show 2 * i2 + 2 = _
          omega
      · rintro ρ' U ⟨L, y8, y9, y10, u0, u1, u2, hR, cl, hL, rfl⟩
        have hL10 : L.length = 10 := by
          rw [hL, List.length_map, List.length_map, hml]
        obtain ⟨x0, hx0⟩ : ∃ x, L[0]? = some x := ⟨_, List.getElem?_eq_getElem (by omega)⟩
        obtain ⟨m0', hm0'⟩ : ∃ x, ms[0]? = some x := ⟨_, List.getElem?_eq_getElem (by omega)⟩
        have hx0L := List.mem_of_getElem? hx0
        refine as_cons (as_if ?_)
        repeat walk_at "ge"
        refine ⟨1, 2, L, rfl, u1, u2, hR, by omega, cl, ?_⟩
        repeat walk_at "ge"
        refine ix_O u1 (a := .o x0.n) (atI_nat (j := 0) (by rw [List.getElem?_map, List.getElem?_map, hx0]; rfl)) ?_
        repeat walk_at "ge"
        refine ix_L (a := mD m0') (atI_nat (j := 0) (by rw [List.getElem?_map, hm0']; rfl)) ?_
        repeat walk_at "ge"
        refine ⟨x0.n, x0.q, x0.m, x0.z, mD m0', rfl, by simp [tyD], hR.ob _ hx0L, hR.mo _ hx0L, cl, ?_⟩
        repeat walk_at "ge"
        refine as_nil ?_
        refine as_cons (as_if ?_)
        repeat walk_at "ge"
        refine ⟨0, 1, 2, a4, s4, z, L, rfl, u0, ok4, by decide, by decide, by decide, by decide, by decide, u1, u2, hR, (fun e => by rw [e] at hL10; cases hL10), by omega, hz, cl, fun O' => ?_⟩
        repeat walk_at "ge"
        refine as_nil (as_nil ?_)
        refine .unset 2 (.unset 6 (.unset 7 (.unset 10 (.drop 0 (Nat.zero_le _) (by cases y8 <;> cases y9 <;> rfl) rfl (.keep ⟨rfl, some (iD i), some (.str z), some (.list (ms.map mD)), some (.list [.str w1, .str w2]), y8, y9, rfl⟩)))))
    · rintro ρ' O' ⟨rfl, y1, y3, y4, y5, y8, y9, rfl⟩
      refine as_cons (as_ret (ae_bl ?_))
      exact .keep (q _)
end
end K29
namespace K29
open PySem PySem.Spec L2 Al
open PyProof.Rows hiding St
theorem all_mk {l : PySem.W.OpenLaw} {w : World} {K : PySem.W.Frag} {h : Heap} {mg : Str → Option Value} {fa f1 f2 f3 f4 f5 f6 f7 f8 f9 f10 f11 f12 f13 f14 f15 f16 f17 f18 f19 f20 f21 f22 f23 f24 f25 f26 f27 f28 f29 f30 f31 f32 f33 f34 f35 f36 : Addr} (X : K.In h) (G : h.Ns mainGlobals mg) (hfa : mg "law" = some (.ref fa))
    {od1 an1 od2 an2 od3 an3 od4 an4 od5 an5 od6 an6 od7 an7 od8 an8 od9 an9 od10 an10 od11 an11 od12 an12 od13 an13 od14 an14 od15 an15 od16 an16 od17 an17 od18 an18 od19 an19 od20 an20 od21 an21 od22 an22 od23 an23 od24 an24 od25 an25 od26 an26 od27 an27 od28 an28 od29 an29 od30 an30 od31 an31 od32 an32 od33 an33 od34 an34 od35 an35 od36 an36 : Option Addr} {sl1 sl2 sl3 sl4 sl5 sl6 sl7 sl8 sl9 sl10 sl11 sl12 sl13 sl14 sl15 sl16 sl17 sl18 sl19 sl20 sl21 sl22 sl23 sl24 sl25 sl26 sl27 sl28 sl29 sl30 sl31 sl32 sl33 sl34 sl35 sl36 : Array (Option Value)} {oc1 kV1 dc1 pm1 cd1 ct1 oc2 kV2 dc2 pm2 cd2 ct2 oc3 kV3 dc3 pm3 cd3 ct3 oc4 kV4 dc4 pm4 cd4 ct4 oc5 kV5 dc5 pm5 cd5 ct5 oc6 kV6 dc6 pm6 cd6 ct6 oc7 kV7 dc7 pm7 cd7 ct7 oc8 kV8 dc8 pm8 cd8 ct8 oc9 kV9 dc9 pm9 cd9 ct9 oc10 kV10 dc10 pm10 cd10 ct10 oc11 kV11 dc11 pm11 cd11 ct11 oc12 kV12 dc12 pm12 cd12 ct12 oc13 kV13 dc13 pm13 cd13 ct13 oc14 kV14 dc14 pm14 cd14 ct14 oc15 kV15 dc15 pm15 cd15 ct15 oc16 kV16 dc16 pm16 cd16 ct16 oc17 kV17 dc17 pm17 cd17 ct17 oc18 kV18 dc18 pm18 cd18 ct18 oc19 kV19 dc19 pm19 cd19 ct19 oc20 kV20 dc20 pm20 cd20 ct20 oc21 kV21 dc21 pm21 cd21 ct21 oc22 kV22 dc22 pm22 cd22 ct22 oc23 kV23 dc23 pm23 cd23 ct23 oc24 kV24 dc24 pm24 cd24 ct24 oc25 kV25 dc25 pm25 cd25 ct25 oc26 kV26 dc26 pm26 cd26 ct26 oc27 kV27 dc27 pm27 cd27 ct27 oc28 kV28 dc28 pm28 cd28 ct28 oc29 kV29 dc29 pm29 cd29 ct29 oc30 kV30 dc30 pm30 cd30 ct30 oc31 kV31 dc31 pm31 cd31 ct31 oc32 kV32 dc32 pm32 cd32 ct32 oc33 kV33 dc33 pm33 cd33 ct33 oc34 kV34 dc34 pm34 cd34 ct34 oc35 kV35 dc35 pm35 cd35 ct35 oc36 kV36 dc36 pm36 cd36 ct36 : Value} {T29 : Addr} {tc29 : Value} {td29 : Option Addr} {tn29 : Nat} {ts29 : Array (Option Value)} {dq29 : Tok} {t1 t2 t3 t4 : Tok} {oC1 : Addr}
    (oa1 : PySem.W.nsIn K mainGlobals "Reader" = some (some (.ref oC1)))
    (opg1 : PySem.W.plainGet K oC1 Str.empty = true)
    (ohd1 : PySem.W.hasDictIn K oC1 = true)
    (opo1 : PySem.W.plainOver K oC1 = true)
    (osa1 : PySem.W.findIn K (.ref oC1) "__setattr__" = some (some (.builtin "object.__setattr__")))
    (omk1 : PySem.W.makesIn K oC1 = true)
    (okp1 : PySem.W.keepIn K (.ref oC1) = true)
    (ofl0_1 : PySem.W.findIn K (.ref oC1) "read_machine" = some none)
    (ofl1_1 : PySem.W.findIn K (.ref oC1) "word" = some none)
    (ofl2_1 : PySem.W.findIn K (.ref oC1) "vectors" = some none)
    (oec1 : PySem.W.isClsIn K oC1 = true)
    (oet1 : PySem.W.typeIn K (.ref oC1) = some (.type "type"))
    (oea1 : PySem.W.findIn K (.ref oC1) "__class__" = some (some (.builtin "object.__class__")))
    (oen1 : PySem.W.specialIn K (.builtin "object.__class__") "__get__" = some (some (.builtin "getset_descriptor.__get__")))
    (oek1 : PySem.W.takesIn K (.builtin "object.__class__") = some true)
    (oeo1 : PySem.W.mroIn K oC1 (.type "object") = some true)
    (oex1 : PySem.W.findIn K (.ref oC1) "__ne__" = some (some (.builtin "object.__ne__")))
    (oeNoneType_1 : PySem.W.mroIn K oC1 (.type "NoneType") = some false)
    (oebool_1 : PySem.W.mroIn K oC1 (.type "bool") = some false)
    (oeint_1 : PySem.W.mroIn K oC1 (.type "int") = some false)
    (oestr_1 : PySem.W.mroIn K oC1 (.type "str") = some false)
    (oelist_1 : PySem.W.mroIn K oC1 (.type "list") = some false)
    (oetuple_1 : PySem.W.mroIn K oC1 (.type "tuple") = some false)
    (a1 : PySem.W.nsIn K mainGlobals "is_sign" = some (some (.ref f1))) (l1 : K.lookup f1 = some ⟨oc1, od1, .func (PySem.W.fnOf "is_sign" "is_sign" (defArgs s_is_sign) (defBody s_is_sign) (defScope s_is_sign) .none kV1 dc1 pm1 an1 cd1 ct1), sl1⟩) (c1 : PySem.W.codeIn K cd1 "is_sign" = true) (k1 : PySem.W.keepIn K (.ref f1) = true)
    (a2 : PySem.W.nsIn K mainGlobals "is_whole" = some (some (.ref f2))) (l2 : K.lookup f2 = some ⟨oc2, od2, .func (PySem.W.fnOf "is_whole" "is_whole" (defArgs s_is_whole) (defBody s_is_whole) (defScope s_is_whole) .none kV2 dc2 pm2 an2 cd2 ct2), sl2⟩) (c2 : PySem.W.codeIn K cd2 "is_whole" = true) (k2 : PySem.W.keepIn K (.ref f2) = true)
    (a3 : PySem.W.nsIn K mainGlobals "is_within" = some (some (.ref f3))) (l3 : K.lookup f3 = some ⟨oc3, od3, .func (PySem.W.fnOf "is_within" "is_within" (defArgs s_is_within) (defBody s_is_within) (defScope s_is_within) .none kV3 dc3 pm3 an3 cd3 ct3), sl3⟩) (c3 : PySem.W.codeIn K cd3 "is_within" = true) (k3 : PySem.W.keepIn K (.ref f3) = true)
    (a4 : PySem.W.nsIn K mainGlobals "look_at_rooms" = some (some (.ref f4))) (l4 : K.lookup f4 = some ⟨oc4, od4, .func (PySem.W.fnOf "look_at_rooms" "look_at_rooms" (defArgs s_look_at_rooms) (defBody s_look_at_rooms) (defScope s_look_at_rooms) .none kV4 dc4 pm4 an4 cd4 ct4), sl4⟩) (c4 : PySem.W.codeIn K cd4 "look_at_rooms" = true) (k4 : PySem.W.keepIn K (.ref f4) = true)
    (a5 : PySem.W.nsIn K mainGlobals "is_step" = some (some (.ref f5))) (l5 : K.lookup f5 = some ⟨oc5, od5, .func (PySem.W.fnOf "is_step" "is_step" (defArgs s_is_step) (defBody s_is_step) (defScope s_is_step) .none kV5 dc5 pm5 an5 cd5 ct5), sl5⟩) (c5 : PySem.W.codeIn K cd5 "is_step" = true) (k5 : PySem.W.keepIn K (.ref f5) = true)
    (a6 : PySem.W.nsIn K mainGlobals "look_at_steps" = some (some (.ref f6))) (l6 : K.lookup f6 = some ⟨oc6, od6, .func (PySem.W.fnOf "look_at_steps" "look_at_steps" (defArgs s_look_at_steps) (defBody s_look_at_steps) (defScope s_look_at_steps) .none kV6 dc6 pm6 an6 cd6 ct6), sl6⟩) (c6 : PySem.W.codeIn K cd6 "look_at_steps" = true) (k6 : PySem.W.keepIn K (.ref f6) = true)
    (a7 : PySem.W.nsIn K mainGlobals "look_at" = some (some (.ref f7))) (l7 : K.lookup f7 = some ⟨oc7, od7, .func (PySem.W.fnOf "look_at" "look_at" (defArgs s_look_at) (defBody s_look_at) (defScope s_look_at) .none kV7 dc7 pm7 an7 cd7 ct7), sl7⟩) (c7 : PySem.W.codeIn K cd7 "look_at" = true) (k7 : PySem.W.keepIn K (.ref f7) = true)
    (a8 : PySem.W.nsIn K mainGlobals "copied" = some (some (.ref f8))) (l8 : K.lookup f8 = some ⟨oc8, od8, .func (PySem.W.fnOf "copied" "copied" (defArgs s_copied) (defBody s_copied) (defScope s_copied) .none kV8 dc8 pm8 an8 cd8 ct8), sl8⟩) (c8 : PySem.W.codeIn K cd8 "copied" = true) (k8 : PySem.W.keepIn K (.ref f8) = true)
    (a9 : PySem.W.nsIn K mainGlobals "look_at_word" = some (some (.ref f9))) (l9 : K.lookup f9 = some ⟨oc9, od9, .func (PySem.W.fnOf "look_at_word" "look_at_word" (defArgs s_look_at_word) (defBody s_look_at_word) (defScope s_look_at_word) .none kV9 dc9 pm9 an9 cd9 ct9), sl9⟩) (c9 : PySem.W.codeIn K cd9 "look_at_word" = true) (k9 : PySem.W.keepIn K (.ref f9) = true)
    (a10 : PySem.W.nsIn K mainGlobals "alone_at" = some (some (.ref f10))) (l10 : K.lookup f10 = some ⟨oc10, od10, .func (PySem.W.fnOf "alone_at" "alone_at" (defArgs s_alone_at) (defBody s_alone_at) (defScope s_alone_at) .none kV10 dc10 pm10 an10 cd10 ct10), sl10⟩) (c10 : PySem.W.codeIn K cd10 "alone_at" = true) (k10 : PySem.W.keepIn K (.ref f10) = true)
    (a11 : PySem.W.nsIn K mainGlobals "moved" = some (some (.ref f11))) (l11 : K.lookup f11 = some ⟨oc11, od11, .func (PySem.W.fnOf "moved" "moved" (defArgs s_moved) (defBody s_moved) (defScope s_moved) .none kV11 dc11 pm11 an11 cd11 ct11), sl11⟩) (c11 : PySem.W.codeIn K cd11 "moved" = true) (k11 : PySem.W.keepIn K (.ref f11) = true)
    (a12 : PySem.W.nsIn K mainGlobals "sum_at" = some (some (.ref f12))) (l12 : K.lookup f12 = some ⟨oc12, od12, .func (PySem.W.fnOf "sum_at" "sum_at" (defArgs s_sum_at) (defBody s_sum_at) (defScope s_sum_at) .none kV12 dc12 pm12 an12 cd12 ct12), sl12⟩) (c12 : PySem.W.codeIn K cd12 "sum_at" = true) (k12 : PySem.W.keepIn K (.ref f12) = true)
    (a13 : PySem.W.nsIn K mainGlobals "rooms_in_vector" = some (some (.ref f13))) (l13 : K.lookup f13 = some ⟨oc13, od13, .func (PySem.W.fnOf "rooms_in_vector" "rooms_in_vector" (defArgs s_rooms_in_vector) (defBody s_rooms_in_vector) (defScope s_rooms_in_vector) .none kV13 dc13 pm13 an13 cd13 ct13), sl13⟩) (c13 : PySem.W.codeIn K cd13 "rooms_in_vector" = true) (k13 : PySem.W.keepIn K (.ref f13) = true)
    (a14 : PySem.W.nsIn K mainGlobals "_law_hand" = some (some (.ref f14))) (l14 : K.lookup f14 = some ⟨oc14, od14, .func (PySem.W.fnOf "_law_hand" "_law_hand" (defArgs s__law_hand) (defBody s__law_hand) (defScope s__law_hand) .none kV14 dc14 pm14 an14 cd14 ct14), sl14⟩) (c14 : PySem.W.codeIn K cd14 "_law_hand" = true) (k14 : PySem.W.keepIn K (.ref f14) = true)
    (a15 : PySem.W.nsIn K mainGlobals "_law_draw" = some (some (.ref f15))) (l15 : K.lookup f15 = some ⟨oc15, od15, .func (PySem.W.fnOf "_law_draw" "_law_draw" (defArgs s__law_draw) (defBody s__law_draw) (defScope s__law_draw) .none kV15 dc15 pm15 an15 cd15 ct15), sl15⟩) (c15 : PySem.W.codeIn K cd15 "_law_draw" = true) (k15 : PySem.W.keepIn K (.ref f15) = true)
    (a16 : PySem.W.nsIn K mainGlobals "_law_rooms" = some (some (.ref f16))) (l16 : K.lookup f16 = some ⟨oc16, od16, .func (PySem.W.fnOf "_law_rooms" "_law_rooms" (defArgs s__law_rooms) (defBody s__law_rooms) (defScope s__law_rooms) .none kV16 dc16 pm16 an16 cd16 ct16), sl16⟩) (c16 : PySem.W.codeIn K cd16 "_law_rooms" = true) (k16 : PySem.W.keepIn K (.ref f16) = true)
    (a17 : PySem.W.nsIn K mainGlobals "_law_letters" = some (some (.ref f17))) (l17 : K.lookup f17 = some ⟨oc17, od17, .func (PySem.W.fnOf "_law_letters" "_law_letters" (defArgs s__law_letters) (defBody s__law_letters) (defScope s__law_letters) .none kV17 dc17 pm17 an17 cd17 ct17), sl17⟩) (c17 : PySem.W.codeIn K cd17 "_law_letters" = true) (k17 : PySem.W.keepIn K (.ref f17) = true)
    (a18 : PySem.W.nsIn K mainGlobals "_law_machine" = some (some (.ref f18))) (l18 : K.lookup f18 = some ⟨oc18, od18, .func (PySem.W.fnOf "_law_machine" "_law_machine" (defArgs s__law_machine) (defBody s__law_machine) (defScope s__law_machine) .none kV18 dc18 pm18 an18 cd18 ct18), sl18⟩) (c18 : PySem.W.codeIn K cd18 "_law_machine" = true) (k18 : PySem.W.keepIn K (.ref f18) = true)
    (a19 : PySem.W.nsIn K mainGlobals "_law_word" = some (some (.ref f19))) (l19 : K.lookup f19 = some ⟨oc19, od19, .func (PySem.W.fnOf "_law_word" "_law_word" (defArgs s__law_word) (defBody s__law_word) (defScope s__law_word) .none kV19 dc19 pm19 an19 cd19 ct19), sl19⟩) (c19 : PySem.W.codeIn K cd19 "_law_word" = true) (k19 : PySem.W.keepIn K (.ref f19) = true)
    (a20 : PySem.W.nsIn K mainGlobals "_law_machines" = some (some (.ref f20))) (l20 : K.lookup f20 = some ⟨oc20, od20, .func (PySem.W.fnOf "_law_machines" "_law_machines" (defArgs s__law_machines) (defBody s__law_machines) (defScope s__law_machines) .none kV20 dc20 pm20 an20 cd20 ct20), sl20⟩) (c20 : PySem.W.codeIn K cd20 "_law_machines" = true) (k20 : PySem.W.keepIn K (.ref f20) = true)
    (a21 : PySem.W.nsIn K mainGlobals "_law_all_alike" = some (some (.ref f21))) (l21 : K.lookup f21 = some ⟨oc21, od21, .func (PySem.W.fnOf "_law_all_alike" "_law_all_alike" (defArgs s__law_all_alike) (defBody s__law_all_alike) (defScope s__law_all_alike) .none kV21 dc21 pm21 an21 cd21 ct21), sl21⟩) (c21 : PySem.W.codeIn K cd21 "_law_all_alike" = true) (k21 : PySem.W.keepIn K (.ref f21) = true)
    (a22 : PySem.W.nsIn K mainGlobals "_law_unlike_others" = some (some (.ref f22))) (l22 : K.lookup f22 = some ⟨oc22, od22, .func (PySem.W.fnOf "_law_unlike_others" "_law_unlike_others" (defArgs s__law_unlike_others) (defBody s__law_unlike_others) (defScope s__law_unlike_others) .none kV22 dc22 pm22 an22 cd22 ct22), sl22⟩) (c22 : PySem.W.codeIn K cd22 "_law_unlike_others" = true) (k22 : PySem.W.keepIn K (.ref f22) = true)
    (a23 : PySem.W.nsIn K mainGlobals "_law_twins_right" = some (some (.ref f23))) (l23 : K.lookup f23 = some ⟨oc23, od23, .func (PySem.W.fnOf "_law_twins_right" "_law_twins_right" (defArgs s__law_twins_right) (defBody s__law_twins_right) (defScope s__law_twins_right) .none kV23 dc23 pm23 an23 cd23 ct23), sl23⟩) (c23 : PySem.W.codeIn K cd23 "_law_twins_right" = true) (k23 : PySem.W.keepIn K (.ref f23) = true)
    (a24 : PySem.W.nsIn K mainGlobals "law" = some (some (.ref f24))) (l24 : K.lookup f24 = some ⟨oc24, od24, .func (PySem.W.fnOf "law" "law" (defArgs s_law) (defBody s_law) (defScope s_law) .none kV24 dc24 pm24 an24 cd24 ct24), sl24⟩) (c24 : PySem.W.codeIn K cd24 "law" = true) (k24 : PySem.W.keepIn K (.ref f24) = true)
    (a25 : PySem.W.findIn K (.ref oC1) "__init__" = some (some (.ref f25))) (l25 : K.lookup f25 = some ⟨oc25, od25, .func (PySem.W.fnOf "__init__" "Reader.__init__" (defArgs s_Reader___init__) (defBody s_Reader___init__) (defScope s_Reader___init__) .none kV25 dc25 pm25 an25 cd25 ct25), sl25⟩) (c25 : PySem.W.codeIn K cd25 "Reader.__init__" = true) (k25 : PySem.W.keepIn K (.ref f25) = true)
    (i25 : PySem.W.isFn K (.ref f25) = true)
    (a26 : PySem.W.findIn K (.ref oC1) "go_on" = some (some (.ref f26))) (l26 : K.lookup f26 = some ⟨oc26, od26, .func (PySem.W.fnOf "go_on" "Reader.go_on" (defArgs s_Reader_go_on) (defBody s_Reader_go_on) (defScope s_Reader_go_on) .none kV26 dc26 pm26 an26 cd26 ct26), sl26⟩) (c26 : PySem.W.codeIn K cd26 "Reader.go_on" = true) (k26 : PySem.W.keepIn K (.ref f26) = true)
    (i26 : PySem.W.isFn K (.ref f26) = true)
    (a27 : PySem.W.findIn K (.ref oC1) "feed" = some (some (.ref f27))) (l27 : K.lookup f27 = some ⟨oc27, od27, .func (PySem.W.fnOf "feed" "Reader.feed" (defArgs s_Reader_feed) (defBody s_Reader_feed) (defScope s_Reader_feed) .none kV27 dc27 pm27 an27 cd27 ct27), sl27⟩) (c27 : PySem.W.codeIn K cd27 "Reader.feed" = true) (k27 : PySem.W.keepIn K (.ref f27) = true)
    (i27 : PySem.W.isFn K (.ref f27) = true)
    (a28 : PySem.W.findIn K (.ref oC1) "take" = some (some (.ref f28))) (l28 : K.lookup f28 = some ⟨oc28, od28, .func (PySem.W.fnOf "take" "Reader.take" (defArgs s_Reader_take) (defBody s_Reader_take) (defScope s_Reader_take) .none kV28 dc28 pm28 an28 cd28 ct28), sl28⟩) (c28 : PySem.W.codeIn K cd28 "Reader.take" = true) (k28 : PySem.W.keepIn K (.ref f28) = true)
    (i28 : PySem.W.isFn K (.ref f28) = true)
    (a29 : PySem.W.findIn K (.ref oC1) "back" = some (some (.ref f29))) (l29 : K.lookup f29 = some ⟨oc29, od29, .func (PySem.W.fnOf "back" "Reader.back" (defArgs s_Reader_back) (defBody s_Reader_back) (defScope s_Reader_back) (.ref T29) kV29 dc29 pm29 an29 cd29 ct29), sl29⟩) (c29 : PySem.W.codeIn K cd29 "Reader.back" = true) (k29 : PySem.W.keepIn K (.ref f29) = true)
    (i29 : PySem.W.isFn K (.ref f29) = true)
    (lt29 : K.lookup T29 = some ⟨tc29, td29, .seq #[.int 1 dq29] tn29, ts29⟩)
    (a30 : PySem.W.findIn K (.ref oC1) "text" = some (some (.ref f30))) (l30 : K.lookup f30 = some ⟨oc30, od30, .func (PySem.W.fnOf "text" "Reader.text" (defArgs s_Reader_text) (defBody s_Reader_text) (defScope s_Reader_text) .none kV30 dc30 pm30 an30 cd30 ct30), sl30⟩) (c30 : PySem.W.codeIn K cd30 "Reader.text" = true) (k30 : PySem.W.keepIn K (.ref f30) = true)
    (i30 : PySem.W.isFn K (.ref f30) = true)
    (a31 : PySem.W.findIn K (.ref oC1) "reached" = some (some (.ref f31))) (l31 : K.lookup f31 = some ⟨oc31, od31, .func (PySem.W.fnOf "reached" "Reader.reached" (defArgs s_Reader_reached) (defBody s_Reader_reached) (defScope s_Reader_reached) .none kV31 dc31 pm31 an31 cd31 ct31), sl31⟩) (c31 : PySem.W.codeIn K cd31 "Reader.reached" = true) (k31 : PySem.W.keepIn K (.ref f31) = true)
    (i31 : PySem.W.isFn K (.ref f31) = true)
    (a32 : PySem.W.findIn K (.ref oC1) "counts" = some (some (.ref f32))) (l32 : K.lookup f32 = some ⟨oc32, od32, .func (PySem.W.fnOf "counts" "Reader.counts" (defArgs s_Reader_counts) (defBody s_Reader_counts) (defScope s_Reader_counts) .none kV32 dc32 pm32 an32 cd32 ct32), sl32⟩) (c32 : PySem.W.codeIn K cd32 "Reader.counts" = true) (k32 : PySem.W.keepIn K (.ref f32) = true)
    (i32 : PySem.W.isFn K (.ref f32) = true)
    (a33 : PySem.W.findIn K (.ref oC1) "ways" = some (some (.ref f33))) (l33 : K.lookup f33 = some ⟨oc33, od33, .func (PySem.W.fnOf "ways" "Reader.ways" (defArgs s_Reader_ways) (defBody s_Reader_ways) (defScope s_Reader_ways) .none kV33 dc33 pm33 an33 cd33 ct33), sl33⟩) (c33 : PySem.W.codeIn K cd33 "Reader.ways" = true) (k33 : PySem.W.keepIn K (.ref f33) = true)
    (i33 : PySem.W.isFn K (.ref f33) = true)
    (a34 : PySem.W.findIn K (.ref oC1) "twin" = some (some (.ref f34))) (l34 : K.lookup f34 = some ⟨oc34, od34, .func (PySem.W.fnOf "twin" "Reader.twin" (defArgs s_Reader_twin) (defBody s_Reader_twin) (defScope s_Reader_twin) .none kV34 dc34 pm34 an34 cd34 ct34), sl34⟩) (c34 : PySem.W.codeIn K cd34 "Reader.twin" = true) (k34 : PySem.W.keepIn K (.ref f34) = true)
    (i34 : PySem.W.isFn K (.ref f34) = true)
    (a35 : PySem.W.findIn K (.ref oC1) "__len__" = some (some (.ref f35))) (l35 : K.lookup f35 = some ⟨oc35, od35, .func (PySem.W.fnOf "__len__" "Reader.__len__" (defArgs s_Reader___len__) (defBody s_Reader___len__) (defScope s_Reader___len__) .none kV35 dc35 pm35 an35 cd35 ct35), sl35⟩) (c35 : PySem.W.codeIn K cd35 "Reader.__len__" = true) (k35 : PySem.W.keepIn K (.ref f35) = true)
    (i35 : PySem.W.isFn K (.ref f35) = true)
    (a36 : PySem.W.findIn K (.ref oC1) "__eq__" = some (some (.ref f36))) (l36 : K.lookup f36 = some ⟨oc36, od36, .func (PySem.W.fnOf "__eq__" "Reader.__eq__" (defArgs s_Reader___eq__) (defBody s_Reader___eq__) (defScope s_Reader___eq__) .none kV36 dc36 pm36 an36 cd36 ct36), sl36⟩) (c36 : PySem.W.codeIn K cd36 "Reader.__eq__" = true) (k36 : PySem.W.keepIn K (.ref f36) = true)
    (i36 : PySem.W.isFn K (.ref f36) = true)
    (z1 : PySem.W.nsIn K mainGlobals "bool" = some none)
    (z2 : PySem.W.nsIn K mainGlobals "enumerate" = some none)
    (z3 : PySem.W.nsIn K mainGlobals "int" = some none)
    (z4 : PySem.W.nsIn K mainGlobals "isinstance" = some none)
    (z5 : PySem.W.nsIn K mainGlobals "len" = some none)
    (z6 : PySem.W.nsIn K mainGlobals "list" = some none)
    (z7 : PySem.W.nsIn K mainGlobals "max" = some none)
    (z8 : PySem.W.nsIn K mainGlobals "min" = some none)
    (z9 : PySem.W.nsIn K mainGlobals "range" = some none)
    (z10 : PySem.W.nsIn K mainGlobals "str" = some none)
    (z11 : PySem.W.nsIn K mainGlobals "sum" = some none)
    (z12 : PySem.W.nsIn K mainGlobals "tuple" = some none)
    (y1 : PySem.W.nsIn K mainGlobals "LETTERS" = some (some (.str "abcdefghijklmnopqrstuvwxyz" t1)))
    (y2 : PySem.W.nsIn K mainGlobals "MOST_ROOMS" = some (some (.int 12 t2)))
    (y3 : PySem.W.nsIn K mainGlobals "MOST_STEPS" = some (some (.int 200 t3)))
    (y4 : PySem.W.nsIn K mainGlobals "MOST_WORD" = some (some (.int 400 t4)))
    : ∃ fd : FuncData, (∀ (s : Shared) (v : Value), BindsTo s fd ⟨[v], []⟩ [("_law_script", v)]) ∧ ∀ base : Heap, K.In base → base.Ns mainGlobals mg → Fn ⟨l.prog, w, K, mg, base⟩ 10 fa fd ["_law_script"] (up rLaw) := by
  have e := hfa.symm.trans (PySem.W.mg_of X G a24)
  cases e
  have T : Txt mg := ⟨PySem.W.mg_none_of X G z1, PySem.W.mg_none_of X G z2, PySem.W.mg_none_of X G z3, PySem.W.mg_none_of X G z4, PySem.W.mg_none_of X G z5, PySem.W.mg_none_of X G z6, PySem.W.mg_none_of X G z7, PySem.W.mg_none_of X G z8, PySem.W.mg_none_of X G z9, PySem.W.mg_none_of X G z10, PySem.W.mg_none_of X G z11, PySem.W.mg_none_of X G z12, ⟨t1, PySem.W.mg_of X G y1⟩, ⟨t2, PySem.W.mg_of X G y2⟩, ⟨t3, PySem.W.mg_of X G y3⟩, ⟨t4, PySem.W.mg_of X G y4⟩⟩
  refine ⟨PySem.W.fnOf "law" "law" (defArgs s_law) (defBody s_law) (defScope s_law) .none kV24 dc24 pm24 an24 cd24 ct24, fun s v => .of_eq rfl, fun base _ _ => ?_⟩
  have CL1 : Cls K oC1 := ⟨opg1, ohd1, opo1, osa1⟩
  have XS : Xs ⟨l.prog, w, K, mg, base⟩ := ⟨(fun C h => by have e := h.symm.trans (PySem.W.mg_of X G oa1); cases e; exact CL1), (fun C h => by have e := h.symm.trans (PySem.W.mg_of X G oa1); cases e; exact ofl0_1), (fun C h => by have e := h.symm.trans (PySem.W.mg_of X G oa1); cases e; exact ofl1_1), (fun C h => by have e := h.symm.trans (PySem.W.mg_of X G oa1); cases e; exact ofl2_1), ⟨oC1, PySem.W.mg_of X G oa1, ⟨oec1, oet1, CL1, oea1, oen1, oek1, oeo1, oex1, oeNoneType_1, oebool_1, oeint_1, oestr_1, oelist_1, oetuple_1⟩⟩⟩
  have F1 := fun_mk (st := s_is_sign) l1 c1 k1
  have E_is_sign : D_is_sign ⟨l.prog, w, K, mg, base⟩ := defA (ok_is_sign F1 T XS) (PySem.W.mg_of X G a1) k1 (F1.binds (ps := P_is_sign) fun _ _ _ _ _ _ us hl => match us, hl with | [_], _ => rfl)
  have F2 := fun_mk (st := s_is_whole) l2 c2 k2
  have E_is_whole : D_is_whole ⟨l.prog, w, K, mg, base⟩ := defA (ok_is_whole F2 T XS) (PySem.W.mg_of X G a2) k2 (F2.binds (ps := P_is_whole) fun _ _ _ _ _ _ us hl => match us, hl with | [_], _ => rfl)
  have F3 := fun_mk (st := s_is_within) l3 c3 k3
  have E_is_within : D_is_within ⟨l.prog, w, K, mg, base⟩ := defA (ok_is_within F3 T XS E_is_whole) (PySem.W.mg_of X G a3) k3 (F3.binds (ps := P_is_within) fun _ _ _ _ _ _ us hl => match us, hl with | [_, _, _], _ => rfl)
  have F4 := fun_mk (st := s_look_at_rooms) l4 c4 k4
  have E_look_at_rooms : D_look_at_rooms ⟨l.prog, w, K, mg, base⟩ := defA (ok_look_at_rooms F4 T XS E_is_within) (PySem.W.mg_of X G a4) k4 (F4.binds (ps := P_look_at_rooms) fun _ _ _ _ _ _ us hl => match us, hl with | [_, _, _], _ => rfl)
  have F5 := fun_mk (st := s_is_step) l5 c5 k5
  have E_is_step : D_is_step ⟨l.prog, w, K, mg, base⟩ := defA (ok_is_step F5 T XS E_is_sign E_is_within) (PySem.W.mg_of X G a5) k5 (F5.binds (ps := P_is_step) fun _ _ _ _ _ _ us hl => match us, hl with | [_, _], _ => rfl)
  have F6 := fun_mk (st := s_look_at_steps) l6 c6 k6
  have E_look_at_steps : D_look_at_steps ⟨l.prog, w, K, mg, base⟩ := defA (ok_look_at_steps F6 T XS E_is_step) (PySem.W.mg_of X G a6) k6 (F6.binds (ps := P_look_at_steps) fun _ _ _ _ _ _ us hl => match us, hl with | [_, _], _ => rfl)
  have F7 := fun_mk (st := s_look_at) l7 c7 k7
  have E_look_at : D_look_at ⟨l.prog, w, K, mg, base⟩ := defA (ok_look_at F7 T XS E_is_within E_look_at_rooms E_look_at_steps) (PySem.W.mg_of X G a7) k7 (F7.binds (ps := P_look_at) fun _ _ _ _ _ _ us hl => match us, hl with | [_], _ => rfl)
  have F8 := fun_mk (st := s_copied) l8 c8 k8
  have E_copied : D_copied ⟨l.prog, w, K, mg, base⟩ := defA (ok_copied F8 T XS) (PySem.W.mg_of X G a8) k8 (F8.binds (ps := P_copied) fun _ _ _ _ _ _ us hl => match us, hl with | [_], _ => rfl)
  have F9 := fun_mk (st := s_look_at_word) l9 c9 k9
  have E_look_at_word : D_look_at_word ⟨l.prog, w, K, mg, base⟩ := defA (ok_look_at_word F9 T XS E_is_sign) (PySem.W.mg_of X G a9) k9 (F9.binds (ps := P_look_at_word) fun _ _ _ _ _ _ us hl => match us, hl with | [_], _ => rfl)
  have F10 := fun_mk (st := s_alone_at) l10 c10 k10
  have E_alone_at : D_alone_at ⟨l.prog, w, K, mg, base⟩ := defA (ok_alone_at F10 T XS) (PySem.W.mg_of X G a10) k10 (F10.binds (ps := P_alone_at) fun _ _ _ _ _ _ us hl => match us, hl with | [_, _], _ => rfl)
  have F11 := fun_mk (st := s_moved) l11 c11 k11
  have E_moved : D_moved ⟨l.prog, w, K, mg, base⟩ := defA (ok_moved F11 T XS) (PySem.W.mg_of X G a11) k11 (F11.binds (ps := P_moved) fun _ _ _ _ _ _ us hl => match us, hl with | [_, _, _], _ => rfl)
  have F12 := fun_mk (st := s_sum_at) l12 c12 k12
  have E_sum_at : D_sum_at ⟨l.prog, w, K, mg, base⟩ := defA (ok_sum_at F12 T XS) (PySem.W.mg_of X G a12) k12 (F12.binds (ps := P_sum_at) fun _ _ _ _ _ _ us hl => match us, hl with | [_, _], _ => rfl)
  have F13 := fun_mk (st := s_rooms_in_vector) l13 c13 k13
  have E_rooms_in_vector : D_rooms_in_vector ⟨l.prog, w, K, mg, base⟩ := defA (ok_rooms_in_vector F13 T XS) (PySem.W.mg_of X G a13) k13 (F13.binds (ps := P_rooms_in_vector) fun _ _ _ _ _ _ us hl => match us, hl with | [_], _ => rfl)
  have F14 := fun_mk (st := s__law_hand) l14 c14 k14
  have E__law_hand : D__law_hand ⟨l.prog, w, K, mg, base⟩ := defA (ok__law_hand F14 T XS) (PySem.W.mg_of X G a14) k14 (F14.binds (ps := P__law_hand) fun _ _ _ _ _ _ us hl => match us, hl with | [_, _], _ => rfl)
  have F15 := fun_mk (st := s__law_draw) l15 c15 k15
  have E__law_draw : D__law_draw ⟨l.prog, w, K, mg, base⟩ := defA (ok__law_draw F15 T XS) (PySem.W.mg_of X G a15) k15 (F15.binds (ps := P__law_draw) fun _ _ _ _ _ _ us hl => match us, hl with | [_, _], _ => rfl)
  have F16 := fun_mk (st := s__law_rooms) l16 c16 k16
  have E__law_rooms : D__law_rooms ⟨l.prog, w, K, mg, base⟩ := defA (ok__law_rooms F16 T XS E__law_draw) (PySem.W.mg_of X G a16) k16 (F16.binds (ps := P__law_rooms) fun _ _ _ _ _ _ us hl => match us, hl with | [_, _], _ => rfl)
  have F17 := fun_mk (st := s__law_letters) l17 c17 k17
  have E__law_letters : D__law_letters ⟨l.prog, w, K, mg, base⟩ := defA (ok__law_letters F17 T XS E__law_draw) (PySem.W.mg_of X G a17) k17 (F17.binds (ps := P__law_letters) fun _ _ _ _ _ _ us hl => match us, hl with | [_], _ => rfl)
  have F18 := fun_mk (st := s__law_machine) l18 c18 k18
  have E__law_machine : D__law_machine ⟨l.prog, w, K, mg, base⟩ := defA (ok__law_machine F18 T XS E__law_draw E__law_rooms) (PySem.W.mg_of X G a18) k18 (F18.binds (ps := P__law_machine) fun _ _ _ _ _ _ us hl => match us, hl with | [_, _, _, _], _ => rfl)
  have F19 := fun_mk (st := s__law_word) l19 c19 k19
  have E__law_word : D__law_word ⟨l.prog, w, K, mg, base⟩ := defA (ok__law_word F19 T XS E__law_draw) (PySem.W.mg_of X G a19) k19 (F19.binds (ps := P__law_word) fun _ _ _ _ _ _ us hl => match us, hl with | [_, _, _], _ => rfl)
  have F20 := fun_mk (st := s__law_machines) l20 c20 k20
  have E__law_machines : D__law_machines ⟨l.prog, w, K, mg, base⟩ := defA (ok__law_machines F20 T XS E__law_machine E__law_draw) (PySem.W.mg_of X G a20) k20 (F20.binds (ps := P__law_machines) fun _ _ _ _ _ _ us hl => match us, hl with | [_, _], _ => rfl)
  have F25 := fun_mk (st := s_Reader___init__) l25 c25 k25
  have E_new_Reader : D_new_Reader ⟨l.prog, w, K, mg, base⟩ := ⟨oC1, f25, _, [], [], PySem.W.mg_of X G oa1, ⟨omk1, a25, i25, okp1⟩, ok_Reader___init__ F25 T XS E_look_at E_copied E_alone_at, (F25.binds (ps := P_Reader___init__) fun _ _ _ _ _ _ us hl => match us, hl with | [_, _], _ => rfl), .nil, fun _ _ _ => .nil⟩
  have F26 := fun_mk (st := s_Reader_go_on) l26 c26 k26
  have E_Reader_go_on : D_Reader_go_on ⟨l.prog, w, K, mg, base⟩ := ⟨oC1, f26, _, [], [], PySem.W.mg_of X G oa1, CL1, ⟨a26, i26, k26⟩, ok_Reader_go_on F26 T XS E_moved, (F26.binds (ps := P_Reader_go_on) fun _ _ _ _ _ _ us hl => match us, hl with | [_, _], _ => rfl), .nil, fun _ _ _ => .nil⟩
  have F27 := fun_mk (st := s_Reader_feed) l27 c27 k27
  have E_Reader_feed : D_Reader_feed ⟨l.prog, w, K, mg, base⟩ := ⟨oC1, f27, _, [], [], PySem.W.mg_of X G oa1, CL1, ⟨a27, i27, k27⟩, ok_Reader_feed F27 T XS E_is_sign E_Reader_go_on, (F27.binds (ps := P_Reader_feed) fun _ _ _ _ _ _ us hl => match us, hl with | [_, _], _ => rfl), .nil, fun _ _ _ => .nil⟩
  have F28 := fun_mk (st := s_Reader_take) l28 c28 k28
  have E_Reader_take : D_Reader_take ⟨l.prog, w, K, mg, base⟩ := ⟨oC1, f28, _, [], [], PySem.W.mg_of X G oa1, CL1, ⟨a28, i28, k28⟩, ok_Reader_take F28 T XS E_look_at_word E_Reader_go_on, (F28.binds (ps := P_Reader_take) fun _ _ _ _ _ _ us hl => match us, hl with | [_, _], _ => rfl), .nil, fun _ _ _ => .nil⟩
  have F29 : FunD K "back" "Reader.back" (defArgs s_Reader_back) (defBody s_Reader_back) (defScope s_Reader_back) [.int 1] [] f29 _ := ⟨⟨oc29, od29, .ref T29, kV29, dc29, pm29, an29, cd29, ct29, sl29, rfl, l29, c29, .inr ⟨by simp, T29, _, [.int 1 dq29], _, rfl, lt29, rfl, .cons ⟨dq29, rfl⟩ .nil⟩, .inl rfl⟩, k29⟩
  have G29 := ok_Reader_back (P := l.prog) (w := w) (base := base) F29 T XS E_is_whole
  have E_Reader_back0 : D_Reader_back0 ⟨l.prog, w, K, mg, base⟩ := by
    obtain ⟨ds, h1, h2⟩ := F29.binds1 (ps := P_Reader_back) 1 0 (by simp) rfl (fun T kV doc pm an cdv ct us its hu hi => match us, its, hu, hi with | [_], [_], _, _ => ⟨_, rfl, rfl⟩)
    exact ⟨oC1, f29, _, ds, [.int 1], PySem.W.mg_of X G oa1, CL1, ⟨a29, i29, k29⟩, G29, h2, h1, fun _ _ _ => .cons (show RPV _ _ _ (pI 1) (V.int 1) from Dq.int _) .nil⟩
  have E_Reader_backP : D_Reader_backP ⟨l.prog, w, K, mg, base⟩ := by
    obtain ⟨ds, h1, h2⟩ := F29.binds1 (ps := P_Reader_back) 2 1 (by simp) rfl (fun T kV doc pm an cdv ct us its hu hi => match us, its, hu, hi with | [_, _], [_], _, _ => ⟨_, rfl, rfl⟩)
    exact ⟨oC1, f29, _, ds, [], PySem.W.mg_of X G oa1, CL1, ⟨a29, i29, k29⟩, G29, h2, h1, fun _ _ _ => .nil⟩
  have F30 := fun_mk (st := s_Reader_text) l30 c30 k30
  have E_Reader_text : D_Reader_text ⟨l.prog, w, K, mg, base⟩ := ⟨oC1, f30, _, [], [], PySem.W.mg_of X G oa1, CL1, ⟨a30, i30, k30⟩, ok_Reader_text F30 T XS, (F30.binds (ps := P_Reader_text) fun _ _ _ _ _ _ us hl => match us, hl with | [_], _ => rfl), .nil, fun _ _ _ => .nil⟩
  have F31 := fun_mk (st := s_Reader_reached) l31 c31 k31
  have E_Reader_reached : D_Reader_reached ⟨l.prog, w, K, mg, base⟩ := ⟨oC1, f31, _, [], [], PySem.W.mg_of X G oa1, CL1, ⟨a31, i31, k31⟩, ok_Reader_reached F31 T XS E_rooms_in_vector, (F31.binds (ps := P_Reader_reached) fun _ _ _ _ _ _ us hl => match us, hl with | [_], _ => rfl), .nil, fun _ _ _ => .nil⟩
  have F32 := fun_mk (st := s_Reader_counts) l32 c32 k32
  have E_Reader_counts : D_Reader_counts ⟨l.prog, w, K, mg, base⟩ := ⟨oC1, f32, _, [], [], PySem.W.mg_of X G oa1, CL1, ⟨a32, i32, k32⟩, ok_Reader_counts F32 T XS, (F32.binds (ps := P_Reader_counts) fun _ _ _ _ _ _ us hl => match us, hl with | [_], _ => rfl), .nil, fun _ _ _ => .nil⟩
  have F33 := fun_mk (st := s_Reader_ways) l33 c33 k33
  have E_Reader_ways : D_Reader_ways ⟨l.prog, w, K, mg, base⟩ := ⟨oC1, f33, _, [], [], PySem.W.mg_of X G oa1, CL1, ⟨a33, i33, k33⟩, ok_Reader_ways F33 T XS E_sum_at, (F33.binds (ps := P_Reader_ways) fun _ _ _ _ _ _ us hl => match us, hl with | [_], _ => rfl), .nil, fun _ _ _ => .nil⟩
  have F34 := fun_mk (st := s_Reader_twin) l34 c34 k34
  have E_Reader_twin : D_Reader_twin ⟨l.prog, w, K, mg, base⟩ := ⟨oC1, f34, _, [], [], PySem.W.mg_of X G oa1, CL1, ⟨a34, i34, k34⟩, ok_Reader_twin F34 T XS E_new_Reader E_Reader_take, (F34.binds (ps := P_Reader_twin) fun _ _ _ _ _ _ us hl => match us, hl with | [_], _ => rfl), .nil, fun _ _ _ => .nil⟩
  have F35 := fun_mk (st := s_Reader___len__) l35 c35 k35
  have E_Reader___len__ : D_Reader___len__ ⟨l.prog, w, K, mg, base⟩ := ⟨oC1, f35, _, [], [], PySem.W.mg_of X G oa1, CL1, ⟨a35, i35, k35⟩, ok_Reader___len__ F35 T XS, (F35.binds (ps := P_Reader___len__) fun _ _ _ _ _ _ us hl => match us, hl with | [_], _ => rfl), .nil, fun _ _ _ => .nil⟩
  have F36 := fun_mk (st := s_Reader___eq__) l36 c36 k36
  have E_Reader___eq__ : D_Reader___eq__ ⟨l.prog, w, K, mg, base⟩ := ⟨oC1, f36, _, [], [], PySem.W.mg_of X G oa1, CL1, ⟨a36, i36, k36⟩, ok_Reader___eq__ F36 T XS, (F36.binds (ps := P_Reader___eq__) fun _ _ _ _ _ _ us hl => match us, hl with | [_, _], _ => rfl), .nil, fun _ _ _ => .nil⟩
  have F21 := fun_mk (st := s__law_all_alike) l21 c21 k21
  have E__law_all_alike : D__law_all_alike ⟨l.prog, w, K, mg, base⟩ := defA (ok__law_all_alike F21 T XS E_Reader___eq__) (PySem.W.mg_of X G a21) k21 (F21.binds (ps := P__law_all_alike) fun _ _ _ _ _ _ us hl => match us, hl with | [_, _], _ => rfl)
  have F22 := fun_mk (st := s__law_unlike_others) l22 c22 k22
  have E__law_unlike_others : D__law_unlike_others ⟨l.prog, w, K, mg, base⟩ := defA (ok__law_unlike_others F22 T XS E_Reader___eq__) (PySem.W.mg_of X G a22) k22 (F22.binds (ps := P__law_unlike_others) fun _ _ _ _ _ _ us hl => match us, hl with | [_, _], _ => rfl)
  have F23 := fun_mk (st := s__law_twins_right) l23 c23 k23
  have E__law_twins_right : D__law_twins_right ⟨l.prog, w, K, mg, base⟩ := defA (ok__law_twins_right F23 T XS E__law_draw E__law_all_alike E_Reader_counts E_Reader_ways E_Reader_reached E_Reader_twin E_Reader_feed E_Reader_text E_Reader_back0 E_Reader_backP E_Reader___len__ E_Reader___eq__) (PySem.W.mg_of X G a23) k23 (F23.binds (ps := P__law_twins_right) fun _ _ _ _ _ _ us hl => match us, hl with | [_, _, _, _], _ => rfl)
  have F24 := fun_mk (st := s_law) l24 c24 k24
  exact ok_law F24 T XS E__law_hand E__law_letters E__law_machines E__law_word E_new_Reader E_Reader_take E__law_all_alike E__law_unlike_others E__law_twins_right
end K29
open PySem PySem.W PyProof.Rows
set_option maxHeartbeats 0 in
theorem PySem.Challenge.cw_triesgrow_k29_readers_alike_and_twins_holds : PySem.Challenge.rw_triesgrow_k29_readers_alike_and_twins.Holds := by
  w_on; o_law; k_head; (case hw => w_witness2)
  k_fill
  refine Al.walk_ofA (l := PySem.Challenge.rw_triesgrow_k29_readers_alike_and_twins) (n := 63) (k := 10) (x := "_law_script") (R := Al.up Al.rLaw) rfl (by decide) rfl ⟨rfl, by decide, by decide⟩ (fun w h Y => PySem.W.kIn_of Y) ?F (fun K mg H a ns hl hS => Al.law_sp K mg H a ns hl hS)
  case F =>
    intro w mg fa h KX G hmg
    refine' K29.all_mk KX G hmg ?oa1 ?opg1 ?ohd1 ?opo1 ?osa1 ?omk1 ?okp1 ?ofl0_1 ?ofl1_1 ?ofl2_1 ?oec1 ?oet1 ?oea1 ?oen1 ?oek1 ?oeo1 ?oex1 ?oeNoneType_1 ?oebool_1 ?oeint_1 ?oestr_1 ?oelist_1 ?oetuple_1 ?a1 ?l1 ?c1 ?k1 ?a2 ?l2 ?c2 ?k2 ?a3 ?l3 ?c3 ?k3 ?a4 ?l4 ?c4 ?k4 ?a5 ?l5 ?c5 ?k5 ?a6 ?l6 ?c6 ?k6 ?a7 ?l7 ?c7 ?k7 ?a8 ?l8 ?c8 ?k8 ?a9 ?l9 ?c9 ?k9 ?a10 ?l10 ?c10 ?k10 ?a11 ?l11 ?c11 ?k11 ?a12 ?l12 ?c12 ?k12 ?a13 ?l13 ?c13 ?k13 ?a14 ?l14 ?c14 ?k14 ?a15 ?l15 ?c15 ?k15 ?a16 ?l16 ?c16 ?k16 ?a17 ?l17 ?c17 ?k17 ?a18 ?l18 ?c18 ?k18 ?a19 ?l19 ?c19 ?k19 ?a20 ?l20 ?c20 ?k20 ?a21 ?l21 ?c21 ?k21 ?a22 ?l22 ?c22 ?k22 ?a23 ?l23 ?c23 ?k23 ?a24 ?l24 ?c24 ?k24 ?a25 ?l25 ?c25 ?k25 ?i25 ?a26 ?l26 ?c26 ?k26 ?i26 ?a27 ?l27 ?c27 ?k27 ?i27 ?a28 ?l28 ?c28 ?k28 ?i28 ?a29 ?l29 ?c29 ?k29 ?i29 ?lt29 ?a30 ?l30 ?c30 ?k30 ?i30 ?a31 ?l31 ?c31 ?k31 ?i31 ?a32 ?l32 ?c32 ?k32 ?i32 ?a33 ?l33 ?c33 ?k33 ?i33 ?a34 ?l34 ?c34 ?k34 ?i34 ?a35 ?l35 ?c35 ?k35 ?i35 ?a36 ?l36 ?c36 ?k36 ?i36 ?z1 ?z2 ?z3 ?z4 ?z5 ?z6 ?z7 ?z8 ?z9 ?z10 ?z11 ?z12 ?y1 ?y2 ?y3 ?y4
    (case oa1 => k_is)
    (case opg1 => k_is)
    (case ohd1 => k_is)
    (case opo1 => k_is)
    (case osa1 => k_is)
    (case omk1 => k_is)
    (case okp1 => k_is)
    (case ofl0_1 => k_is)
    (case ofl1_1 => k_is)
    (case ofl2_1 => k_is)
    (case oec1 => k_is)
    (case oet1 => k_is)
    (case oea1 => k_is)
    (case oen1 => k_is)
    (case oek1 => k_is)
    (case oeo1 => k_is)
    (case oex1 => k_is)
    (case oeNoneType_1 => k_is)
    (case oebool_1 => k_is)
    (case oeint_1 => k_is)
    (case oestr_1 => k_is)
    (case oelist_1 => k_is)
    (case oetuple_1 => k_is)
    (case a1 => k_is)
    (case l1 => k_is)
    (case c1 => k_is)
    (case k1 => k_is)
    (case a2 => k_is)
    (case l2 => k_is)
    (case c2 => k_is)
    (case k2 => k_is)
    (case a3 => k_is)
    (case l3 => k_is)
    (case c3 => k_is)
    (case k3 => k_is)
    (case a4 => k_is)
    (case l4 => k_is)
    (case c4 => k_is)
    (case k4 => k_is)
    (case a5 => k_is)
    (case l5 => k_is)
    (case c5 => k_is)
    (case k5 => k_is)
    (case a6 => k_is)
    (case l6 => k_is)
    (case c6 => k_is)
    (case k6 => k_is)
    (case a7 => k_is)
    (case l7 => k_is)
    (case c7 => k_is)
    (case k7 => k_is)
    (case a8 => k_is)
    (case l8 => k_is)
    (case c8 => k_is)
    (case k8 => k_is)
    (case a9 => k_is)
    (case l9 => k_is)
    (case c9 => k_is)
    (case k9 => k_is)
    (case a10 => k_is)
    (case l10 => k_is)
    (case c10 => k_is)
    (case k10 => k_is)
    (case a11 => k_is)
    (case l11 => k_is)
    (case c11 => k_is)
    (case k11 => k_is)
    (case a12 => k_is)
    (case l12 => k_is)
    (case c12 => k_is)
    (case k12 => k_is)
    (case a13 => k_is)
    (case l13 => k_is)
    (case c13 => k_is)
    (case k13 => k_is)
    (case a14 => k_is)
    (case l14 => k_is)
    (case c14 => k_is)
    (case k14 => k_is)
    (case a15 => k_is)
    (case l15 => k_is)
    (case c15 => k_is)
    (case k15 => k_is)
    (case a16 => k_is)
    (case l16 => k_is)
    (case c16 => k_is)
    (case k16 => k_is)
    (case a17 => k_is)
    (case l17 => k_is)
    (case c17 => k_is)
    (case k17 => k_is)
    (case a18 => k_is)
    (case l18 => k_is)
    (case c18 => k_is)
    (case k18 => k_is)
    (case a19 => k_is)
    (case l19 => k_is)
    (case c19 => k_is)
    (case k19 => k_is)
    (case a20 => k_is)
    (case l20 => k_is)
    (case c20 => k_is)
    (case k20 => k_is)
    (case a21 => k_is)
    (case l21 => k_is)
    (case c21 => k_is)
    (case k21 => k_is)
    (case a22 => k_is)
    (case l22 => k_is)
    (case c22 => k_is)
    (case k22 => k_is)
    (case a23 => k_is)
    (case l23 => k_is)
    (case c23 => k_is)
    (case k23 => k_is)
    (case a24 => k_is)
    (case l24 => k_is)
    (case c24 => k_is)
    (case k24 => k_is)
    (case a25 => k_is)
    (case l25 => k_is)
    (case c25 => k_is)
    (case k25 => k_is)
    (case i25 => k_is)
    (case a26 => k_is)
    (case l26 => k_is)
    (case c26 => k_is)
    (case k26 => k_is)
    (case i26 => k_is)
    (case a27 => k_is)
    (case l27 => k_is)
    (case c27 => k_is)
    (case k27 => k_is)
    (case i27 => k_is)
    (case a28 => k_is)
    (case l28 => k_is)
    (case c28 => k_is)
    (case k28 => k_is)
    (case i28 => k_is)
    (case a29 => k_is)
    (case l29 => k_is)
    (case c29 => k_is)
    (case k29 => k_is)
    (case i29 => k_is)
    (case lt29 => k_is)
    (case a30 => k_is)
    (case l30 => k_is)
    (case c30 => k_is)
    (case k30 => k_is)
    (case i30 => k_is)
    (case a31 => k_is)
    (case l31 => k_is)
    (case c31 => k_is)
    (case k31 => k_is)
    (case i31 => k_is)
    (case a32 => k_is)
    (case l32 => k_is)
    (case c32 => k_is)
    (case k32 => k_is)
    (case i32 => k_is)
    (case a33 => k_is)
    (case l33 => k_is)
    (case c33 => k_is)
    (case k33 => k_is)
    (case i33 => k_is)
    (case a34 => k_is)
    (case l34 => k_is)
    (case c34 => k_is)
    (case k34 => k_is)
    (case i34 => k_is)
    (case a35 => k_is)
    (case l35 => k_is)
    (case c35 => k_is)
    (case k35 => k_is)
    (case i35 => k_is)
    (case a36 => k_is)
    (case l36 => k_is)
    (case c36 => k_is)
    (case k36 => k_is)
    (case i36 => k_is)
    (case z1 => k_is)
    (case z2 => k_is)
    (case z3 => k_is)
    (case z4 => k_is)
    (case z5 => k_is)
    (case z6 => k_is)
    (case z7 => k_is)
    (case z8 => k_is)
    (case z9 => k_is)
    (case z10 => k_is)
    (case z11 => k_is)
    (case z12 => k_is)
    (case y1 => k_is)
    (case y2 => k_is)
    (case y3 => k_is)
    (case y4 => k_is)
