import PyProof.Rows.All
import Wide.All
import OpenK.AllK
import Wide.FinOn
import HandS.ForMost
import HandS.ForExc
import HandS.ExcIs
import HandS.ExcField
import HandS.ExcInit
import HandS.Lambda
import KE.KExcIs
import KE.KExcSuper
import HandS.Wide
import HandS.SortKw
import HandS.TupAny
import KE.DatumOrd
import HandS.EndBits
import HandS.EndTab
import HandS.Style
import PyProof.ReprBulk
import HandS.Iter
import KE.GoesMore
import HandS.Dict
import HandS.DictComp
import HandS.SetKeys
import HandS.More
import HandS.TupMul
import HandS.IsInst
import HandS.Strs
import PyProof.Rows.SortShellAny
import PyProof.Rows.SortKeyStr
import HandS.DictTup
import HandS.ListItems
import KE.KDictPairs
import HandS.Conv
import HandS.Zip
import KE.KIndexOf
import PyProof.StrBlock2
import PyProof.Rows.StrJoin2
import PyProof.NeData
import PyProof.Rows.IntBool
import PyProof.CallStr
import KE.KStrOpen
import PyProof.Rows.StrJoinRep
import PyProof.Rows.ReprOcc
import KE.KDictItemsList
import HandS.Star
import HandS.SortRule
import KE.KNestM
import KE.KDictZip
import HandS.StrMore
import HandS.ExcValue
import HandS.Deep
import HandS.GenBody
import HandS.GenCall
import HandS.GenList
import HandS.GenYield
import HandS.Base
import HandS.Zip0
import HandS.Property
import PyProof.DictUpdate
import PyProof.DictDisplay
import PyProof.DictTable
import HandS.Flow
import PyProof.NeKinds
import KE.GoesEnum
import HandS.TupSets
import HandS.OwnEq
import HandS.DictEq
import HandS.SortOrd
import KE.KSortTupAny
import KE.KDictCopyH
import KE.KDictSum
import HandS.SetBool
import KE.KDictKeyed
import PySem.Challenge.RW_pluralforms_k62_rows_that_no_number_meet
/-! CL0: are tuples of ints and texts known to be tracked, unlocked? (for dicts whose keys are tuples) -/
namespace CL
def strict : Bool := false
/-- are a def's guards known? (repr asks for them; a generator's body does not know them) -/
def useGd : Bool := true
end CL
set_option Elab.async false
set_option linter.all false
set_option maxRecDepth 100000
set_option maxHeartbeats 4000000
/-! CL1: clean values, the owned store, what a clean value stands for; lifted readings -/
namespace CL
open PySem PySem.Spec PyProof.Rows L2
abbrev Fg := PySem.W.Frag
/-- clean values: immutable trees, and references to owned objects -/
inductive Cv where
  | non | bl (b : Bool) | int (i : Int) | str (x : Str)
  | tup (xs : List Cv) | lst (xs : List Cv)
  /-- an instance of a class of the program's own: the class by its name, the fields -/
  | ins (q : Str) (fs : List (Str × Cv))
  | dK (kvs : List (Key × Cv)) | dT (kvs : List (List Key × Cv))
  | ref (a : Addr) | opq (v : V)
  /-- a list that is only read (the script) -/
  | scr (xs : List Cv)
  /-- a tuple that is known to have no dict of its own -/
  | tupF (xs : List Cv)
  /-- an error of the program's own that was caught: of which classes it is, its fields -/
  | exc (ts : List (Str × Bool)) (fs : List (Str × Cv))
  /-- a class, by its name -/
  | cls (y : Str)
  /-- a lambda in the hands of a def: its code object at c, of the name q; what it holds on to -/
  | lam (f c : Addr) (q : Str) (us : List Cv) (vs : List V)
inductive Ob where
  | lst (xs : List Cv)
  | dK (kvs : List (Key × Cv)) | dT (kvs : List (List Key × Cv))
  | ins (q : Str) (fs : List (Str × Cv))
  | dL (od : Obj) (kvs : List (Key × V)) (kws : List (Key × Cv))
abbrev Sto := Addr → Option Ob
def Sto.set (S : Sto) (a : Addr) (o : Ob) : Sto := fun b => if b = a then some o else S b
@[simp] theorem Sto.set_same {S : Sto} {a : Addr} {o : Ob} : S.set a o a = some o := by simp [Sto.set]
theorem Sto.set_ne {S : Sto} {a b : Addr} {o : Ob} (h : b ≠ a) : S.set a o b = S b := by simp [Sto.set, h]
@[simp] theorem Sto.set_set {S : Sto} {a : Addr} {o u : Ob} : (S.set a o).set a u = S.set a u := by
  funext b; by_cases h : b = a <;> simp [Sto.set, h]
/-- all parts are ints or texts -/
def keyl : List Cv → Bool
  | [] => true
  | .int _ :: r => keyl r
  | .str _ :: r => keyl r
  | _ :: _ => false
def wkOk (ws : List Cv) : Bool := !strict || !keyl ws
/-- a tracked tuple; locked only where it is no key -/
abbrev TRd (H : Hp) (a : Addr) (vs : List V) (ws : List Cv) : Prop := H a = some (.tup vs) ∨ (wkOk ws = true ∧ ∃ o, H a = some (.frz o (.tup vs)))
theorem TRd.rd {H : Hp} {a : Addr} {vs : List V} {ws : List Cv} (h : TRd H a vs ws) : Rd H a (.tup vs) := h.elim .inl fun h => .inr h.2
/-- v is the class that the module calls y -/
def ClsV (K : Fg) (y : Str) (v : V) : Prop := (∃ D : Addr, PySem.W.nsIn K mainGlobals y = some (some (.ref D)) ∧ v = .ref D) ∨ (PySem.W.nsIn K mainGlobals y = some none ∧ ∃ T : String, bootBuiltins y = some (.type T) ∧ v = .ty T)
def ClsC (K : Fg) (y : Str) (cv : Value) : Prop := (∃ D : Addr, PySem.W.nsIn K mainGlobals y = some (some (.ref D)) ∧ cv = .ref D) ∨ (PySem.W.nsIn K mainGlobals y = some none ∧ ∃ T : String, bootBuiltins y = some (.type T) ∧ cv = .type T)
/-- of which classes the errors of the class at C are; its fields are no attributes of the class -/
structure ExT (K : Fg) (C : Addr) (ts : List (Str × Bool)) (fl : List Str) : Prop where
  is : ∀ y b cv, ts.lookup y = some b → ClsC K y cv → PySem.W.kitOne K (.ref C) cv = some b
  em : ∀ y b cv, ts.lookup y = some b → ClsC K y cv → PySem.W.exmOne K (.ref C) cv = some b
  cx : ExcC K C
  xf : XfC K C
  no : ∀ f ∈ fl, PySem.W.findIn K (.ref C) f = some none
/-- the error's object -/
def ExO (oe : Obj) (C d : Addr) : Prop := Zc (.ref C) (some d) oe ∧ ∃ vs, oe.data = .fields vs
mutual
inductive Rep (K : Fg) (Z : List Addr) (S : Sto) (H : Hp) : Cv → V → Prop
  | non : Rep K Z S H .non .non
  | bl (b : Bool) : Rep K Z S H (.bl b) (.bl b)
  | int (i : Int) : Rep K Z S H (.int i) (.int i)
  | str (x : Str) : Rep K Z S H (.str x) (.str x)
  | tup {a : Addr} {vs : List V} {ws : List Cv} : TRd H a vs ws → S a = none → Reps K Z S H ws vs → Rep K Z S H (.tup ws) (.ref a)
  | tupK {a : Addr} {vs : List V} {ws : List Cv} : (wkOk ws = true ∧ ∀ H' : Hp, SqT K H' a vs) → Reps K Z S H ws vs → Rep K Z S H (.tup ws) (.ref a)
  | lst {a : Addr} {vs : List V} {ws : List Cv} : H a = some (.lst vs) → S a = none → a ∉ Z → Reps K Z S H ws vs → Rep K Z S H (.lst ws) (.ref a)
  | scr {a : Addr} {vs : List V} {ws : List Cv} {o : Obj} : H a = some (.frz o (.lst vs)) → S a = none → Reps K Z S H ws vs → Rep K Z S H (.scr ws) (.ref a)
  | tupF {a : Addr} {vs : List V} {ws : List Cv} {o : Obj} : H a = some (.frz o (.tup vs)) → S a = none → Reps K Z S H ws vs → o.dict = none → Rep K Z S H (.tupF ws) (.ref a)
  | scrK {a : Addr} {vs : List V} {ws : List Cv} : (∀ H' : Hp, SqL K H' a vs) → Reps K Z S H ws vs → Rep K Z S H (.scr ws) (.ref a)
  | dK {a : Addr} {kvs : List (Key × V)} {kws : List (Key × Cv)} : H a = some (.dK kvs) → S a = none → a ∉ Z → kws.map Prod.fst = kvs.map Prod.fst → Reps K Z S H (kws.map Prod.snd) (kvs.map Prod.snd) → Rep K Z S H (.dK kws) (.ref a)
  | dT {a : Addr} {kvs : List (List Key × V)} {kws : List (List Key × Cv)} : H a = some (.dT kvs) → S a = none → a ∉ Z → kws.map Prod.fst = kvs.map Prod.fst → Reps K Z S H (kws.map Prod.snd) (kvs.map Prod.snd) → Rep K Z S H (.dT kws) (.ref a)
  | ins {a C dx : Addr} {fvs : List (Str × V)} {q : Str} {fs : List (Str × Cv)} : H a = some (.ins C dx fvs) → S a = none → a ∉ Z → PySem.W.nsIn K mainGlobals q = some (some (.ref C)) → fs.map Prod.fst = fvs.map Prod.fst → Reps K Z S H (fs.map Prod.snd) (fvs.map Prod.snd) → Rep K Z S H (.ins q fs) (.ref a)
  | ref (a : Addr) : Rep K Z S H (.ref a) (.ref a)
  | opq (v : V) : Rep K Z S H (.opq v) v
  | exc {a d C : Addr} {oe : Obj} {u : HO} {ts : List (Str × Bool)} {fs : List (Str × Cv)} {fvs : List (Str × V)} : H a = some (.frz oe u) → S a = none → ExT K C ts (fs.map Prod.fst) → ExO oe C d → H d = some (.xd fvs) → S d = none → d ∉ Z → fs.map Prod.fst = fvs.map Prod.fst → Reps K Z S H (fs.map Prod.snd) (fvs.map Prod.snd) → Rep K Z S H (.exc ts fs) (.ref a)
  | excN {a C : Addr} {oe : Obj} {u : HO} {ts : List (Str × Bool)} : H a = some (.frz oe u) → S a = none → ExT K C ts [] → Zc (.ref C) none oe ∧ (∃ vs, oe.data = .fields vs) → Rep K Z S H (.exc ts []) (.ref a)
  | cls {y : Str} {v : V} : ClsV K y v → Rep K Z S H (.cls y) v
  | lam {f c : Addr} {q : Str} {us : List Cv} {vs : List V} : H c = some (LamX.CodeO c q) → S c = none → Reps K Z S H us vs → Rep K Z S H (.lam f c q us vs) (.ref f)
inductive Reps (K : Fg) (Z : List Addr) (S : Sto) (H : Hp) : List Cv → List V → Prop
  | nil : Reps K Z S H [] []
  | cons {w : Cv} {v : V} {ws : List Cv} {vs : List V} : Rep K Z S H w v → Reps K Z S H ws vs → Reps K Z S H (w :: ws) (v :: vs)
end
def RepOb (K : Fg) (Z : List Addr) (S : Sto) (H : Hp) (a : Addr) : Ob → Prop
  | .lst ws => ∃ vs, H a = some (.lst vs) ∧ Reps K Z S H ws vs
  | .dK kws => ∃ kvs, H a = some (.dK kvs) ∧ kws.map Prod.fst = kvs.map Prod.fst ∧ Reps K Z S H (kws.map Prod.snd) (kvs.map Prod.snd)
  | .dT kws => ∃ kvs, H a = some (.dT kvs) ∧ kws.map Prod.fst = kvs.map Prod.fst ∧ Reps K Z S H (kws.map Prod.snd) (kvs.map Prod.snd)
  | .ins q fs => ∃ fvs, (∃ C dx : Addr, H a = some (.ins C dx fvs) ∧ PySem.W.nsIn K mainGlobals q = some (some (.ref C))) ∧ fs.map Prod.fst = fvs.map Prod.fst ∧ Reps K Z S H (fs.map Prod.snd) (fvs.map Prod.snd)
  | .dL od kv kws => ∃ kvs, H a = some (.frz od (.dK kvs)) ∧ (kvs = kv ∧ kws.map Prod.fst = kvs.map Prod.fst) ∧ Reps K Z S H (kws.map Prod.snd) (kvs.map Prod.snd)
/-- tables of code objects, in which lambdas find theirs: they grow -/
class LamT where
  tabs : List (Addr × Str)
variable [LamT]
def isTbl : HO → Bool
  | .tbl _ => true
  | _ => false
/-- no table, no code object -/
def noTab : HO → Bool
  | .tbl _ => false
  | .ext _ => false
  | _ => true
theorem tab_off {H : Hp} {p P : Addr} {o : HO} {q : Str} (t : LamX.TabS H P q) (h : ∀ u, H p = some u → noTab u = true) : LamX.TabS (upd H p o) P q := by
  obtain ⟨ps, h1, h2, h3⟩ := t
  have np : P ≠ p := fun z => by
    have := h _ (by rw [← z]; exact h1)
    cases this
  refine ⟨ps, by rw [upd_ne np]; exact h1, h2, fun pos cv e => ?_⟩
  obtain ⟨c, e1, e2⟩ := h3 pos cv e
  have nc : c ≠ p := fun z => by
    have := h _ (by rw [← z]; exact e2)
    cases this
  exact ⟨c, e1, by rw [upd_ne nc]; exact e2⟩
theorem tab_new {H : Hp} {p P : Addr} {o : HO} {q : Str} (t : LamX.TabS H P q) (h : H p = none) : LamX.TabS (upd H p o) P q := tab_off t fun u e => by rw [h] at e; cases e
/-- no tuple, nothing locked -/
def plainO : HO → Bool
  | .tup _ => false
  | .frz _ _ => false
  | .tbl _ => false
  | .ext _ => false
  | _ => true
theorem plainO.noT {o : HO} (h : plainO o = true) : noTab o = true := by cases o <;> first | rfl | cases h
theorem plainO.nt {o : HO} (h : plainO o = true) : isTbl o = false := by cases o <;> first | rfl | cases h
theorem noTab.nt {o : HO} (h : noTab o = true) : isTbl o = false := by cases o <;> first | rfl | cases h
/-- the owned objects stand so -/
structure StOk (K : Fg) (Z : List Addr) (S : Sto) (H : Hp) : Prop where
  ob : ∀ a o, S a = some o → RepOb K Z S H a o
  hid : ∀ a, a ∈ Z → S a = none ∧ ∃ u, H a = some u ∧ plainO u = true
  tab : ∀ p ∈ LamT.tabs, LamX.TabS H p.1 p.2
/-- nothing stands there, or a table -/
def Emp (H : Hp) (a : Addr) : Prop := ∀ o, H a = some o → isTbl o = true
theorem Emp.of {H : Hp} {a : Addr} (h : H a = none) : Emp H a := fun o e => by rw [h] at e; cases e
/-- what is not owned is kept, and not taken; what is tracked stays tracked -/
structure Fr (S : Sto) (H : Hp) (S' : Sto) (H' : Hp) : Prop where
  keep : ∀ a o, H a = some o → S a = none → (nt : isTbl o = false := by rfl) → H' a = some o ∧ S' a = none
  dom : ∀ a, Emp H' a → Emp H a
theorem Fr.refl (S : Sto) (H : Hp) : Fr S H S H := ⟨fun _ _ h n _ => ⟨h, n⟩, fun _ h => h⟩
theorem Fr.trans {S S1 S2 : Sto} {H H1 H2 : Hp} (a : Fr S H S1 H1) (b : Fr S1 H1 S2 H2) : Fr S H S2 H2 :=
  ⟨fun p o h n t => let ⟨h1, n1⟩ := a.keep p o h n t; b.keep p o h1 n1 t, fun p h => a.dom p (b.dom p h)⟩
theorem dom_upd {H : Hp} {p : Addr} {o : HO} (nt : isTbl o = false := by rfl) : ∀ a, Emp (upd H p o) a → Emp H a := fun a h => by
  by_cases e : a = p
  · have := h o (by rw [e, upd_same])
    rw [nt] at this; cases this
  · intro u hu
    exact h u (by rw [upd_ne e]; exact hu)
/-- a new object, tracked and not owned -/
theorem Fr.new {S : Sto} {H : Hp} {p : Addr} {o : HO} (h : H p = none) (nt : isTbl o = false := by rfl) : Fr S H S (upd H p o) :=
  ⟨fun a u e n _ => ⟨by rw [upd_ne (ne_of_none e h)]; exact e, n⟩, dom_upd nt⟩
/-- a new object, owned -/
theorem Fr.own {S : Sto} {H : Hp} {p : Addr} {o : HO} {u : Ob} (h : H p = none) (nt : isTbl o = false := by rfl) : Fr S H (S.set p u) (upd H p o) :=
  ⟨fun a x e n _ => by
    have np := ne_of_none e h
    exact ⟨by rw [upd_ne np]; exact e, by rw [Sto.set_ne np]; exact n⟩, dom_upd nt⟩
/-- an owned object is written -/
theorem Fr.wr {S : Sto} {H : Hp} {p : Addr} {o : HO} {u u' : Ob} (h : S p = some u') (nt : isTbl o = false := by rfl) : Fr S H (S.set p u) (upd H p o) :=
  ⟨fun a x e n _ => by
    have np : a ≠ p := fun z => by subst z; rw [h] at n; cases n
    exact ⟨by rw [upd_ne np]; exact e, by rw [Sto.set_ne np]; exact n⟩, dom_upd nt⟩
/-- the same, but for what is hidden -/
structure FrZ (Z : List Addr) (S : Sto) (H : Hp) (S' : Sto) (H' : Hp) : Prop where
  keep : ∀ a o, a ∉ Z → H a = some o → S a = none → (nt : isTbl o = false := by rfl) → H' a = some o ∧ S' a = none
  dom : ∀ a, Emp H' a → Emp H a
theorem Fr.z {S S' : Sto} {H H' : Hp} (f : Fr S H S' H') (Z : List Addr) : FrZ Z S H S' H' := ⟨fun a o _ h n t => f.keep a o h n t, f.dom⟩
theorem FrZ.trans {Z : List Addr} {S S1 S2 : Sto} {H H1 H2 : Hp} (a : FrZ Z S H S1 H1) (b : FrZ Z S1 H1 S2 H2) : FrZ Z S H S2 H2 :=
  ⟨fun p o z h n t => let ⟨h1, n1⟩ := a.keep p o z h n t; b.keep p o z h1 n1 t, fun p h => a.dom p (b.dom p h)⟩
theorem FrZ.chg {Z : List Addr} {S : Sto} {H : Hp} {D : Addr} {o : HO} (hD : D ∈ Z) (nt : isTbl o = false := by rfl) : FrZ Z S H S (upd H D o) :=
  ⟨fun a u z e n _ => ⟨by rw [upd_ne (fun q => z (by rw [q]; exact hD))]; exact e, n⟩, dom_upd nt⟩
theorem Rd.fr {S S' : Sto} {H H' : Hp} {a : Addr} {u : HO} (f : Fr S H S' H') (h : Rd H a u) (n : S a = none) (nt : isTbl u = false := by rfl) : Rd H' a u ∧ S' a = none := by
  rcases h with h | ⟨o, h⟩
  · exact ⟨.inl (f.keep _ _ h n nt).1, (f.keep _ _ h n nt).2⟩
  · exact ⟨.inr ⟨o, (f.keep _ _ h n).1⟩, (f.keep _ _ h n).2⟩
theorem TRd.fr {S S' : Sto} {H H' : Hp} {a : Addr} {vs : List V} {ws : List Cv} (f : Fr S H S' H') (h : TRd H a vs ws) (n : S a = none) : TRd H' a vs ws ∧ S' a = none := by
  rcases h with h | ⟨w, o, h⟩
  · exact ⟨.inl (f.keep _ _ h n).1, (f.keep _ _ h n).2⟩
  · exact ⟨.inr ⟨w, o, (f.keep _ _ h n).1⟩, (f.keep _ _ h n).2⟩
section
variable {K : Fg} {Z : List Addr} {S S' : Sto} {H H' : Hp}
mutual
theorem Rep.fr (f : Fr S H S' H') : ∀ {w : Cv} {v : V}, Rep K Z S H w v → Rep K Z S' H' w v
  | _, _, .non => .non
  | _, _, .bl b => .bl b
  | _, _, .int i => .int i
  | _, _, .str x => .str x
  | _, _, .tup h n r => .tup (TRd.fr f h n).1 (TRd.fr f h n).2 (Reps.fr f r)
  | _, _, .tupK h r => .tupK h (Reps.fr f r)
  | _, _, .lst h n z r => .lst (f.keep _ _ h n).1 (f.keep _ _ h n).2 z (Reps.fr f r)
  | _, _, .scr h n r => .scr (f.keep _ _ h n).1 (f.keep _ _ h n).2 (Reps.fr f r)
  | _, _, .tupF h n r d => .tupF (f.keep _ _ h n).1 (f.keep _ _ h n).2 (Reps.fr f r) d
  | _, _, .scrK h r => .scrK h (Reps.fr f r)
  | _, _, .dK h n z e r => .dK (f.keep _ _ h n).1 (f.keep _ _ h n).2 z e (Reps.fr f r)
  | _, _, .dT h n z e r => .dT (f.keep _ _ h n).1 (f.keep _ _ h n).2 z e (Reps.fr f r)
  | _, _, .ins h n z cq e r => .ins (f.keep _ _ h n).1 (f.keep _ _ h n).2 z cq e (Reps.fr f r)
  | _, _, .ref a => .ref a
  | _, _, .exc h n t o hd nd z e r => .exc (f.keep _ _ h n).1 (f.keep _ _ h n).2 t o (f.keep _ _ hd nd).1 (f.keep _ _ hd nd).2 z e (Reps.fr f r)
  | _, _, .excN h n t o => .excN (f.keep _ _ h n).1 (f.keep _ _ h n).2 t o
  | _, _, .lam h n r => .lam (f.keep _ _ h n (by rfl)).1 (f.keep _ _ h n (by rfl)).2 (Reps.fr f r)
  | _, _, .cls h => .cls h
  | _, _, .opq v => .opq v
theorem Reps.fr (f : Fr S H S' H') : ∀ {ws : List Cv} {vs : List V}, Reps K Z S H ws vs → Reps K Z S' H' ws vs
  | _, _, .nil => .nil
  | _, _, .cons a r => .cons (Rep.fr f a) (Reps.fr f r)
end
theorem Reps.length : ∀ {ws : List Cv} {vs : List V}, Reps K Z S H ws vs → ws.length = vs.length
  | _, _, .nil => rfl
  | _, _, .cons _ r => by simp [Reps.length r]
theorem Reps.get : ∀ {ws : List Cv} {vs : List V} {i : Nat} {w : Cv}, Reps K Z S H ws vs → ws[i]? = some w → ∃ v, vs[i]? = some v ∧ Rep K Z S H w v
  | _, _, _, _, .nil, h => by simp at h
  | _, _, 0, _, .cons a _, h => by simp at h; subst h; exact ⟨_, rfl, a⟩
  | _, _, i + 1, w, .cons _ r, h => by
    obtain ⟨v, h1, h2⟩ := Reps.get (i := i) (w := w) r (by simpa using h)
    exact ⟨v, by simpa using h1, h2⟩
theorem Reps.getV : ∀ {ws : List Cv} {vs : List V} {i : Nat} {v : V}, Reps K Z S H ws vs → vs[i]? = some v → ∃ w, ws[i]? = some w ∧ Rep K Z S H w v
  | _, _, _, _, .nil, h => by simp at h
  | _, _, 0, _, .cons a _, h => by simp at h; subst h; exact ⟨_, rfl, a⟩
  | _, _, i + 1, w, .cons _ r, h => by
    obtain ⟨v, h1, h2⟩ := Reps.getV (i := i) (v := w) r (by simpa using h)
    exact ⟨v, by simpa using h1, h2⟩
theorem Reps.app : ∀ {ws us : List Cv} {vs xs : List V}, Reps K Z S H ws vs → Reps K Z S H us xs → Reps K Z S H (ws ++ us) (vs ++ xs)
  | _, _, _, _, .nil, s => s
  | _, _, _, _, .cons a r, s => .cons a (Reps.app r s)
theorem Reps.one {w : Cv} {v : V} (h : Rep K Z S H w v) : Reps K Z S H [w] [v] := .cons h .nil
theorem Reps.split : ∀ {us ws : List Cv} {vs : List V}, Reps K Z S H (us ++ ws) vs → ∃ xs ys, vs = xs ++ ys ∧ Reps K Z S H us xs ∧ Reps K Z S H ws ys
  | [], _, vs, r => ⟨[], vs, rfl, .nil, r⟩
  | _ :: us, ws, _, .cons a r => by
    obtain ⟨xs, ys, rfl, h1, h2⟩ := Reps.split (us := us) (ws := ws) r
    exact ⟨_ :: xs, ys, rfl, .cons a h1, h2⟩
theorem Reps.take : ∀ {ws : List Cv} {vs : List V} (n : Nat), Reps K Z S H ws vs → Reps K Z S H (ws.take n) (vs.take n)
  | _, _, 0, _ => .nil
  | _, _, _ + 1, .nil => .nil
  | _, _, n + 1, .cons a r => .cons a (Reps.take n r)
theorem Reps.drop : ∀ {ws : List Cv} {vs : List V} (n : Nat), Reps K Z S H ws vs → Reps K Z S H (ws.drop n) (vs.drop n)
  | _, _, 0, r => r
  | _, _, _ + 1, .nil => .nil
  | _, _, n + 1, .cons _ r => Reps.drop n r
theorem Reps.set {w : Cv} {v : V} (h : Rep K Z S H w v) : ∀ {ws : List Cv} {vs : List V} (n : Nat), Reps K Z S H ws vs → Reps K Z S H (ws.set n w) (vs.set n v)
  | _, _, _, .nil => .nil
  | _, _, 0, .cons _ r => .cons h r
  | _, _, n + 1, .cons a r => .cons a (Reps.set h n r)
theorem Reps.rev {ws : List Cv} {vs : List V} (r : Reps K Z S H ws vs) : Reps K Z S H ws.reverse vs.reverse := by
  induction ws generalizing vs with
  | nil => cases r; exact .nil
  | cons w ws ih =>
    cases r with
    | cons a r => rw [List.reverse_cons, List.reverse_cons]; exact (ih r).app (.one a)
theorem RepOb.fr {a : Addr} {o : Ob} (f : Fr S H S' H') (e : H' a = H a) (h : RepOb K Z S H a o) : RepOb K Z S' H' a o := by
  cases o with
  | lst ws => obtain ⟨vs, h1, h2⟩ := h; exact ⟨vs, e.trans h1, h2.fr f⟩
  | dK ws => obtain ⟨vs, h1, h3, h2⟩ := h; exact ⟨vs, e.trans h1, h3, h2.fr f⟩
  | dT ws => obtain ⟨vs, h1, h3, h2⟩ := h; exact ⟨vs, e.trans h1, h3, h2.fr f⟩
  | ins q fs => obtain ⟨vs, ⟨C, dx, h1, hq⟩, h3, h2⟩ := h; exact ⟨vs, ⟨C, dx, e.trans h1, hq⟩, h3, h2.fr f⟩
  | dL C dx fs => obtain ⟨vs, h1, h3, h2⟩ := h; exact ⟨vs, e.trans h1, h3, h2.fr f⟩
theorem RepOb.there {a : Addr} {o : Ob} (h : RepOb K Z S H a o) : ∃ u, H a = some u := by
  cases o with
  | lst ws => obtain ⟨vs, h1, h2⟩ := h; exact ⟨_, h1⟩
  | dK ws => obtain ⟨vs, h1, h3, h2⟩ := h; exact ⟨_, h1⟩
  | dT ws => obtain ⟨vs, h1, h3, h2⟩ := h; exact ⟨_, h1⟩
  | ins q fs => obtain ⟨vs, ⟨C, dx, h1, hq⟩, h3, h2⟩ := h; exact ⟨_, h1⟩
  | dL C dx fs => obtain ⟨vs, h1, h3, h2⟩ := h; exact ⟨_, h1⟩
theorem RepOb.noT {a : Addr} {o : Ob} (h : RepOb K Z S H a o) : ∀ u, H a = some u → noTab u = true := fun u e => by
  cases o with
  | lst ws => obtain ⟨vs, h1, h2⟩ := h; rw [h1] at e; cases e; rfl
  | dK ws => obtain ⟨vs, h1, h2⟩ := h; rw [h1] at e; cases e; rfl
  | dT ws => obtain ⟨vs, h1, h2⟩ := h; rw [h1] at e; cases e; rfl
  | ins q fs => obtain ⟨vs, ⟨C, dx, h1, hq⟩, h2⟩ := h; rw [h1] at e; cases e; rfl
  | dL C dx fs => obtain ⟨vs, h1, h2⟩ := h; rw [h1] at e; cases e; rfl
theorem StOk.free (ok : StOk K Z S H) {p : Addr} (h : H p = none) : S p = none := by
  cases e : S p with
  | none => rfl
  | some o => obtain ⟨u, hu⟩ := (ok.ob p o e).there; rw [h] at hu; cases hu
theorem StOk.notZE (ok : StOk K Z S H) {p : Addr} (h : Emp H p) : p ∉ Z := fun z => by
  obtain ⟨_, u, e, q⟩ := ok.hid p z
  have := h u e
  rw [plainO.nt q] at this; cases this
theorem StOk.notZ (ok : StOk K Z S H) {p : Addr} (h : H p = none) : p ∉ Z := fun z => by
  obtain ⟨_, u, e, _⟩ := ok.hid p z
  rw [h] at e; cases e
/-- a new object, not owned -/
theorem StOk.new (ok : StOk K Z S H) {p : Addr} {o : HO} (h : H p = none) (nt : isTbl o = false := by rfl) : StOk K Z S (upd H p o) where
  ob := fun a u e => (ok.ob a u e).fr (Fr.new h nt) (upd_ne (fun z => by subst z; rw [ok.free h] at e; cases e))
  hid := fun a z => by
    obtain ⟨n, u, e, p⟩ := ok.hid a z
    exact ⟨n, u, by rw [upd_ne (ne_of_none e h)]; exact e, p⟩
  tab := fun p m => tab_new (ok.tab p m) h
/-- a new object, owned -/
theorem StOk.own (ok : StOk K Z S H) {p : Addr} {o : HO} {u : Ob} (h : H p = none) (r : RepOb K Z (S.set p u) (upd H p o) p u) : StOk K Z (S.set p u) (upd H p o) where
  ob := fun a x e => by
    by_cases np : a = p
    · subst np; rw [Sto.set_same] at e; cases e; exact r
    · rw [Sto.set_ne np] at e
      exact (ok.ob a x e).fr (Fr.own h (noTab.nt (r.noT _ upd_same))) (upd_ne np)
  hid := fun a z => by
    obtain ⟨n, u, e, p⟩ := ok.hid a z
    have np := ne_of_none e h
    exact ⟨by rw [Sto.set_ne np]; exact n, u, by rw [upd_ne np]; exact e, p⟩
  tab := fun p m => tab_new (ok.tab p m) h
/-- an owned object is written -/
theorem StOk.wr (ok : StOk K Z S H) {p : Addr} {o : HO} {u u' : Ob} (h : S p = some u') (r : RepOb K Z (S.set p u) (upd H p o) p u) : StOk K Z (S.set p u) (upd H p o) where
  ob := fun a x e => by
    by_cases np : a = p
    · subst np; rw [Sto.set_same] at e; cases e; exact r
    · rw [Sto.set_ne np] at e
      exact (ok.ob a x e).fr (Fr.wr h (noTab.nt (r.noT _ upd_same))) (upd_ne np)
  hid := fun a z => by
    obtain ⟨n, x, e, q⟩ := ok.hid a z
    have np : a ≠ p := fun q => by subst q; rw [h] at n; cases n
    exact ⟨by rw [Sto.set_ne np]; exact n, x, by rw [upd_ne np]; exact e, q⟩
  tab := fun p m => tab_off (ok.tab p m) (ok.ob _ _ h).noT
/-! what is hidden may change, nobody sees it -/
mutual
theorem Rep.hid {D : Addr} {l l' : List V} (hD : D ∈ Z) (hl : H D = some (.lst l)) : ∀ {w : Cv} {v : V}, Rep K Z S H w v → Rep K Z S (upd H D (.lst l')) w v
  | _, _, .non => .non
  | _, _, .bl b => .bl b
  | _, _, .int i => .int i
  | _, _, .str x => .str x
  | _, _, .tup h n r => .tup (by
      rcases h with h | ⟨w, o, h⟩
      · exact .inl (by rw [upd_ne (ne_of h hl (by intro z; cases z))]; exact h)
      · exact .inr ⟨w, o, by rw [upd_ne (ne_of h hl (by intro z; cases z))]; exact h⟩) n (Reps.hid hD hl r)
  | _, _, .tupK h r => .tupK h (Reps.hid hD hl r)
  | _, _, .lst h n z r => .lst (by rw [upd_ne (fun q => z (by rw [q]; exact hD))]; exact h) n z (Reps.hid hD hl r)
  | _, _, .scr h n r => .scr (by rw [upd_ne (ne_of h hl (by intro z; cases z))]; exact h) n (Reps.hid hD hl r)
  | _, _, .tupF h n r d => .tupF (by rw [upd_ne (ne_of h hl (by intro z; cases z))]; exact h) n (Reps.hid hD hl r) d
  | _, _, .scrK h r => .scrK h (Reps.hid hD hl r)
  | _, _, .dK h n z e r => .dK (by rw [upd_ne (fun q => z (by rw [q]; exact hD))]; exact h) n z e (Reps.hid hD hl r)
  | _, _, .dT h n z e r => .dT (by rw [upd_ne (fun q => z (by rw [q]; exact hD))]; exact h) n z e (Reps.hid hD hl r)
  | _, _, .ins h n z cq e r => .ins (by rw [upd_ne (fun q => z (by rw [q]; exact hD))]; exact h) n z cq e (Reps.hid hD hl r)
  | _, _, .ref a => .ref a
  | _, _, .exc h n t o hd nd z e r => .exc (by rw [upd_ne (ne_of h hl (by intro z; cases z))]; exact h) n t o (by rw [upd_ne (fun q => z (by rw [q]; exact hD))]; exact hd) nd z e (Reps.hid hD hl r)
  | _, _, .excN h n t o => .excN (by rw [upd_ne (ne_of h hl (by intro z; cases z))]; exact h) n t o
  | _, _, .lam h n r => .lam (by rw [upd_ne (ne_of h hl (by intro z; unfold LamX.CodeO at z; cases z))]; exact h) n (Reps.hid hD hl r)
  | _, _, .cls h => .cls h
  | _, _, .opq v => .opq v
theorem Reps.hid {D : Addr} {l l' : List V} (hD : D ∈ Z) (hl : H D = some (.lst l)) : ∀ {ws : List Cv} {vs : List V}, Reps K Z S H ws vs → Reps K Z S (upd H D (.lst l')) ws vs
  | _, _, .nil => .nil
  | _, _, .cons a r => .cons (Rep.hid hD hl a) (Reps.hid hD hl r)
end
theorem RepOb.hid {D a : Addr} {l l' : List V} {o : Ob} (hD : D ∈ Z) (hl : H D = some (.lst l)) (na : a ≠ D) (h : RepOb K Z S H a o) : RepOb K Z S (upd H D (.lst l')) a o := by
  cases o with
  | lst ws => obtain ⟨vs, h1, h2⟩ := h; exact ⟨vs, by rw [upd_ne na]; exact h1, h2.hid hD hl⟩
  | dK ws => obtain ⟨vs, h1, h3, h2⟩ := h; exact ⟨vs, by rw [upd_ne na]; exact h1, h3, h2.hid hD hl⟩
  | dT ws => obtain ⟨vs, h1, h3, h2⟩ := h; exact ⟨vs, by rw [upd_ne na]; exact h1, h3, h2.hid hD hl⟩
  | ins q fs => obtain ⟨vs, ⟨C, dx, h1, hq⟩, h3, h2⟩ := h; exact ⟨vs, ⟨C, dx, by rw [upd_ne na]; exact h1, hq⟩, h3, h2.hid hD hl⟩
  | dL C dx fs => obtain ⟨vs, h1, h3, h2⟩ := h; exact ⟨vs, by rw [upd_ne na]; exact h1, h3, h2.hid hD hl⟩
theorem StOk.chg {D : Addr} {l l' : List V} (hD : D ∈ Z) (hl : H D = some (.lst l)) (ok : StOk K Z S H) : StOk K Z S (upd H D (.lst l')) where
  ob := fun a o e => (ok.ob a o e).hid hD hl (fun q => by subst q; rw [(ok.hid _ hD).1] at e; cases e)
  hid := fun a z => by
    by_cases q : a = D
    · subst q; exact ⟨(ok.hid _ z).1, _, upd_same, rfl⟩
    · rw [upd_ne q]; exact ok.hid a z
  tab := fun p m => tab_off (ok.tab p m) fun u e => by rw [hl] at e; cases e; rfl
/-! less is hidden -/
mutual
theorem Rep.sub {Z' : List Addr} (hz : ∀ a, a ∈ Z' → a ∈ Z) : ∀ {w : Cv} {v : V}, Rep K Z S H w v → Rep K Z' S H w v
  | _, _, .non => .non
  | _, _, .bl b => .bl b
  | _, _, .int i => .int i
  | _, _, .str x => .str x
  | _, _, .tup h n r => .tup h n (Reps.sub hz r)
  | _, _, .tupK h r => .tupK h (Reps.sub hz r)
  | _, _, .lst h n z r => .lst h n (fun q => z (hz _ q)) (Reps.sub hz r)
  | _, _, .scr h n r => .scr h n (Reps.sub hz r)
  | _, _, .tupF h n r d => .tupF h n (Reps.sub hz r) d
  | _, _, .scrK h r => .scrK h (Reps.sub hz r)
  | _, _, .dK h n z e r => .dK h n (fun q => z (hz _ q)) e (Reps.sub hz r)
  | _, _, .dT h n z e r => .dT h n (fun q => z (hz _ q)) e (Reps.sub hz r)
  | _, _, .ins h n z cq e r => .ins h n (fun q => z (hz _ q)) cq e (Reps.sub hz r)
  | _, _, .ref a => .ref a
  | _, _, .exc h n t o hd nd z e r => .exc h n t o hd nd (fun q => z (hz _ q)) e (Reps.sub hz r)
  | _, _, .excN h n t o => .excN h n t o
  | _, _, .lam h n r => .lam h n (Reps.sub hz r)
  | _, _, .cls h => .cls h
  | _, _, .opq v => .opq v
theorem Reps.sub {Z' : List Addr} (hz : ∀ a, a ∈ Z' → a ∈ Z) : ∀ {ws : List Cv} {vs : List V}, Reps K Z S H ws vs → Reps K Z' S H ws vs
  | _, _, .nil => .nil
  | _, _, .cons a r => .cons (Rep.sub hz a) (Reps.sub hz r)
end
theorem RepOb.sub {Z' : List Addr} (hz : ∀ a, a ∈ Z' → a ∈ Z) {a : Addr} {o : Ob} (h : RepOb K Z S H a o) : RepOb K Z' S H a o := by
  cases o with
  | lst ws => obtain ⟨vs, h1, h2⟩ := h; exact ⟨vs, h1, h2.sub hz⟩
  | dK ws => obtain ⟨vs, h1, h3, h2⟩ := h; exact ⟨vs, h1, h3, h2.sub hz⟩
  | dT ws => obtain ⟨vs, h1, h3, h2⟩ := h; exact ⟨vs, h1, h3, h2.sub hz⟩
  | ins q fs => obtain ⟨vs, h1, h3, h2⟩ := h; exact ⟨vs, h1, h3, h2.sub hz⟩
  | dL C dx fs => obtain ⟨vs, h1, h3, h2⟩ := h; exact ⟨vs, h1, h3, h2.sub hz⟩
theorem StOk.sub {Z' : List Addr} (hz : ∀ a, a ∈ Z' → a ∈ Z) (ok : StOk K Z S H) : StOk K Z' S H :=
  ⟨fun a o e => (ok.ob a o e).sub hz, fun a z => ok.hid a (hz a z), ok.tab⟩
/-! a new list, to be filled unseen -/
mutual
theorem Rep.more {D : Addr} (hD : H D = none) : ∀ {w : Cv} {v : V}, Rep K Z S H w v → Rep K (D :: Z) S H w v
  | _, _, .non => .non
  | _, _, .bl b => .bl b
  | _, _, .int i => .int i
  | _, _, .str x => .str x
  | _, _, .tup h n r => .tup h n (Reps.more hD r)
  | _, _, .tupK h r => .tupK h (Reps.more hD r)
  | _, _, .lst h n z r => .lst h n (fun q => (List.mem_cons.mp q).elim (ne_of_none h hD) z) (Reps.more hD r)
  | _, _, .scr h n r => .scr h n (Reps.more hD r)
  | _, _, .tupF h n r d => .tupF h n (Reps.more hD r) d
  | _, _, .scrK h r => .scrK h (Reps.more hD r)
  | _, _, .dK h n z e r => .dK h n (fun q => (List.mem_cons.mp q).elim (ne_of_none h hD) z) e (Reps.more hD r)
  | _, _, .dT h n z e r => .dT h n (fun q => (List.mem_cons.mp q).elim (ne_of_none h hD) z) e (Reps.more hD r)
  | _, _, .ins h n z cq e r => .ins h n (fun q => (List.mem_cons.mp q).elim (ne_of_none h hD) z) cq e (Reps.more hD r)
  | _, _, .ref a => .ref a
  | _, _, .exc h n t o hd nd z e r => .exc h n t o hd nd (fun q => (List.mem_cons.mp q).elim (ne_of_none hd hD) z) e (Reps.more hD r)
  | _, _, .excN h n t o => .excN h n t o
  | _, _, .lam h n r => .lam h n (Reps.more hD r)
  | _, _, .cls h => .cls h
  | _, _, .opq v => .opq v
theorem Reps.more {D : Addr} (hD : H D = none) : ∀ {ws : List Cv} {vs : List V}, Reps K Z S H ws vs → Reps K (D :: Z) S H ws vs
  | _, _, .nil => .nil
  | _, _, .cons a r => .cons (Rep.more hD a) (Reps.more hD r)
end
theorem Rep.newD {D : Addr} (hD : H D = none) {o : HO} {w : Cv} {v : V} (r : Rep K Z S H w v) (nt : isTbl o = false := by rfl) : Rep K (D :: Z) S (upd H D o) w v := (r.more hD).fr (Fr.new hD nt)
theorem Reps.newD {D : Addr} (hD : H D = none) {o : HO} {w : List Cv} {v : List V} (r : Reps K Z S H w v) (nt : isTbl o = false := by rfl) : Reps K (D :: Z) S (upd H D o) w v := (r.more hD).fr (Fr.new hD nt)
theorem RepOb.more {D a : Addr} (hD : H D = none) {o : Ob} (h : RepOb K Z S H a o) : RepOb K (D :: Z) S H a o := by
  cases o with
  | lst ws => obtain ⟨vs, h1, h2⟩ := h; exact ⟨vs, h1, h2.more hD⟩
  | dK ws => obtain ⟨vs, h1, h3, h2⟩ := h; exact ⟨vs, h1, h3, h2.more hD⟩
  | dT ws => obtain ⟨vs, h1, h3, h2⟩ := h; exact ⟨vs, h1, h3, h2.more hD⟩
  | ins q fs => obtain ⟨vs, h1, h3, h2⟩ := h; exact ⟨vs, h1, h3, h2.more hD⟩
  | dL C dx fs => obtain ⟨vs, h1, h3, h2⟩ := h; exact ⟨vs, h1, h3, h2.more hD⟩
theorem StOk.newD {D : Addr} (hD : H D = none) {o : HO} (ok : StOk K Z S H) (po : plainO o = true := by rfl) : StOk K (D :: Z) S (upd H D o) where
  ob := fun a u e => ((ok.ob a u e).more hD).fr (Fr.new hD (plainO.nt po)) (upd_ne (fun z => by subst z; rw [ok.free hD] at e; cases e))
  hid := fun a z => by
    rcases List.mem_cons.mp z with q | z
    · subst q; exact ⟨ok.free hD, _, upd_same, po⟩
    · obtain ⟨n, u, e, p⟩ := ok.hid a z
      exact ⟨n, u, by rw [upd_ne (ne_of_none e hD)]; exact e, p⟩
  tab := fun p m => tab_new (ok.tab p m) hD
/-! what was hidden becomes an owned list -/
mutual
theorem Rep.toOwn {D : Addr} {l : List V} {o : Ob} {Z' : List Addr} (hD : D ∈ Z) (hl : H D = some (.lst l)) (hz : ∀ a, a ∈ Z' → a ∈ Z) : ∀ {w : Cv} {v : V}, Rep K Z S H w v → Rep K Z' (S.set D o) H w v
  | _, _, .non => .non
  | _, _, .bl b => .bl b
  | _, _, .int i => .int i
  | _, _, .str x => .str x
  | _, _, .tup h n r => .tup h (by
      rw [Sto.set_ne]
      · exact n
      · intro e
        subst e
        rcases h with h | ⟨w, o, h⟩ <;> (rw [hl] at h; cases h)) (Reps.toOwn hD hl hz r)
  | _, _, .tupK h r => .tupK h (Reps.toOwn hD hl hz r)
  | _, _, .lst h n z r => .lst h (by rw [Sto.set_ne (fun q => z (by rw [q]; exact hD))]; exact n) (fun q => z (hz _ q)) (Reps.toOwn hD hl hz r)
  | _, _, .scr h n r => .scr h (by
      rw [Sto.set_ne]
      · exact n
      · intro e
        subst e
        rw [hl] at h; cases h) (Reps.toOwn hD hl hz r)
  | _, _, .tupF h n r d => .tupF h (by
      rw [Sto.set_ne]
      · exact n
      · intro e
        subst e
        rw [hl] at h; cases h) (Reps.toOwn hD hl hz r) d
  | _, _, .scrK h r => .scrK h (Reps.toOwn hD hl hz r)
  | _, _, .dK h n z e r => .dK h (by rw [Sto.set_ne (fun q => z (by rw [q]; exact hD))]; exact n) (fun q => z (hz _ q)) e (Reps.toOwn hD hl hz r)
  | _, _, .dT h n z e r => .dT h (by rw [Sto.set_ne (fun q => z (by rw [q]; exact hD))]; exact n) (fun q => z (hz _ q)) e (Reps.toOwn hD hl hz r)
  | _, _, .ins h n z cq e r => .ins h (by rw [Sto.set_ne (fun q => z (by rw [q]; exact hD))]; exact n) (fun q => z (hz _ q)) cq e (Reps.toOwn hD hl hz r)
  | _, _, .ref a => .ref a
  | _, _, .exc h n t o hd nd z e r => .exc h (by rw [Sto.set_ne (fun q => by subst q; rw [hl] at h; cases h)]; exact n) t o hd (by rw [Sto.set_ne (fun q => z (by rw [q]; exact hD))]; exact nd) (fun q => z (hz _ q)) e (Reps.toOwn hD hl hz r)
  | _, _, .excN h n t o => .excN h (by rw [Sto.set_ne (fun q => by subst q; rw [hl] at h; cases h)]; exact n) t o
  | _, _, .lam h n r => .lam h (by rw [Sto.set_ne (fun q => by subst q; rw [hl] at h; unfold LamX.CodeO at h; cases h)]; exact n) (Reps.toOwn hD hl hz r)
  | _, _, .cls h => .cls h
  | _, _, .opq v => .opq v
theorem Reps.toOwn {D : Addr} {l : List V} {o : Ob} {Z' : List Addr} (hD : D ∈ Z) (hl : H D = some (.lst l)) (hz : ∀ a, a ∈ Z' → a ∈ Z) : ∀ {ws : List Cv} {vs : List V}, Reps K Z S H ws vs → Reps K Z' (S.set D o) H ws vs
  | _, _, .nil => .nil
  | _, _, .cons a r => .cons (Rep.toOwn hD hl hz a) (Reps.toOwn hD hl hz r)
end
theorem RepOb.toOwn {D a : Addr} {l : List V} {o u : Ob} {Z' : List Addr} (hD : D ∈ Z) (hl : H D = some (.lst l)) (hz : ∀ a, a ∈ Z' → a ∈ Z) (h : RepOb K Z S H a u) : RepOb K Z' (S.set D o) H a u := by
  cases u with
  | lst ws => obtain ⟨vs, h1, h2⟩ := h; exact ⟨vs, h1, h2.toOwn hD hl hz⟩
  | dK ws => obtain ⟨vs, h1, h3, h2⟩ := h; exact ⟨vs, h1, h3, h2.toOwn hD hl hz⟩
  | dT ws => obtain ⟨vs, h1, h3, h2⟩ := h; exact ⟨vs, h1, h3, h2.toOwn hD hl hz⟩
  | ins q fs => obtain ⟨vs, h1, h3, h2⟩ := h; exact ⟨vs, h1, h3, h2.toOwn hD hl hz⟩
  | dL C dx fs => obtain ⟨vs, h1, h3, h2⟩ := h; exact ⟨vs, h1, h3, h2.toOwn hD hl hz⟩
theorem StOk.toOwn {D : Addr} {l : List V} {ws : List Cv} (nZ : D ∉ Z) (ok : StOk K (D :: Z) S H) (hl : H D = some (.lst l)) (r : Reps K (D :: Z) S H ws l) : StOk K Z (S.set D (.lst ws)) H where
  ob := fun a u e => by
    by_cases q : a = D
    · subst q
      rw [Sto.set_same] at e
      cases e
      exact ⟨l, hl, r.toOwn List.mem_cons_self hl fun _ z => List.mem_cons_of_mem _ z⟩
    · rw [Sto.set_ne q] at e
      exact (ok.ob a u e).toOwn List.mem_cons_self hl fun _ z => List.mem_cons_of_mem _ z
  hid := fun a z => by
    obtain ⟨n, u⟩ := ok.hid a (List.mem_cons_of_mem _ z)
    exact ⟨by rw [Sto.set_ne (fun q => nZ (by rw [← q]; exact z))]; exact n, u⟩
  tab := ok.tab
end
/-! ### the slots -/
abbrev Env := List (Option Cv)
def RepSt (K : Fg) (Z : List Addr) (S : Sto) (H : Hp) (σ : L2.St) (ws : CL.Env) : Prop := σ.length = ws.length ∧ ∀ (i : Nat) (w : Cv), ws[i]? = some (some w) → ∃ v, σ[i]? = some (some v) ∧ Rep K Z S H w v
theorem RepSt.fr {K : Fg} {Z : List Addr} {S S' : Sto} {H H' : Hp} {σ : L2.St} {ws : CL.Env} (h : RepSt K Z S H σ ws) (f : Fr S H S' H') : RepSt K Z S' H' σ ws :=
  ⟨h.1, fun i w e => let ⟨v, h1, h2⟩ := h.2 i w e; ⟨v, h1, h2.fr f⟩⟩
theorem RepSt.set {K : Fg} {Z : List Addr} {S : Sto} {H : Hp} {σ : L2.St} {ws : CL.Env} {i : Nat} {w : Cv} {v : V} (h : RepSt K Z S H σ ws) (r : Rep K Z S H w v) : RepSt K Z S H (σ.set i (some v)) (ws.set i (some w)) := by
  refine ⟨by rw [List.length_set, List.length_set]; exact h.1, fun j u e => ?_⟩
  by_cases hj : i = j
  · subst hj
    have hl : i < ws.length := by
      have := (List.getElem?_eq_some_iff.mp e).1
      rwa [List.length_set] at this
    rw [List.getElem?_set_self hl] at e
    cases e
    exact ⟨v, by rw [List.getElem?_set_self (by rw [h.1]; exact hl)], r⟩
  · rw [List.getElem?_set_ne hj] at e
    obtain ⟨x, h1, h2⟩ := h.2 j u e
    exact ⟨x, by rw [List.getElem?_set_ne hj]; exact h1, h2⟩
/-! ### clean readings -/
abbrev CE := CL.Env → Sto → (Cv → Sto → Prop) → Prop
abbrev CT := CL.Env → Sto → (Bool → Sto → Prop) → Prop
abbrev CA := CL.Env → Sto → (List Cv → Sto → Prop) → Prop
def MonE (t : CE) : Prop := ∀ ws S (Q Q' : Cv → Sto → Prop), (∀ w S', Q w S' → Q' w S') → t ws S Q → t ws S Q'
def MonT (t : CT) : Prop := ∀ ws S (Q Q' : Bool → Sto → Prop), (∀ w S', Q w S' → Q' w S') → t ws S Q → t ws S Q'
def MonA (t : CA) : Prop := ∀ ws S (Q Q' : List Cv → Sto → Prop), (∀ w S', Q w S' → Q' w S') → t ws S Q → t ws S Q'
def liftE (K : Fg) (t : CE) : TE := fun σ H Q => ∃ Z S ws, StOk K Z S H ∧ RepSt K Z S H σ ws ∧ t ws S fun w S' => ∀ v H', Fr S H S' H' → StOk K Z S' H' → Rep K Z S' H' w v → Q v H'
def liftT (K : Fg) (t : CT) : TT := fun σ H Q => ∃ Z S ws, StOk K Z S H ∧ RepSt K Z S H σ ws ∧ t ws S fun b S' => ∀ H', Fr S H S' H' → StOk K Z S' H' → Q b H'
def liftA (K : Fg) (t : CA) : TA := fun σ H Q => ∃ Z S ws, StOk K Z S H ∧ RepSt K Z S H σ ws ∧ t ws S fun us S' => ∀ vs H', Fr S H S' H' → StOk K Z S' H' → Reps K Z S' H' us vs → Q vs H'
structure SE (X : Cx) (e : Expr) (t : CE) : Prop where
  mono : MonE t
  ok : PE X e (liftE X.K t)
structure ST (X : Cx) (e : Expr) (t : CT) : Prop where
  mono : MonT t
  ok : PT X e (liftT X.K t)
structure SW (X : Cx) (e : Expr) (t : CT) : Prop where
  mono : MonT t
  ok : PW X e (liftT X.K t)
structure SA (X : Cx) (es : List Expr) (t : CA) : Prop where
  mono : MonA t
  ok : PA X es (liftA X.K t)
theorem _root_.L2.PE.imp {X : Cx} {e : Expr} {t t' : TE} (h : PE X e t) (f : ∀ σ H Q, t' σ H Q → t σ H Q) : PE X e t' := ⟨fun pins s σ H Q I q => h.run pins s σ H Q I (f σ H Q q)⟩
theorem _root_.L2.PT.imp {X : Cx} {e : Expr} {t t' : TT} (h : PT X e t) (f : ∀ σ H Q, t' σ H Q → t σ H Q) : PT X e t' := ⟨fun pins s σ H Q I q => h.run pins s σ H Q I (f σ H Q q)⟩
theorem _root_.L2.PW.imp {X : Cx} {e : Expr} {t t' : TT} (h : PW X e t) (f : ∀ σ H Q, t' σ H Q → t σ H Q) : PW X e t' := ⟨fun wh pins s σ H Q I q => h.run wh pins s σ H Q I (f σ H Q q)⟩
theorem _root_.L2.PA.imp {X : Cx} {es : List Expr} {t t' : TA} (h : PA X es t) (f : ∀ σ H Q, t' σ H Q → t σ H Q) : PA X es t' := ⟨fun pos pins s σ H Q I q => h.run pos pins s σ H Q I (f σ H Q q)⟩
theorem _root_.L2.PS.imp {X : Cx} {st : Stmt} {t t' : TS} (h : PS X st t) (f : ∀ D σ H, t' D σ H → t D σ H) : PS X st t' := ⟨fun pins s σ H D I q => h.run pins s σ H D I (f D σ H q)⟩
theorem _root_.L2.PSs.imp {X : Cx} {st : List Stmt} {t t' : TS} (h : PSs X st t) (f : ∀ D σ H, t' D σ H → t D σ H) : PSs X st t' := ⟨fun pins s σ H D I q => h.run pins s σ H D I (f D σ H q)⟩
section
variable {K : Fg} {Z : List Addr} {S : Sto} {H : Hp} {σ : L2.St} {ws : CL.Env}
theorem liftE_of {t : CE} {R : Cv → Sto → Prop} {Q : VK} (m : MonE t) (ok : StOk K Z S H) (re : RepSt K Z S H σ ws) (h : t ws S R)
    (f : ∀ w S' v H', Fr S H S' H' → StOk K Z S' H' → Rep K Z S' H' w v → R w S' → Q v H') : liftE K t σ H Q :=
  ⟨Z, S, ws, ok, re, m ws S _ _ (fun w S' r v H' a b c => f w S' v H' a b c r) h⟩
theorem liftT_of {t : CT} {R : Bool → Sto → Prop} {Q : Bool → Hp → Prop} (m : MonT t) (ok : StOk K Z S H) (re : RepSt K Z S H σ ws) (h : t ws S R)
    (f : ∀ b S' H', Fr S H S' H' → StOk K Z S' H' → R b S' → Q b H') : liftT K t σ H Q :=
  ⟨Z, S, ws, ok, re, m ws S _ _ (fun b S' r H' a c => f b S' H' a c r) h⟩
theorem liftA_of {t : CA} {R : List Cv → Sto → Prop} {Q : List V → Hp → Prop} (m : MonA t) (ok : StOk K Z S H) (re : RepSt K Z S H σ ws) (h : t ws S R)
    (f : ∀ us S' vs H', Fr S H S' H' → StOk K Z S' H' → Reps K Z S' H' us vs → R us S' → Q vs H') : liftA K t σ H Q :=
  ⟨Z, S, ws, ok, re, m ws S _ _ (fun us S' r vs H' a b c => f us S' vs H' a b c r) h⟩
end
/-! ### names, constants -/
def cVar (i : Nat) : CE := fun ws S Q => match ws[i]? with | some (some w) => Q w S | _ => False
def cC (w : Cv) : CE := fun _ S Q => Q w S
theorem s_var {X : Cx} {e : Expr} {i : Nat} (h : PE X e (tVar i)) : SE X e (cVar i) := by
  refine ⟨fun ws S Q Q' f h => ?_, h.imp fun σ H Q h => ?_⟩
  · unfold cVar at h ⊢
    split at h <;> first | exact f _ _ h | exact h
  · obtain ⟨Z, S, ws, ok, re, h⟩ := h
    unfold cVar at h
    split at h
    · rename_i w e1
      obtain ⟨v, h1, h2⟩ := re.2 i w e1
      exact ⟨v, h1, h v H (Fr.refl S H) ok h2⟩
    · exact h.elim
theorem s_const {X : Cx} {e : Expr} {v : V} {w : Cv} (h : PE X e (tC v)) (r : ∀ K Z S H, Rep K Z S H w v) : SE X e (cC w) := by
  refine ⟨fun ws S Q Q' f h => f _ _ h, h.imp fun σ H Q h => ?_⟩
  obtain ⟨Z, S, ws, ok, re, h⟩ := h
  exact h v H (Fr.refl S H) ok (r _ _ _ _)
section
variable {X : Cx}
theorem s_int {i j pos} : SE X (.Constant (.int i) j pos) (cC (.int i)) := s_const pe_int fun _ _ _ _ => .int i
theorem s_bl {b j pos} : SE X (.Constant (.bool b) j pos) (cC (.bl b)) := s_const pe_bl fun _ _ _ _ => .bl b
theorem s_str {x j pos} : SE X (.Constant (.str x) j pos) (cC (.str x)) := s_const pe_str fun _ _ _ _ => .str x
theorem sv (i : Nat) {x : Str} {pos : Pos} (hN : X.N[i]? = some x := by rfl) (hv : Vis X.env.scope x := by first | exact Or.inl rfl | exact Or.inr (Or.inl rfl) | exact Or.inr (Or.inr rfl))
    (hd : (x == ("__debug__" : Str)) = false := by decide) (hcd : (x == ("__classdict__" : Str)) = false := by decide) : SE X (.Name x pos) (cVar i) := s_var (pe_var hN hv hd hcd)
theorem s_gstr {x z : Str} {t : Tok} {pos : Pos} (hg : Gl X x) (hm : X.mg x = some (.str z t)) (hd : (x == ("__debug__" : Str)) = false := by decide) : SE X (.Name x pos) (cC (.str z)) := s_const (pe_glob (v := .str z) hg hm ⟨t, rfl⟩ hd) fun _ _ _ _ => .str z
end
/-! ### operations on two values -/
abbrev C2 := Cv → Cv → Sto → (Cv → Sto → Prop) → Prop
def Mon2 (r : C2) : Prop := ∀ a b S (Q Q' : Cv → Sto → Prop), (∀ w S', Q w S' → Q' w S') → r a b S Q → r a b S Q'
def lift2 (K : Fg) (r : C2) : R2 := fun x y H Q => ∃ Z S a b, StOk K Z S H ∧ Rep K Z S H a x ∧ Rep K Z S H b y ∧ r a b S fun w S' => ∀ v H', Fr S H S' H' → StOk K Z S' H' → Rep K Z S' H' w v → Q v H'
structure S2 (X : Cx) (f : Value → Value → Sem Value) (r : C2) : Prop where
  mono : Mon2 r
  ok : OpR X f (lift2 X.K r)
def cOp (r : C2) (ta tb : CE) : CE := fun ws S Q => ta ws S fun a S1 => tb ws S1 fun b S2 => r a b S2 Q
section
variable {X : Cx} {a b : Expr} {ta tb : CE} {pos : Pos}
theorem cOp_mono {r : C2} (hr : Mon2 r) (ha : MonE ta) (hb : MonE tb) : MonE (cOp r ta tb) := fun ws S Q Q' f h =>
  ha _ _ _ _ (fun x S1 h1 => hb _ _ _ _ (fun y S2 h2 => hr _ _ _ _ _ f h2) h1) h
theorem cOp_ok {K : Fg} {r : C2} (hr : Mon2 r) (ha : MonE ta) (hb : MonE tb) {σ : L2.St} {H : Hp} {Q : VK} (h : liftE K (cOp r ta tb) σ H Q) : tOp (lift2 K r) (liftE K ta) (liftE K tb) σ H Q := by
  obtain ⟨Z, S, ws, ok, re, h⟩ := h
  refine liftE_of ha ok re h fun x S1 v1 H1 f1 ok1 r1 h1 => ?_
  refine liftE_of hb ok1 (re.fr f1) h1 fun y S2 v2 H2 f2 ok2 r2 h2 => ?_
  exact ⟨Z, S2, x, y, ok2, r1.fr f2, r2, hr _ _ _ _ _ (fun w S' g v H' a b c => g v H' ((f1.trans f2).trans a) b c) h2⟩
theorem s_op {op : Operator} {r : C2} (ho : S2 X (binaryOp op) r) (ha : SE X a ta) (hb : SE X b tb) : SE X (.BinOp a op b pos) (cOp r ta tb) :=
  ⟨cOp_mono ho.mono ha.mono hb.mono, (pe_op ho.ok ha.ok hb.ok).imp fun _ _ _ h => cOp_ok ho.mono ha.mono hb.mono h⟩
theorem s_cmp {op : CmpOp} {r : C2} (ho : S2 X (compareOp op) r) (ha : SE X a ta) (hb : SE X b tb) (hm : behindInMarks op b = false := by first | exact nomark _ | rfl) : SE X (.Compare a [op] [b] pos) (cOp r ta tb) :=
  ⟨cOp_mono ho.mono ha.mono hb.mono, (pe_cmpR ho.ok ha.ok hb.ok hm).imp fun _ _ _ h => cOp_ok ho.mono ha.mono hb.mono h⟩
/-- a value that is a bool, as a test -/
def cB (t : CE) : CT := fun ws S Q => t ws S fun w S' => match w with | .bl b => Q b S' | _ => False
theorem cB_mono {t : CE} (h : MonE t) : MonT (cB t) := fun ws S Q Q' f h1 => h _ _ _ _ (fun w S' g => by
  cases w <;> first | exact f _ _ g | exact g) h1
theorem cB_ok {K : Fg} {t : CE} (m : MonE t) {σ : L2.St} {H : Hp} {Q : Bool → Hp → Prop} (h : liftT K (cB t) σ H Q) : liftE K t σ H fun x H' => ∃ k, x = .bl k ∧ Q k H' := by
  obtain ⟨Z, S, ws, ok, re, h⟩ := h
  refine liftE_of m ok re h fun w S1 v1 H1 f1 ok1 r1 h1 => ?_
  cases w with
  | bl c => cases r1; exact ⟨c, rfl, h1 H1 f1 ok1⟩
  | _ => exact h1.elim
theorem st_cmp {op : CmpOp} {r : C2} (ho : S2 X (compareOp op) r) (ha : SE X a ta) (hb : SE X b tb) (hm : behindInMarks op b = false := by first | exact nomark _ | rfl) : ST X (.Compare a [op] [b] pos) (cB (cOp r ta tb)) :=
  ⟨cB_mono (cOp_mono ho.mono ha.mono hb.mono), (pt_cmpR ho.ok ha.ok hb.ok hm).imp fun σ H Q h => by
    obtain ⟨Z, S, ws, ok, re, h⟩ := h
    refine cOp_ok ho.mono ha.mono hb.mono ?_
    exact cB_ok (cOp_mono ho.mono ha.mono hb.mono) ⟨Z, S, ws, ok, re, h⟩⟩
/-- any expression whose value is a bool, as a test -/
theorem st_val {e : Expr} {t : CE} (h : SE X e t) (he : ∀ whole, isTrue e X.env whole = (do let v ← whole; standAt e.pos; holding [v] (truthy v)) := by intro _; rfl) : ST X e (cB t) :=
  ⟨cB_mono h.mono, (pt_val h.ok he).imp fun _ _ _ q => cB_ok h.mono q⟩
end
/-! ### one value -/
abbrev C1 := Cv → Sto → (Cv → Sto → Prop) → Prop
def Mon1 (r : C1) : Prop := ∀ a S (Q Q' : Cv → Sto → Prop), (∀ w S', Q w S' → Q' w S') → r a S Q → r a S Q'
def cUn (r : C1) (ta : CE) : CE := fun ws S Q => ta ws S fun a S1 => r a S1 Q
def lift1 (K : Fg) (r : C1) : V → Hp → VK → Prop := fun x H Q => ∃ Z S a, StOk K Z S H ∧ Rep K Z S H a x ∧ r a S fun w S' => ∀ v H', Fr S H S' H' → StOk K Z S' H' → Rep K Z S' H' w v → Q v H'
structure S1 (X : Cx) (f : Value → Sem Value) (r : C1) : Prop where
  mono : Mon1 r
  ok : UnR X f (lift1 X.K r)
theorem s_un {X : Cx} {op : UnaryOp} {a : Expr} {ta : CE} {r : C1} {pos : Pos} (ho : S1 X (unaryOp op) r) (ha : SE X a ta) : SE X (.UnaryOp op a pos) (cUn r ta) := by
  refine ⟨fun ws S Q Q' f h => ha.mono _ _ _ _ (fun x S1 h1 => ho.mono _ _ _ _ f h1) h, (pe_un ho.ok ha.ok).imp fun σ H Q h => ?_⟩
  obtain ⟨Z, S, ws, ok, re, h⟩ := h
  refine liftE_of ha.mono ok re h fun x S1 v1 H1 f1 ok1 r1 h1 => ?_
  exact ⟨Z, S1, x, ok1, r1, ho.mono _ _ _ _ (fun w S' g v H' a b c => g v H' (f1.trans a) b c) h1⟩
/-! ### and, or, not, if-else -/
section
variable {X : Cx} {a b c : Expr} {ta tb : CE} {tA tB : CT} {pos : Pos} {rest : List Expr}
def cAnd (t u : CT) : CT := fun ws S Q => t ws S fun b S1 => if b = true then u ws S1 Q else Q false S1
def cNot (t : CT) : CT := fun ws S Q => t ws S fun b S1 => Q (!b) S1
theorem cAnd_mono {t u : CT} (ht : MonT t) (hu : MonT u) : MonT (cAnd t u) := fun ws S Q Q' f h => ht _ _ _ _ (fun b S1 h1 => by
  cases b with
  | true => exact hu _ _ _ _ f h1
  | false => exact f _ _ h1) h
theorem sw_and1 (ha : ST X a tA) : SW X (.BoolOp .And [a] pos) tA := ⟨ha.mono, pw_and1 ha.ok⟩
theorem sw_and (ha : ST X a tA) (hb : SW X (.BoolOp .And (b :: rest) pos) tB) : SW X (.BoolOp .And (a :: b :: rest) pos) (cAnd tA tB) := by
  refine ⟨cAnd_mono ha.mono hb.mono, (pw_and ha.ok hb.ok).imp fun σ H Q h => ?_⟩
  obtain ⟨Z, S, ws, ok, re, h⟩ := h
  refine liftT_of ha.mono ok re h fun k S1 H1 f1 ok1 h1 => ?_
  cases k with
  | true => exact liftT_of hb.mono ok1 (re.fr f1) h1 fun k2 S2 H2 f2 ok2 h2 => h2 H2 (f1.trans f2) ok2
  | false => exact h1 H1 f1 ok1
theorem SW.st (h : SW X a tA) : ST X a tA := ⟨h.mono, h.ok.pt⟩
theorem st_not (ha : ST X a tA) : ST X (.UnaryOp .Not a pos) (cNot tA) := by
  refine ⟨fun ws S Q Q' f h => ha.mono _ _ _ _ (fun b S1 h1 => f _ _ h1) h, (pt_not ha.ok).imp fun σ H Q h => ?_⟩
  obtain ⟨Z, S, ws, ok, re, h⟩ := h
  exact liftT_of ha.mono ok re h fun k S1 H1 f1 ok1 h1 => h1 H1 f1 ok1
/-- as values (bools) -/
def cAndV (ta tb : CE) : CE := fun ws S Q => ta ws S fun w S1 => match w with | .bl true => tb ws S1 Q | .bl false => Q (.bl false) S1 | _ => False
def cNotV (ta : CE) : CE := fun ws S Q => ta ws S fun w S1 => match w with | .bl b => Q (.bl (!b)) S1 | _ => False
theorem s_one {op} (h : SE X a ta) : SE X (.BoolOp op [a] pos) ta := ⟨h.mono, pe_one h.ok⟩
theorem s_and (ha : SE X a ta) (hb : SE X (.BoolOp .And (b :: rest) pos) tb) : SE X (.BoolOp .And (a :: b :: rest) pos) (cAndV ta tb) := by
  refine ⟨fun ws S Q Q' f h => ha.mono _ _ _ _ (fun w S1 h1 => ?_) h, (pe_and ha.ok hb.ok).imp fun σ H Q h => ?_⟩
  · cases w with
    | bl k => cases k with
      | true => exact hb.mono _ _ _ _ f h1
      | false => exact f _ _ h1
    | _ => exact h1
  · obtain ⟨Z, S, ws, ok, re, h⟩ := h
    refine liftE_of ha.mono ok re h fun w S1 v1 H1 f1 ok1 r1 h1 => ?_
    cases w with
    | bl k =>
      cases r1
      refine ⟨k, rfl, ?_⟩
      cases k with
      | true => exact liftE_of hb.mono ok1 (re.fr f1) h1 fun u S2 v2 H2 f2 ok2 r2 h2 => h2 v2 H2 (f1.trans f2) ok2 r2
      | false => exact h1 _ H1 f1 ok1 (.bl false)
    | _ => exact h1.elim
theorem s_not (ha : SE X a ta) : SE X (.UnaryOp .Not a pos) (cNotV ta) := by
  refine ⟨fun ws S Q Q' f h => ha.mono _ _ _ _ (fun w S1 h1 => ?_) h, (pe_not ha.ok).imp fun σ H Q h => ?_⟩
  · cases w with
    | bl k => exact f _ _ h1
    | _ => exact h1
  · obtain ⟨Z, S, ws, ok, re, h⟩ := h
    refine liftE_of ha.mono ok re h fun w S1 v1 H1 f1 ok1 r1 h1 => ?_
    cases w with
    | bl k => cases r1; exact ⟨k, rfl, h1 _ H1 f1 ok1 (.bl _)⟩
    | _ => exact h1.elim
def cIf (t : CT) (ta tb : CE) : CE := fun ws S Q => t ws S fun b S1 => if b = true then ta ws S1 Q else tb ws S1 Q
theorem s_ifExp (hc : ST X c tA) (ha : SE X a ta) (hb : SE X b tb) : SE X (.IfExp c a b pos) (cIf tA ta tb) := by
  refine ⟨fun ws S Q Q' f h => hc.mono _ _ _ _ (fun k S1 h1 => ?_) h, (pe_ifExp hc.ok ha.ok hb.ok).imp fun σ H Q h => ?_⟩
  · cases k with
    | true => exact ha.mono _ _ _ _ f h1
    | false => exact hb.mono _ _ _ _ f h1
  · obtain ⟨Z, S, ws, ok, re, h⟩ := h
    refine liftT_of hc.mono ok re h fun k S1 H1 f1 ok1 h1 => ?_
    cases k with
    | true => exact liftE_of ha.mono ok1 (re.fr f1) h1 fun u S2 v2 H2 f2 ok2 r2 h2 => h2 v2 H2 (f1.trans f2) ok2 r2
    | false => exact liftE_of hb.mono ok1 (re.fr f1) h1 fun u S2 v2 H2 f2 ok2 r2 h2 => h2 v2 H2 (f1.trans f2) ok2 r2
end
/-! ### argument lists, displays -/
def cNil : CA := fun _ S Q => Q [] S
def cCons (t : CE) (u : CA) : CA := fun ws S Q => t ws S fun w S1 => u ws S1 fun r S2 => Q (w :: r) S2
section
variable {X : Cx} {e : Expr} {es : List Expr} {t : CE} {u : CA} {pos : Pos}
theorem sa_nil : SA X [] cNil := by
  refine ⟨fun ws S Q Q' f h => f _ _ h, pa_nil.imp fun σ H Q h => ?_⟩
  obtain ⟨Z, S, ws, ok, re, h⟩ := h
  exact h [] H (Fr.refl S H) ok .nil
theorem sa_cons (he : SE X e t) (hr : SA X es u) (hs : starEach (e :: es) X.env = (false, eval e X.env) :: starEach es X.env := by rfl) : SA X (e :: es) (cCons t u) := by
  refine ⟨fun ws S Q Q' f h => he.mono _ _ _ _ (fun w S1 h1 => hr.mono _ _ _ _ (fun r S2 h2 => f _ _ h2) h1) h, (pa_cons he.ok hr.ok hs).imp fun σ H Q h => ?_⟩
  obtain ⟨Z, S, ws, ok, re, h⟩ := h
  refine liftE_of he.mono ok re h fun w S1 v1 H1 f1 ok1 r1 h1 => ?_
  refine liftA_of hr.mono ok1 (re.fr f1) h1 fun us S2 vs H2 f2 ok2 r2 h2 => ?_
  exact h2 (v1 :: vs) H2 (f1.trans f2) ok2 (.cons (r1.fr f2) r2)
def cTup (u : CA) : CE := fun ws S Q => u ws S fun r S1 => r.length ≤ sizeLine ∧ Q (.tup r) S1
/-- a list that nobody will write -/
def cLst (u : CA) : CE := fun ws S Q => u ws S fun r S1 => r.length ≤ sizeLine ∧ Q (.lst r) S1
/-- a list that is owned -/
def cLstO (u : CA) : CE := fun ws S Q => u ws S fun r S1 => r.length ≤ sizeLine ∧ ∀ p, S1 p = none → Q (.ref p) (S1.set p (.lst r))
theorem s_tup {k} (h : SA X es u) : SE X (.Tuple es k pos) (cTup u) := by
  refine ⟨fun ws S Q Q' f q => h.mono _ _ _ _ (fun r S1 h1 => ⟨h1.1, f _ _ h1.2⟩) q, (pe_tup h.ok).imp fun σ H Q q => ?_⟩
  obtain ⟨Z, S, ws, ok, re, q⟩ := q
  refine liftA_of h.mono ok re q fun us S1 vs H1 f1 ok1 r1 q1 => ?_
  refine ⟨by rw [← r1.length]; exact q1.1, fun p hp => q1.2 (.ref p) _ (f1.trans (Fr.new hp)) (ok1.new hp) (.tup (.inl upd_same) (ok1.free hp) (r1.fr (Fr.new hp)))⟩
theorem s_lst (h : SA X es u) : SE X (.List es pos) (cLst u) := by
  refine ⟨fun ws S Q Q' f q => h.mono _ _ _ _ (fun r S1 h1 => ⟨h1.1, f _ _ h1.2⟩) q, (pe_lst h.ok).imp fun σ H Q q => ?_⟩
  obtain ⟨Z, S, ws, ok, re, q⟩ := q
  refine liftA_of h.mono ok re q fun us S1 vs H1 f1 ok1 r1 q1 => ?_
  refine ⟨by rw [← r1.length]; exact q1.1, fun p hp => q1.2 (.ref p) _ (f1.trans (Fr.new hp)) (ok1.new hp) (.lst upd_same (ok1.free hp) (ok1.notZ hp) (r1.fr (Fr.new hp)))⟩
theorem s_lstO (h : SA X es u) : SE X (.List es pos) (cLstO u) := by
  refine ⟨fun ws S Q Q' f q => h.mono _ _ _ _ (fun r S1 h1 => ⟨h1.1, fun p hp => f _ _ (h1.2 p hp)⟩) q, (pe_lst h.ok).imp fun σ H Q q => ?_⟩
  obtain ⟨Z, S, ws, ok, re, q⟩ := q
  refine liftA_of h.mono ok re q fun us S1 vs H1 f1 ok1 r1 q1 => ?_
  refine ⟨by rw [← r1.length]; exact q1.1, fun p hp => q1.2 p (ok1.free hp) (.ref p) _ (f1.trans (Fr.own hp)) (ok1.own hp ⟨_, upd_same, r1.fr (Fr.own hp)⟩) (.ref p)⟩
end
end CL
/-! CL2: statements, targets, loops, comprehensions -/
namespace CL
open PySem PySem.Spec PyProof.Rows L2
variable [LamT]
/-! ### statements -/
/-- what is raised: of which classes it is, its fields -/
structure Ex where
  ts : List (Str × Bool)
  fs : List (Str × Cv)
/-- an error that stands so -/
def ExD (Z : List Addr) (S : Sto) (H : Hp) (fvs : List (Str × V)) : Option Addr → Prop
  | some d => H d = some (.xd fvs) ∧ S d = none ∧ d ∉ Z
  | none => fvs = []
def ExAt (K : Fg) (Z : List Addr) (S : Sto) (H : Hp) (x : Ex) (E : Value → Option Addr → Prop) : Prop :=
  ∀ (C : Addr) (d : Option Addr) (fvs : List (Str × V)), ExT K C x.ts (x.fs.map Prod.fst) → ExD Z S H fvs d → x.fs.map Prod.fst = fvs.map Prod.fst → Reps K Z S H (x.fs.map Prod.snd) (fvs.map Prod.snd) → E (.ref C) d
theorem ExAt.imp {K : Fg} {Z : List Addr} {S : Sto} {H : Hp} {x : Ex} {E E' : Value → Option Addr → Prop} (h : ExAt K Z S H x E) (f : ∀ c d, E c d → E' c d) : ExAt K Z S H x E' := fun C d fvs a b c e => f _ _ (h C d fvs a b c e)
/-- what X takes -/
def WofX (X : Cx) : WX := fun cls d σ H => ∀ u s', XE X (fun c' d' σ' H' => c' = cls ∧ d' = d ∧ σ' = σ ∧ H' = H) u s' → X.xe u s'
structure CEnds where
  nx : CL.Env → Sto → Prop
  rt : Cv → Sto → Prop
  bk : CL.Env → Sto → Prop := fun _ _ => False
  ct : CL.Env → Sto → Prop := fun _ _ => False
  ex : Ex → CL.Env → Sto → Prop := fun _ _ _ => False
abbrev CS := CEnds → CL.Env → Sto → Prop
structure CEnds.le (D D' : CEnds) : Prop where
  nx : ∀ ws S, D.nx ws S → D'.nx ws S
  rt : ∀ w S, D.rt w S → D'.rt w S
  bk : ∀ ws S, D.bk ws S → D'.bk ws S
  ct : ∀ ws S, D.ct ws S → D'.ct ws S
  ex : ∀ x ws S, D.ex x ws S → D'.ex x ws S
theorem CEnds.le.refl (D : CEnds) : D.le D := ⟨fun _ _ h => h, fun _ _ h => h, fun _ _ h => h, fun _ _ h => h, fun _ _ _ h => h⟩
def MonS (t : CS) : Prop := ∀ D D' ws S, CEnds.le D D' → t D ws S → t D' ws S
def liftD (K : Fg) (W : WX) (Z : List Addr) (S : Sto) (H : Hp) (D : Ends) : CEnds where
  nx := fun ws' S' => ∀ σ' H', Fr S H S' H' → StOk K Z S' H' → RepSt K Z S' H' σ' ws' → D.nx σ' H'
  rt := fun w S' => ∀ v H', Fr S H S' H' → StOk K Z S' H' → Rep K Z S' H' w v → D.rt v H'
  bk := fun ws' S' => ∀ σ' H', Fr S H S' H' → StOk K Z S' H' → RepSt K Z S' H' σ' ws' → D.bk σ' H'
  ct := fun ws' S' => ∀ σ' H', Fr S H S' H' → StOk K Z S' H' → RepSt K Z S' H' σ' ws' → D.ct σ' H'
  ex := fun x ws' S' => ∀ σ' H', Fr S H S' H' → StOk K Z S' H' → RepSt K Z S' H' σ' ws' → ExAt K Z S' H' x fun c d => W c d σ' H'
theorem liftD_fr {K : Fg} {W : WX} {Z : List Addr} {S S1 : Sto} {H H1 : Hp} {D : Ends} (f : Fr S H S1 H1) : (liftD K W Z S H D).le (liftD K W Z S1 H1 D) :=
  ⟨fun _ _ h σ' H' a b c => h σ' H' (f.trans a) b c, fun _ _ h σ' H' a b c => h σ' H' (f.trans a) b c, fun _ _ h σ' H' a b c => h σ' H' (f.trans a) b c, fun _ _ h σ' H' a b c => h σ' H' (f.trans a) b c, fun _ _ _ h σ' H' a b c => h σ' H' (f.trans a) b c⟩
def liftS (K : Fg) (W : WX) (t : CS) : TS := fun D σ H => ∃ Z S ws, StOk K Z S H ∧ RepSt K Z S H σ ws ∧ t (liftD K W Z S H D) ws S
structure SS (X : Cx) (st : Stmt) (t : CS) : Prop where
  mono : MonS t
  ok : PS X st (liftS X.K (WofX X) t)
structure SSs (X : Cx) (st : List Stmt) (t : CS) : Prop where
  mono : MonS t
  ok : PSs X st (liftS X.K (WofX X) t)
def cNext : CS := fun D ws S => D.nx ws S
def cSeq (t u : CS) : CS := fun D ws S => t { D with nx := u D } ws S
theorem cSeq_mono {t u : CS} (ht : MonS t) (hu : MonS u) : MonS (cSeq t u) := fun D D' ws S l h =>
  ht { D with nx := u D } { D' with nx := u D' } ws S ⟨fun ws' S' q => hu _ _ _ _ l q, l.rt, l.bk, l.ct, l.ex⟩ h
section
variable {X : Cx} {st : Stmt} {rest : List Stmt} {t u : CS} {e : Expr} {te : CE} {tc : CT} {pos : Pos}
theorem ss_nil : SSs X [] cNext := ⟨fun D D' ws S l h => l.nx _ _ h, pss_nil.imp fun D σ H h => by
  obtain ⟨Z, S, ws, ok, re, h⟩ := h
  exact h σ H (Fr.refl S H) ok re⟩
theorem ss_cons (h1 : SS X st t) (h2 : SSs X rest u) : SSs X (st :: rest) (cSeq t u) := ⟨cSeq_mono h1.mono h2.mono, (pss_cons h1.ok h2.ok).imp fun D σ H h => by
  obtain ⟨Z, S, ws, ok, re, h⟩ := h
  refine ⟨Z, S, ws, ok, re, h1.mono { liftD X.K (WofX X) Z S H D with nx := u (liftD X.K (WofX X) Z S H D) } _ _ _ ⟨fun ws' S' q σ' H' f ok' re' => ⟨Z, S', ws', ok', re', h2.mono _ _ _ _ (liftD_fr f) q⟩, fun _ _ q => q, fun _ _ q => q, fun _ _ q => q, fun _ _ _ q => q⟩ h⟩⟩
def cDrop (te : CE) : CS := fun D ws S => te ws S fun _ S1 => D.nx ws S1
theorem ss_expr (he : SE X e te) (hs : swapsWith e none pos.line X.env = pure false := by rfl) : SS X (.Expr e pos) (cDrop te) :=
  ⟨fun D D' ws S l h => he.mono _ _ _ _ (fun _ S1 q => l.nx _ _ q) h, (ps_expr he.ok hs).imp fun D σ H h => by
    obtain ⟨Z, S, ws, ok, re, h⟩ := h
    exact liftE_of he.mono ok re h fun w S1 v H1 f1 ok1 r1 h1 => h1 σ H1 f1 ok1 (re.fr f1)⟩
def cRet (te : CE) : CS := fun D ws S => te ws S D.rt
theorem ss_ret (he : SE X e te) : SS X (.Return (some e) pos) (cRet te) :=
  ⟨fun D D' ws S l h => he.mono _ _ _ _ l.rt h, (ps_ret he.ok).imp fun D σ H h => by
    obtain ⟨Z, S, ws, ok, re, h⟩ := h
    exact liftE_of he.mono ok re h fun w S1 v H1 f1 ok1 r1 h1 => h1 v H1 f1 ok1 r1⟩
def cIfS (c : CT) (t u : CS) : CS := fun D ws S => c ws S fun b S1 => if b = true then t D ws S1 else u D ws S1
theorem ss_if {c : Expr} {a b : List Stmt} (hc : ST X c tc) (ha : SSs X a t) (hb : SSs X b u) : SS X (.If c a b pos) (cIfS tc t u) :=
  ⟨fun D D' ws S l h => hc.mono _ _ _ _ (fun k S1 q => by
    cases k with
    | true => exact ha.mono _ _ _ _ l q
    | false => exact hb.mono _ _ _ _ l q) h, (ps_if hc.ok ha.ok hb.ok).imp fun D σ H h => by
    obtain ⟨Z, S, ws, ok, re, h⟩ := h
    refine liftT_of hc.mono ok re h fun k S1 H1 f1 ok1 h1 => ?_
    cases k with
    | true => exact ⟨Z, S1, ws, ok1, re.fr f1, ha.mono _ _ _ _ (liftD_fr f1) h1⟩
    | false => exact ⟨Z, S1, ws, ok1, re.fr f1, hb.mono _ _ _ _ (liftD_fr f1) h1⟩⟩
end
/-! ### targets -/
abbrev CG := Cv → CL.Env → Sto → (CL.Env → Sto → Prop) → Prop
abbrev CGs := List Cv → CL.Env → Sto → (CL.Env → Sto → Prop) → Prop
def Out (is : List Nat) (σ σ' : L2.St) : Prop := σ'.length = σ.length ∧ ∀ j, j ∉ is → σ'[j]? = σ[j]?
theorem Out.refl (is : List Nat) (σ : L2.St) : Out is σ σ := ⟨rfl, fun _ _ => rfl⟩
theorem wipe_get : ∀ (τ : L2.St) (l : List Nat) (j : Nat), (L2.wipe τ l)[j]? = if j ∈ l ∧ j < τ.length then some none else τ[j]?
  | τ, [], j => by simp [L2.wipe]
  | τ, v :: l, j => by
    show ((L2.wipe τ l).set v none)[j]? = _
    by_cases e : v = j
    · subst e
      by_cases hj : v < τ.length
      · rw [List.getElem?_set_self (by rw [wipe_length]; exact hj)]
        simp [hj]
      · rw [List.getElem?_eq_none (by rw [List.length_set, wipe_length]; omega)]
        simp [hj]
    · rw [List.getElem?_set_ne e, wipe_get τ l j]
      have e2 : ¬ j = v := fun q => e q.symm
      simp [e2]
theorem Out.wipe {vs is : List Nat} (hs : ∀ i ∈ is, i ∈ vs) {σ σ' : L2.St} (h : Out is σ σ') : L2.wipe σ' vs = L2.wipe σ vs := by
  apply List.ext_getElem?
  intro j
  rw [wipe_get, wipe_get, h.1]
  by_cases m : j ∈ vs
  · by_cases hj : j < σ.length
    · simp [m, hj]
    · have n1 : σ'[j]? = none := List.getElem?_eq_none (by rw [h.1]; omega)
      have n2 : σ[j]? = none := List.getElem?_eq_none (by omega)
      simp [n1, n2]
  · simp only [m, false_and, if_false]
    exact h.2 j fun q => m (hs j q)
theorem wipe_twice (σ : L2.St) (vs : List Nat) : L2.wipe (L2.wipe σ vs) vs = L2.wipe σ vs := by
  apply List.ext_getElem?
  intro j
  rw [wipe_get, wipe_get, wipe_length]
  split <;> simp_all
def MonG (g : CG) : Prop := ∀ w ws S (Q Q' : CL.Env → Sto → Prop), (∀ a b, Q a b → Q' a b) → g w ws S Q → g w ws S Q'
def MonGs (g : CGs) : Prop := ∀ w ws S (Q Q' : CL.Env → Sto → Prop), (∀ a b, Q a b → Q' a b) → g w ws S Q → g w ws S Q'
def liftG (K : Fg) (g : CG) (is : List Nat) : TG := fun v σ H Q => ∃ Z S ws w, StOk K Z S H ∧ RepSt K Z S H σ ws ∧ Rep K Z S H w v ∧ g w ws S fun ws' S' => ∀ σ' H', Fr S H S' H' → StOk K Z S' H' → RepSt K Z S' H' σ' ws' → Out is σ σ' → Q σ' H'
def liftGs (K : Fg) (g : CGs) (is : List Nat) : TGs := fun vs σ H Q => ∃ Z S ws us, StOk K Z S H ∧ RepSt K Z S H σ ws ∧ Reps K Z S H us vs ∧ g us ws S fun ws' S' => ∀ σ' H', Fr S H S' H' → StOk K Z S' H' → RepSt K Z S' H' σ' ws' → Out is σ σ' → Q σ' H'
structure SG (X : Cx) (tg : Expr) (g : CG) (is : List Nat) : Prop where
  mono : MonG g
  ok : PG X tg (liftG X.K g is)
structure SGs (X : Cx) (tg : List Expr) (g : CGs) (is : List Nat) : Prop where
  mono : MonGs g
  ok : PGs X tg (liftGs X.K g is)
theorem _root_.L2.PG.imp {X : Cx} {tg : Expr} {t t' : TG} (h : PG X tg t) (f : ∀ v σ H Q, t' v σ H Q → t v σ H Q) : PG X tg t' := ⟨fun pins s σ H v u Q I r q => h.run pins s σ H v u Q I r (f v σ H Q q)⟩
theorem _root_.L2.PGs.imp {X : Cx} {tg : List Expr} {t t' : TGs} (h : PGs X tg t) (f : ∀ v σ H Q, t' v σ H Q → t v σ H Q) : PGs X tg t' := ⟨fun pins s σ H v u Q I r q => h.run pins s σ H v u Q I r (f v σ H Q q)⟩
def cgName (i : Nat) : CG := fun w ws S Q => Q (ws.set i (some w)) S
section
variable {X : Cx} {pos : Pos}
theorem sg_of {e : Expr} {i : Nat} (h : PG X e (gName i)) : SG X e (cgName i) [i] := ⟨fun w ws S Q Q' f h => f _ _ h, h.imp fun v σ H Q h => by
  obtain ⟨Z, S, ws, w, ok, re, r, h⟩ := h
  exact h _ H (Fr.refl S H) ok (re.set r) ⟨by rw [List.length_set], fun j hj => List.getElem?_set_ne (fun q => hj (by rw [q]; exact List.mem_singleton.mpr rfl))⟩⟩
/-- the i-th name as a target -/
theorem sg (i : Nat) {x : Str} {pos : Pos} (hN : X.N.Nodup) (hi : X.N[i]? = some x := by rfl) (hx : Loc X.env.scope x := by first | exact Or.inl rfl | exact Or.inr rfl)
    (hf : X.fn x = true ∨ X.env.scope.names.lookup x = some .local := by first | exact .inl rfl | exact .inr rfl) : SG X (.Name x pos) (cgName i) [i] := sg_of (pg_name hN hi hx hf)
def cgNil : CGs := fun us ws S Q => us = [] ∧ Q ws S
def cgCons (g : CG) (gs : CGs) : CGs := fun us ws S Q => match us with | [] => False | w :: r => g w ws S fun ws1 S1 => gs r ws1 S1 Q
theorem sgs_nil : SGs X [] cgNil [] := ⟨fun w ws S Q Q' f h => ⟨h.1, f _ _ h.2⟩, pgs_nil.imp fun v σ H Q h => by
  obtain ⟨Z, S, ws, w, ok, re, r, e, h⟩ := h
  subst e
  cases r
  exact ⟨rfl, h σ H (Fr.refl S H) ok re (Out.refl _ _)⟩⟩
theorem sgs_cons {e : Expr} {es : List Expr} {g : CG} {gs : CGs} {is js : List Nat} (h1 : SG X e g is) (h2 : SGs X es gs js) (hs : (assignEach (e :: es) X.env).map (·.2) = assign e X.env :: (assignEach es X.env).map (·.2) := by rfl) : SGs X (e :: es) (cgCons g gs) (is ++ js) := by
  refine ⟨fun us ws S Q Q' f h => ?_, (pgs_cons h1.ok h2.ok hs).imp fun vs σ H Q h => ?_⟩
  · cases us with
    | nil => exact h
    | cons w r => exact h1.mono _ _ _ _ _ (fun ws1 S1 q => h2.mono _ _ _ _ _ f q) h
  · obtain ⟨Z, S, ws, us, ok, re, r, h⟩ := h
    cases us with
    | nil => exact h.elim
    | cons w us =>
      cases r with
      | cons a r =>
        refine ⟨_, _, rfl, Z, S, ws, w, ok, re, a, h1.mono _ _ _ _ _ (fun ws1 S1 q σ1 H1 f1 ok1 re1 o1 => ?_) h⟩
        refine ⟨Z, S1, ws1, us, ok1, re1, r.fr f1, h2.mono _ _ _ _ _ (fun ws2 S2 q2 σ2 H2 f2 ok2 re2 o2 => ?_) q⟩
        exact q2 σ2 H2 (f1.trans f2) ok2 re2 ⟨o2.1.trans o1.1, fun j hj => (o2.2 j fun z => hj (List.mem_append_right _ z)).trans (o1.2 j fun z => hj (List.mem_append_left _ z))⟩
/-- a, b, .. = a tuple -/
def cgTup (n : Nat) (gs : CGs) : CG := fun w ws S Q => match w with | .tup us => us.length = n ∧ gs us ws S Q | _ => False
theorem sg_tup {es : List Expr} {k : Nat} {gs : CGs} {is : List Nat} {n : Nat} (hc : X.calm = true) (h : SGs X es gs is) (hn : (assignEach es X.env).length = n := by rfl) (hst : (assignEach es X.env).findIdx? (·.1) = none := by rfl) : SG X (.Tuple es k pos) (cgTup n gs) is := by
  refine ⟨fun w ws S Q Q' f q => ?_, (pg_tup hc h.ok hn hst).imp fun v σ H Q q => ?_⟩
  · cases w with
    | tup us => exact ⟨q.1, h.mono _ _ _ _ _ f q.2⟩
    | _ => exact q
  · obtain ⟨Z, S, ws, w, ok, re, r, q⟩ := q
    cases w with
    | tup us =>
      cases r with
      | tup hr n2 rr => exact ⟨_, _, rfl, .inl hr.rd, by rw [← rr.length]; exact q.1, Z, S, ws, us, ok, re, rr, q.2⟩
      | tupK hr rr => exact ⟨_, _, rfl, hr.2 H, by rw [← rr.length]; exact q.1, Z, S, ws, us, ok, re, rr, q.2⟩
    | _ => exact q.elim
def cAsg (te : CE) (g : CG) : CS := fun D ws S => te ws S fun w S1 => g w ws S1 D.nx
theorem cAsg_mono {te : CE} {g : CG} (he : MonE te) (hg : MonG g) : MonS (cAsg te g) := fun D D' ws S l h => he _ _ _ _ (fun w S1 q => hg _ _ _ _ _ l.nx q) h
theorem cAsg_ok {K : Fg} {te : CE} {g : CG} {is : List Nat} (he : MonE te) (hg : MonG g) {D : Ends} {σ : L2.St} {H : Hp} {W : WX} (h : liftS K W (cAsg te g) D σ H) : tAsg (liftE K te) (liftG K g is) D σ H := by
  obtain ⟨Z, S, ws, ok, re, h⟩ := h
  refine liftE_of he ok re h fun w S1 v H1 f1 ok1 r1 h1 => ?_
  exact ⟨Z, S1, ws, w, ok1, re.fr f1, r1, hg _ _ _ _ _ (fun ws' S' q σ' H' f2 ok2 re2 _ => q σ' H' (f1.trans f2) ok2 re2) h1⟩
theorem ss_asg {tg e : Expr} {te : CE} {g : CG} {is : List Nat} (he : SE X e te) (hg : SG X tg g is) (hs : swapsWithSole [tg] e pos.line X.env = pure false := by rfl) (hw : swappedStores [tg] e X.env = pure none := by rfl)
    (h1 : (assignEach [tg] X.env).map (·.2) = [assign tg X.env] := by rfl) : SS X (.Assign [tg] e pos) (cAsg te g) :=
  ⟨cAsg_mono he.mono hg.mono, (ps_asg he.ok hg.ok hs hw h1).imp fun D σ H h => cAsg_ok he.mono hg.mono h⟩
theorem cAsgN_ok {K : Fg} {te : CE} {i : Nat} (he : MonE te) {D : Ends} {σ : L2.St} {H : Hp} {W : WX} (h : liftS K W (cAsg te (cgName i)) D σ H) : tAsg (liftE K te) (gName i) D σ H := by
  obtain ⟨Z, S, ws, ok, re, h⟩ := h
  exact liftE_of he ok re h fun w S1 v H1 f1 ok1 r1 h1 => h1 _ H1 f1 ok1 ((re.fr f1).set r1)
/-- name = e -/
theorem ss_set (i : Nat) {x : Str} {e : Expr} {te : CE} {pos' : Pos} (hN : X.N.Nodup) (he : SE X e te) (hi : X.N[i]? = some x := by rfl) (hx : Loc X.env.scope x := by first | exact Or.inl rfl | exact Or.inr rfl)
    (hs : swapsWith e (some (.Name x pos')) pos.line X.env = pure false := by rfl) (hf : X.fn x = true ∨ X.env.scope.names.lookup x = some .local := by first | exact .inl rfl | exact .inr rfl) : SS X (.Assign [.Name x pos'] e pos) (cAsg te (cgName i)) :=
  ⟨cAsg_mono he.mono fun w ws S Q Q' f h => f _ _ h, (ps_set hN hi hx he.ok hs hf).imp fun D σ H h => cAsgN_ok he.mono h⟩
/-- name op= e, by values -/
structure SIp (X : Cx) (op : Operator) (r : C2) : Prop where
  mono : Mon2 r
  ok : PIp X op (lift2 X.K r)
def cAug (i : Nat) (te : CE) (r : C2) : CS := fun D ws S => match ws[i]? with | some (some x) => te ws S fun y S1 => r x y S1 fun z S2 => D.nx (ws.set i (some z)) S2 | _ => False
theorem ss_aug (i : Nat) {x : Str} {e : Expr} {te : CE} {op : Operator} {r : C2} {pos' : Pos} (hN : X.N.Nodup) (ho : SIp X op r) (he : SE X e te) (hi : X.N[i]? = some x := by rfl) (hx : Loc X.env.scope x := by first | exact Or.inl rfl | exact Or.inr rfl)
    (hf : X.fn x = true ∨ X.env.scope.names.lookup x = some .local := by first | exact .inl rfl | exact .inr rfl) : SS X (.AugAssign (.Name x pos') op e pos) (cAug i te r) := by
  refine ⟨fun D D' ws S l h => ?_, (ps_aug hN hi hx he.ok ho.ok hf).imp fun D σ H h => ?_⟩
  · unfold cAug at h ⊢
    split at h
    · exact he.mono _ _ _ _ (fun y S1 q => ho.mono _ _ _ _ _ (fun z S2 q2 => l.nx _ _ q2) q) h
    · exact h
  · obtain ⟨Z, S, ws, ok, re, h⟩ := h
    unfold cAug at h
    split at h
    · rename_i w e1
      obtain ⟨v, h1, h2⟩ := re.2 i w e1
      refine ⟨v, h1, liftE_of he.mono ok re h fun y S1 vy H1 f1 ok1 r1 q1 => ?_⟩
      refine ⟨Z, S1, w, y, ok1, h2.fr f1, r1, ho.mono _ _ _ _ _ (fun z S2 q2 vz H2 f2 ok2 r2 => ?_) q1⟩
      exact q2 _ H2 (f1.trans f2) ok2 ((re.fr (f1.trans f2)).set r2)
    · exact h.elim
end
/-! ### while -/
section
variable {X : Cx} {pos : Pos}
end
/-! ### what is walked -/
abbrev CI := CL.Env → Sto → (List Cv → (Sto → Prop) → Sto → Prop) → Prop
def MonI (t : CI) : Prop := ∀ ws S (Q Q' : List Cv → (Sto → Prop) → Sto → Prop), (∀ xs G S', Q xs G S' → Q' xs G S') → t ws S Q → t ws S Q'
/-- J yields the items xs, in every later state in which G stands -/
def WalkOk (K : Fg) (Z : List Addr) (J : It) (xs : List Cv) (G : Sto → Prop) (S0 : Sto) (H0 : Hp) : Prop :=
  ∀ Z' S H, (∀ a, a ∈ Z → a ∈ Z') → (∀ a, a ∈ Z' → a ∈ Z ∨ H0 a = none) → FrZ Z S0 H0 S H → StOk K Z' S H → G S → ∀ i, (i < xs.length → J.go i H ∧ ∀ x H', J.yld i H x H' → ∃ w, xs[i]? = some w ∧ Fr S H S H' ∧ StOk K Z' S H' ∧ Rep K Z' S H' w x) ∧ (xs.length ≤ i → J.stop i H)
def liftI (K : Fg) (t : CI) : TI := fun σ H R => ∃ Z S ws, StOk K Z S H ∧ RepSt K Z S H σ ws ∧ t ws S fun xs G S' => ∀ J H', Fr S H S' H' → StOk K Z S' H' → WalkOk K Z J xs G S' H' → R J H'
structure SI (X : Cx) (tg e : Expr) (t : CI) : Prop where
  mono : MonI t
  ok : PI X tg e (liftI X.K t)
theorem _root_.L2.PI.imp {X : Cx} {tg e : Expr} {t t' : TI} (h : PI X tg e t) (f : ∀ σ H R, t' σ H R → t σ H R) : PI X tg e t' := ⟨fun pins s σ H R I q => h.run pins s σ H R I (f σ H R q)⟩
/-! ### for -/
def forL (G : Sto → Prop) (g : CG) (tb : CS) (D : CEnds) : List Cv → CL.Env → Sto → Prop
  | [], ws, S => G S ∧ D.nx ws S
  | x :: r, ws, S => G S ∧ g x ws S fun ws1 S1 => tb { D with nx := fun ws2 S2 => forL G g tb D r ws2 S2, ct := fun ws2 S2 => forL G g tb D r ws2 S2, bk := D.nx } ws1 S1
theorem forL_mono {G : Sto → Prop} {g : CG} {tb : CS} (hg : MonG g) (hb : MonS tb) {D D' : CEnds} (l : D.le D') : ∀ xs ws S, forL G g tb D xs ws S → forL G g tb D' xs ws S
  | [], ws, S, h => ⟨h.1, l.nx _ _ h.2⟩
  | x :: r, ws, S, h => ⟨h.1, hg _ _ _ _ _ (fun ws1 S1 q => hb { D with nx := fun ws2 S2 => forL G g tb D r ws2 S2, ct := fun ws2 S2 => forL G g tb D r ws2 S2, bk := D.nx } _ _ _ ⟨fun ws2 S2 q2 => forL_mono hg hb l r ws2 S2 q2, l.rt, l.nx, fun ws2 S2 q2 => forL_mono hg hb l r ws2 S2 q2, l.ex⟩ q) h.2⟩
theorem forL_G {G : Sto → Prop} {g : CG} {tb : CS} {D : CEnds} : ∀ {xs : List Cv} {ws S}, forL G g tb D xs ws S → G S
  | [], _, _, h => h.1
  | _ :: _, _, _, h => h.1
def cFor (ti : CI) (g : CG) (tb : CS) : CS := fun D ws S => ti ws S fun xs G S1 => forL G g tb D xs ws S1
theorem drop_cons {α : Type} {xs : List α} {i : Nat} (h : i < xs.length) {w : α} (e : xs[i]? = some w) : xs.drop i = w :: xs.drop (i + 1) := by
  rw [List.drop_eq_getElem_cons h]
  congr 1
  rw [List.getElem?_eq_getElem h] at e
  exact Option.some.inj e
section
variable {X : Cx} {pos : Pos}
theorem ss_for {tg iter : Expr} {body : List Stmt} {ti : CI} {g : CG} {is : List Nat} {tb : CS} (hp : PassesOwn (model X.prog X.w) X.A X.env X.xe) (hc : X.calm = true) (hi : SI X tg iter ti) (hg : SG X tg g is) (hb : SSs X body tb)
    (hs : ∀ x, foldedSetIterable iter X.env x = pure x := by intro _; rfl) : SS X (.For tg iter body [] pos) (cFor ti g tb) := by
  refine ⟨fun D D' ws S l h => hi.mono _ _ _ _ (fun xs G S1 q => forL_mono hg.mono hb.mono l xs ws S1 q) h, (ps_for hp hc hi.ok hg.ok hb.ok hs).imp fun D σ H h => ?_⟩
  obtain ⟨Z, S, ws, ok, re, h⟩ := h
  refine ⟨Z, S, ws, ok, re, hi.mono _ _ _ _ (fun xs G S1 q J H1 f1 ok1 wk => ?_) h⟩
  refine ⟨fun i m σ' H' => m = xs.length - i ∧ i ≤ xs.length ∧ ∃ S' ws', Fr S1 H1 S' H' ∧ StOk X.K Z S' H' ∧ RepSt X.K Z S' H' σ' ws' ∧ forL G g tb (liftD X.K (WofX X) Z S H D) (xs.drop i) ws' S',
    ⟨xs.length, rfl, Nat.zero_le _, S1, ws, Fr.refl _ _, ok1, re.fr f1, q⟩, ?_⟩
  rintro i m σ2 H2 ⟨rfl, hl, S2, ws2, f2, ok2, re2, q2⟩
  obtain ⟨wgo, wstop⟩ := wk Z S2 H2 (fun _ z => z) (fun _ z => .inl z) (f2.z Z) ok2 (forL_G q2) i
  by_cases hlt : i < xs.length
  · obtain ⟨go, yl⟩ := wgo hlt
    refine .inr ⟨go, fun σ' H' => ∃ S' ws', Fr S1 H1 S' H' ∧ StOk X.K Z S' H' ∧ RepSt X.K Z S' H' σ' ws' ∧ forL G g tb (liftD X.K (WofX X) Z S H D) (xs.drop (i + 1)) ws' S',
      fun σ' H' h' => ⟨xs.length - (i + 1), by omega, rfl, hlt, h'⟩, fun x H3 hy => ?_⟩
    obtain ⟨w, ew, f3, ok3, r3⟩ := yl x H3 hy
    rw [drop_cons hlt ew] at q2
    refine ⟨Z, S2, ws2, w, ok3, re2.fr f3, r3, hg.mono _ _ _ _ _ (fun ws4 S4 q4 σ4 H4 f4 ok4 re4 o4 => ?_) q2.2⟩
    have fa : Fr S1 H1 S4 H4 := (f2.trans f3).trans f4
    refine ⟨Z, S4, ws4, ok4, re4, hb.mono _ _ _ _ ⟨?_, ?_, ?_, ?_, ?_⟩ q4⟩
    · exact fun ws5 S5 q5 σ5 H5 f5 ok5 re5 => ⟨S5, ws5, fa.trans f5, ok5, re5, q5⟩
    · exact fun w5 S5 q5 v5 H5 f5 ok5 r5 => q5 v5 H5 ((f1.trans fa).trans f5) ok5 r5
    · exact fun ws5 S5 q5 σ5 H5 f5 ok5 re5 => q5 σ5 H5 ((f1.trans fa).trans f5) ok5 re5
    · exact fun ws5 S5 q5 σ5 H5 f5 ok5 re5 => ⟨S5, ws5, fa.trans f5, ok5, re5, q5⟩
    · exact fun _ ws5 S5 q5 σ5 H5 f5 ok5 re5 => q5 σ5 H5 ((f1.trans fa).trans f5) ok5 re5
  · have e : i = xs.length := by omega
    refine .inl ⟨wstop (by omega), ?_⟩
    rw [e, List.drop_length] at q2
    exact q2.2 σ2 H2 (f1.trans f2) ok2 re2
end
/-! ### comprehensions -/
def cwipe (ws : CL.Env) : List Nat → CL.Env
  | [] => ws
  | v :: vs => (cwipe ws vs).set v none
theorem RepSt.wipe {K : Fg} {Z : List Addr} {S : Sto} {H : Hp} {σ : L2.St} {ws : CL.Env} (h : RepSt K Z S H σ ws) : ∀ vs, RepSt K Z S H (L2.wipe σ vs) (cwipe ws vs)
  | [] => h
  | v :: vs => by
    have ih := h.wipe vs
    refine ⟨by show ((L2.wipe σ vs).set v none).length = ((cwipe ws vs).set v none).length; rw [List.length_set, List.length_set]; exact ih.1, fun i w e => ?_⟩
    have e' : ((cwipe ws vs).set v none)[i]? = some (some w) := e
    by_cases hv : v = i
    · subst hv
      by_cases hl : v < (cwipe ws vs).length
      · rw [List.getElem?_set_self hl] at e'; cases e'
      · rw [List.getElem?_eq_none (by rw [List.length_set]; omega)] at e'; cases e'
    · rw [List.getElem?_set_ne hv] at e'
      obtain ⟨x, h1, h2⟩ := ih.2 i w e'
      refine ⟨x, ?_, h2⟩
      show ((L2.wipe σ vs).set v none)[i]? = _
      rw [List.getElem?_set_ne hv]; exact h1
def lcL (G : Sto → Prop) (g : CG) (tt : CT) (te : CE) (ws : CL.Env) (Q : List Cv → Sto → Prop) : List Cv → List Cv → Sto → Prop
  | [], acc, S => G S ∧ Q acc S
  | x :: r, acc, S => G S ∧ g x ws S fun ws2 S2 => tt ws2 S2 fun b S3 => if b = true then te ws2 S3 fun y S4 => acc.length < sizeLine ∧ lcL G g tt te ws Q r (acc ++ [y]) S4 else lcL G g tt te ws Q r acc S3
theorem lcL_mono {G : Sto → Prop} {g : CG} {tt : CT} {te : CE} (hg : MonG g) (ht : MonT tt) (he : MonE te) {ws : CL.Env} {Q Q' : List Cv → Sto → Prop} (f : ∀ a b, Q a b → Q' a b) : ∀ xs acc S, lcL G g tt te ws Q xs acc S → lcL G g tt te ws Q' xs acc S
  | [], acc, S, h => ⟨h.1, f _ _ h.2⟩
  | x :: r, acc, S, h => ⟨h.1, hg _ _ _ _ _ (fun ws2 S2 q => ht _ _ _ _ (fun b S3 q3 => by
      cases b with
      | true => exact he _ _ _ _ (fun y S4 q4 => ⟨q4.1, lcL_mono hg ht he f r _ _ q4.2⟩) q3
      | false => exact lcL_mono hg ht he f r _ _ q3) q) h.2⟩
theorem lcL_G {G : Sto → Prop} {g : CG} {tt : CT} {te : CE} {ws : CL.Env} {Q : List Cv → Sto → Prop} : ∀ {xs : List Cv} {acc S}, lcL G g tt te ws Q xs acc S → G S
  | [], _, _, h => h.1
  | _ :: _, _, _, h => h.1
/-- .. with what is wanted of the list -/
def cLcQ (ti : CI) (g : CG) (tt : CT) (te : CE) (vs : List Nat) (ws : CL.Env) (S : Sto) (Q : List Cv → Sto → Prop) : Prop := ti ws S fun xs G S1 => lcL G g tt te (cwipe ws vs) Q xs [] S1
def cLc (ti : CI) (g : CG) (tt : CT) (te : CE) (vs : List Nat) : CE := fun ws S Q => cLcQ ti g tt te vs ws S fun ys S2 => Q (.lst ys) S2
structure STs (X : Cx) (ifs : List Expr) (t : CT) : Prop where
  mono : MonT t
  ok : PTs X ifs (liftT X.K t)
def cYes : CT := fun _ S Q => Q true S
theorem _root_.L2.PTs.imp {X : Cx} {ifs : List Expr} {t t' : TT} (h : PTs X ifs t) (f : ∀ σ H Q, t' σ H Q → t σ H Q) : PTs X ifs t' := ⟨fun pins s σ H Q I q => h.run pins s σ H Q I (f σ H Q q)⟩
section
variable {X : Cx} {pos : Pos}
theorem sts_nil : STs X [] cYes := ⟨fun ws S Q Q' f h => f _ _ h, pts_nil.imp fun σ H Q h => by
  obtain ⟨Z, S, ws, ok, re, h⟩ := h
  exact h H (Fr.refl S H) ok⟩
theorem sts_one {c : Expr} {t : CT} (h : ST X c t) : STs X [c] t := ⟨h.mono, pts_one h.ok⟩
/-- the heart: from the clean reading to the hand layer's -/
theorem lc_ok {K : Fg} {ti : CI} {g : CG} {is : List Nat} {tt : CT} {te : CE} {vs : List Nat} (hi : MonI ti) (hg : MonG g) (ht : MonT tt) (he : MonE te) (hsub : ∀ i ∈ is, i ∈ vs) {Z : List Addr} {S : Sto} {H : Hp} {σ : L2.St} {ws : CL.Env} {Q : VK} {R : List Cv → Sto → Prop}
    (ok : StOk K Z S H) (re : RepSt K Z S H σ ws) (h : cLcQ ti g tt te vs ws S R)
    (fin : ∀ ys S' D vs' H', Fr S H S' H' → StOk K (D :: Z) S' H' → Emp H D → H' D = some (.lst vs') → Reps K (D :: Z) S' H' ys vs' → R ys S' → Q (.ref D) H') : tLc (liftI K ti) (liftG K g is) (liftT K tt) (liftE K te) vs σ H Q := by
  refine ⟨Z, S, ws, ok, re, hi _ _ _ _ (fun xs G S1 q J H1 f1 ok1 wk => ?_) h⟩
  intro D hD
  have hD0 : Emp H D := f1.dom D (Emp.of hD)
  refine ⟨fun i m H' => m = xs.length - i ∧ i ≤ xs.length ∧ ∃ S' acc vs', Fr S1 H1 S' H' ∧ StOk K (D :: Z) S' H' ∧ H' D = some (.lst vs') ∧ Reps K (D :: Z) S' H' acc vs' ∧ lcL G g tt te (cwipe ws vs) R (xs.drop i) acc S', ⟨xs.length, rfl, Nat.zero_le _, S1, [], [], Fr.new hD, ok1.newD hD, upd_same, .nil, q⟩, ?_⟩
  rintro i m H2 ⟨rfl, hl, S2, acc, vs2, f2, ok2, hD2, ra, q2⟩
  obtain ⟨wgo, wstop⟩ := wk (D :: Z) S2 H2 (fun _ z => List.mem_cons_of_mem _ z) (fun a z => (List.mem_cons.mp z).elim (fun e => .inr (by rw [e]; exact hD)) .inl) (f2.z Z) ok2 (lcL_G q2) i
  by_cases hlt : i < xs.length
  · obtain ⟨go, yl⟩ := wgo hlt
    refine .inr ⟨go, fun H' => ∃ S' acc vs', Fr S1 H1 S' H' ∧ StOk K (D :: Z) S' H' ∧ H' D = some (.lst vs') ∧ Reps K (D :: Z) S' H' acc vs' ∧ lcL G g tt te (cwipe ws vs) R (xs.drop (i + 1)) acc S', fun H' h' => ⟨xs.length - (i + 1), by omega, rfl, hlt, h'⟩, fun x H3 hy => ?_⟩
    obtain ⟨w, ew, f3, ok3, r3⟩ := yl x H3 hy
    rw [drop_cons hlt ew] at q2
    have re3 : RepSt K (D :: Z) S2 H3 (L2.wipe σ vs) (cwipe ws vs) := by
      refine RepSt.wipe ?_ vs
      refine ⟨re.1, fun j u e => ?_⟩
      obtain ⟨v, h1, h2⟩ := re.2 j u e
      exact ⟨v, h1, (((h2.fr f1).more hD).fr f2).fr f3⟩
    have nD2 : S2 D = none := (ok2.hid D List.mem_cons_self).1
    have hD3 := (f3.keep D _ hD2 nD2).1
    have ra3 := ra.fr f3
    refine ⟨D :: Z, S2, cwipe ws vs, w, ok3, re3, r3, hg _ _ _ _ _ (fun ws4 S4 q4 σ4 H4 f4 ok4 re4 o4 => ?_) q2.2⟩
    refine ⟨(o4.wipe hsub).trans (wipe_twice σ vs), ?_⟩
    refine liftT_of ht ok4 re4 q4 fun b S5 H5 f5 ok5 q5 => ?_
    cases b with
    | true =>
      simp only [if_true] at q5 ⊢
      refine liftE_of he ok5 (re4.fr f5) q5 fun y S6 v6 H6 f6 ok6 r6 q6 => ?_
      have n4 := (f4.keep D _ hD3 nD2)
      have n5 := f5.keep D _ n4.1 n4.2
      have n6 := f6.keep D _ n5.1 n5.2
      have ra6 := ((ra3.fr f4).fr f5).fr f6
      refine ⟨vs2, n6.1, by rw [← ra.length]; exact q6.1, S6, acc ++ [y], vs2 ++ [v6], ?_, ok6.chg List.mem_cons_self n6.1, upd_same, (ra6.app (.one r6)).hid List.mem_cons_self n6.1, q6.2⟩
      have fa : Fr S1 H1 S6 H6 := (((f2.trans f3).trans f4).trans f5).trans f6
      exact ⟨fun a o e n nt => by
        have na : a ≠ D := ne_of_none e hD
        rw [upd_ne na]
        exact fa.keep a o e n nt, fun a q => fa.dom a (dom_upd (by rfl) a q)⟩
    | false =>
      simp only [Bool.false_eq_true, if_false] at q5 ⊢
      have n4 := (f4.keep D _ hD3 nD2)
      have n5 := f5.keep D _ n4.1 n4.2
      exact ⟨S5, acc, vs2, ((f2.trans f3).trans f4).trans f5, ok5, n5.1, (ra3.fr f4).fr f5, q5⟩
  · have e : i = xs.length := by omega
    refine .inl ⟨wstop (by omega), ?_⟩
    rw [e, List.drop_length] at q2
    exact fin acc S2 D vs2 H2 (f1.trans f2) ok2 hD0 hD2 ra q2.2
end
end CL
/-! CL3: comprehensions as expressions, sources of loops, calls, a def's body -/
namespace CL
open PySem PySem.Spec PyProof.Rows L2
variable [LamT]
/-! ### comprehensions -/
section
variable {X : Cx} {pos : Pos}
theorem cLcQ_mono {ti : CI} {g : CG} {tt : CT} {te : CE} {vs : List Nat} (hi : MonI ti) (hg : MonG g) (ht : MonT tt) (he : MonE te) {ws : CL.Env} {S : Sto} {Q Q' : List Cv → Sto → Prop} (f : ∀ a b, Q a b → Q' a b) (h : cLcQ ti g tt te vs ws S Q) : cLcQ ti g tt te vs ws S Q' :=
  hi _ _ _ _ (fun xs G S1 q => lcL_mono hg ht he f xs [] S1 q) h
theorem lc_frz {K : Fg} {ti : CI} {g : CG} {is : List Nat} {tt : CT} {te : CE} {vs : List Nat} (hi : MonI ti) (hg : MonG g) (ht : MonT tt) (he : MonE te) (hsub : ∀ i ∈ is, i ∈ vs) {σ : L2.St} {H : Hp} {Q : VK} (h : liftE K (cLc ti g tt te vs) σ H Q) : tLc (liftI K ti) (liftG K g is) (liftT K tt) (liftE K te) vs σ H Q := by
  obtain ⟨Z, S, ws, ok, re, h⟩ := h
  refine lc_ok hi hg ht he hsub ok re h fun ys S' D vs' H' f ok' hD0 hD r q => ?_
  exact q (.ref D) H' f (ok'.sub fun _ z => List.mem_cons_of_mem _ z) (.lst hD (ok'.hid D List.mem_cons_self).1 (ok.notZE hD0) (r.sub fun _ z => List.mem_cons_of_mem _ z))
variable {elt tg iter : Expr} {ifs : List Expr} {scope : Scope} {own : List (Str × Nat)} {ti : CI} {g : CG} {is : List Nat} {tt : CT} {te : CE}
theorem s_lc (hc : X.calm = true) (hN : X.N.Nodup) (hi : SI X tg iter ti) (ok : BlkOk X.N X.env.scope scope own)
    (hg : ∀ (s : Shared) (H : Hp) (C : Addr) (cl : List (Str × Addr)) (fp : List Addr), SG (X.blk s H scope (compEnvC scope cl C X.env) fp) tg g is)
    (ht : ∀ (s : Shared) (H : Hp) (C : Addr) (cl : List (Str × Addr)) (fp : List Addr), STs (X.blk s H scope (compEnvC scope cl C X.env) fp) ifs tt)
    (he : ∀ (s : Shared) (H : Hp) (C : Addr) (cl : List (Str × Addr)) (fp : List Addr), SE (X.blk s H scope (compEnvC scope cl C X.env) fp) elt te)
    (hsub : ∀ i ∈ is, i ∈ own.map (·.2) := by decide) (hs : ∀ x, foldedSetIterable iter X.env x = pure x := by intro _; rfl) : SE X (.ListComp elt [⟨tg, iter, ifs, 0⟩] scope pos) (cLc ti g tt te (own.map (·.2))) := by
  have mg : MonG g := (hg X.s_0 X.H_0 0 [] []).mono
  have mt : MonT tt := (ht X.s_0 X.H_0 0 [] []).mono
  have me : MonE te := (he X.s_0 X.H_0 0 [] []).mono
  exact ⟨fun ws S Q Q' f h => cLcQ_mono hi.mono mg mt me (fun ys S2 q => f _ _ q) h,
    (pe_lc hc hN hi.ok ok (fun s H C cl fp => (hg s H C cl fp).ok) (fun s H C cl fp => (ht s H C cl fp).ok) (fun s H C cl fp => (he s H C cl fp).ok) hs).imp fun σ H Q h => lc_frz hi.mono mg mt me hsub h⟩
variable {py spos : Pos}
theorem ss_setLc (i : Nat) {y : Str} (hc : X.calm = true) (hN : X.N.Nodup) (hi : SI X tg iter ti) (ok : BlkOk X.N X.env.scope scope own)
    (hg : ∀ (s : Shared) (H : Hp) (C : Addr) (cl : List (Str × Addr)) (fp : List Addr), SG (X.blk s H scope (compEnvC scope cl C X.env) fp) tg g is)
    (ht : ∀ (s : Shared) (H : Hp) (C : Addr) (cl : List (Str × Addr)) (fp : List Addr), STs (X.blk s H scope (compEnvC scope cl C X.env) fp) ifs tt)
    (he : ∀ (s : Shared) (H : Hp) (C : Addr) (cl : List (Str × Addr)) (fp : List Addr), SE (X.blk s H scope (compEnvC scope cl C X.env) fp) elt te)
    (hy : X.N[i]? = some y := by rfl) (hyl : X.env.scope.names.lookup y = some .local := by rfl) (hsw : swapsWith (.ListComp elt [⟨tg, iter, ifs, 0⟩] scope pos) (some (.Name y py)) spos.line X.env = pure true := by exact sw_true rfl rfl rfl (by decide +kernel))
    (hsub : ∀ i ∈ is, i ∈ own.map (·.2) := by decide) (hs : ∀ x, foldedSetIterable iter X.env x = pure x := by intro _; rfl) : SS X (.Assign [.Name y py] (.ListComp elt [⟨tg, iter, ifs, 0⟩] scope pos) spos) (cAsg (cLc ti g tt te (own.map (·.2))) (cgName i)) := by
  have mg : MonG g := (hg X.s_0 X.H_0 0 [] []).mono
  have mt : MonT tt := (ht X.s_0 X.H_0 0 [] []).mono
  have me : MonE te := (he X.s_0 X.H_0 0 [] []).mono
  have mm : MonE (cLc ti g tt te (own.map (·.2))) := fun ws S Q Q' f h => cLcQ_mono hi.mono mg mt me (fun ys S2 q => f _ _ q) h
  exact ⟨cAsg_mono mm fun w ws S Q Q' f h => f _ _ h,
    (ps_setLc hc hN hy hyl hsw hi.ok ok (fun s H C cl fp => (hg s H C cl fp).ok) (fun s H C cl fp => (ht s H C cl fp).ok) (fun s H C cl fp => (he s H C cl fp).ok) hs).imp fun D σ H h => lc_frz hi.mono mg mt me hsub (cAsgN_ok mm h)⟩
end
/-! ### two clauses -/
def lc2L (G : Sto → Prop) (g : CG) (tt : CT) (ti1 : CI) (g1 : CG) (tt1 : CT) (te : CE) (vs1 : List Nat) (ws : CL.Env) (Q : List Cv → Sto → Prop) : List Cv → List Cv → Sto → Prop
  | [], acc, S => G S ∧ Q acc S
  | x :: r, acc, S => G S ∧ g x ws S fun ws2 S2 => tt ws2 S2 fun b S3 => if b = true then ti1 ws2 S3 fun ys G1 S4 => lcL G1 g1 tt1 te (cwipe ws2 vs1) (fun acc' S' => lc2L G g tt ti1 g1 tt1 te vs1 ws Q r acc' S') ys acc S4
      else lc2L G g tt ti1 g1 tt1 te vs1 ws Q r acc S3
theorem lc2L_mono {G : Sto → Prop} {g g1 : CG} {tt tt1 : CT} {ti1 : CI} {te : CE} {vs1 : List Nat} (hg : MonG g) (ht : MonT tt) (hi1 : MonI ti1) (hg1 : MonG g1) (ht1 : MonT tt1) (he : MonE te) {ws : CL.Env} {Q Q' : List Cv → Sto → Prop} (f : ∀ a b, Q a b → Q' a b) :
    ∀ xs acc S, lc2L G g tt ti1 g1 tt1 te vs1 ws Q xs acc S → lc2L G g tt ti1 g1 tt1 te vs1 ws Q' xs acc S
  | [], acc, S, h => ⟨h.1, f _ _ h.2⟩
  | x :: r, acc, S, h => ⟨h.1, hg _ _ _ _ _ (fun ws2 S2 q => ht _ _ _ _ (fun b S3 q3 => by
      cases b with
      | true => exact hi1 _ _ _ _ (fun ys G1 S4 q4 => lcL_mono hg1 ht1 he (fun acc' S' q5 => lc2L_mono hg ht hi1 hg1 ht1 he f r acc' S' q5) ys acc S4 q4) q3
      | false => exact lc2L_mono hg ht hi1 hg1 ht1 he f r _ _ q3) q) h.2⟩
theorem lc2L_G {G : Sto → Prop} {g g1 : CG} {tt tt1 : CT} {ti1 : CI} {te : CE} {vs1 : List Nat} {ws : CL.Env} {Q : List Cv → Sto → Prop} : ∀ {xs : List Cv} {acc S}, lc2L G g tt ti1 g1 tt1 te vs1 ws Q xs acc S → G S
  | [], _, _, h => h.1
  | _ :: _, _, _, h => h.1
def cLc2Q (ti : CI) (g : CG) (tt : CT) (ti1 : CI) (g1 : CG) (tt1 : CT) (te : CE) (vs vs1 : List Nat) (ws : CL.Env) (S : Sto) (Q : List Cv → Sto → Prop) : Prop := ti ws S fun xs G S1 => lc2L G g tt ti1 g1 tt1 te vs1 (cwipe ws vs) Q xs [] S1
def cLc2 (ti : CI) (g : CG) (tt : CT) (ti1 : CI) (g1 : CG) (tt1 : CT) (te : CE) (vs vs1 : List Nat) : CE := fun ws S Q => cLc2Q ti g tt ti1 g1 tt1 te vs vs1 ws S fun ys S2 => Q (.lst ys) S2
theorem lc2_ok {K : Fg} {ti ti1 : CI} {g g1 : CG} {is is1 : List Nat} {tt tt1 : CT} {te : CE} {vs vs1 : List Nat} (hi : MonI ti) (hg : MonG g) (ht : MonT tt) (hi1 : MonI ti1) (hg1 : MonG g1) (ht1 : MonT tt1) (he : MonE te) (hsub : ∀ i ∈ is, i ∈ vs) (hsub1 : ∀ i ∈ is1, i ∈ vs1)
    {Z : List Addr} {S : Sto} {H : Hp} {σ : L2.St} {ws : CL.Env} {Q : VK} {R : List Cv → Sto → Prop}
    (ok : StOk K Z S H) (re : RepSt K Z S H σ ws) (h : cLc2Q ti g tt ti1 g1 tt1 te vs vs1 ws S R)
    (fin : ∀ ys S' D vs' H', Fr S H S' H' → StOk K (D :: Z) S' H' → Emp H D → H' D = some (.lst vs') → Reps K (D :: Z) S' H' ys vs' → R ys S' → Q (.ref D) H') : tLc2 (liftI K ti) (liftG K g is) (liftT K tt) (liftI K ti1) (liftG K g1 is1) (liftT K tt1) (liftE K te) vs vs1 σ H Q := by
  refine ⟨Z, S, ws, ok, re, hi _ _ _ _ (fun xs G S1 q J H1 f1 ok1 wk => ?_) h⟩
  intro D hD
  have hD0 : Emp H D := f1.dom D (Emp.of hD)
  have keepD : ∀ {Sa Sb : Sto} {Ha Hb : Hp} {l : List V}, Fr Sa Ha Sb Hb → Ha D = some (.lst l) → Sa D = none → Hb D = some (.lst l) ∧ Sb D = none := fun f e n => f.keep D _ e n
  have fr_chg : ∀ {Sa : Sto} {Ha : Hp} {l : List V}, Fr S1 H1 Sa Ha → Fr S1 H1 Sa (upd Ha D (.lst l)) := fun {Sa Ha l} fa => ⟨fun a o e n nt => by
    have na : a ≠ D := ne_of_none e hD
    rw [upd_ne na]
    exact fa.keep a o e n nt, fun a q => fa.dom a (dom_upd (by rfl) a q)⟩
  refine ⟨fun i m H' => m = xs.length - i ∧ i ≤ xs.length ∧ ∃ S' acc vs', Fr S1 H1 S' H' ∧ StOk K (D :: Z) S' H' ∧ H' D = some (.lst vs') ∧ Reps K (D :: Z) S' H' acc vs' ∧ lc2L G g tt ti1 g1 tt1 te vs1 (cwipe ws vs) R (xs.drop i) acc S', ⟨xs.length, rfl, Nat.zero_le _, S1, [], [], Fr.new hD, ok1.newD hD, upd_same, .nil, q⟩, ?_⟩
  rintro i m H2 ⟨rfl, hl, S2, acc, vs2, f2, ok2, hD2, ra, q2⟩
  obtain ⟨wgo, wstop⟩ := wk (D :: Z) S2 H2 (fun _ z => List.mem_cons_of_mem _ z) (fun a z => (List.mem_cons.mp z).elim (fun e => .inr (by rw [e]; exact hD)) .inl) (f2.z Z) ok2 (lc2L_G q2) i
  by_cases hlt : i < xs.length
  · obtain ⟨go, yl⟩ := wgo hlt
    refine .inr ⟨go, fun H' => ∃ S' acc vs', Fr S1 H1 S' H' ∧ StOk K (D :: Z) S' H' ∧ H' D = some (.lst vs') ∧ Reps K (D :: Z) S' H' acc vs' ∧ lc2L G g tt ti1 g1 tt1 te vs1 (cwipe ws vs) R (xs.drop (i + 1)) acc S', fun H' h' => ⟨xs.length - (i + 1), by omega, rfl, hlt, h'⟩, fun x H3 hy => ?_⟩
    obtain ⟨w, ew, f3, ok3, r3⟩ := yl x H3 hy
    rw [drop_cons hlt ew] at q2
    have re0 : RepSt K (D :: Z) S2 H3 σ ws := by
      refine ⟨re.1, fun j u e => ?_⟩
      obtain ⟨v, h1, h2⟩ := re.2 j u e
      exact ⟨v, h1, (((h2.fr f1).more hD).fr f2).fr f3⟩
    have re3 : RepSt K (D :: Z) S2 H3 (L2.wipe σ vs) (cwipe ws vs) := re0.wipe vs
    have nD2 : S2 D = none := (ok2.hid D List.mem_cons_self).1
    have hD3 := (f3.keep D _ hD2 nD2).1
    have ra3 := ra.fr f3
    refine ⟨D :: Z, S2, cwipe ws vs, w, ok3, re3, r3, hg _ _ _ _ _ (fun ws4 S4 q4 σ4 H4 f4 ok4 re4 o4 => ?_) q2.2⟩
    refine ⟨(o4.wipe hsub).trans (wipe_twice σ vs), ?_⟩
    refine liftT_of ht ok4 re4 q4 fun b S5 H5 f5 ok5 q5 => ?_
    have n4 := keepD f4 hD3 nD2
    have n5 := keepD f5 n4.1 n4.2
    cases b with
    | true =>
      simp only [if_true] at q5 ⊢
      refine ⟨D :: Z, S5, ws4, ok5, re4.fr f5, hi1 _ _ _ _ (fun ys G1 S6 q6 J1 H6 f6 ok6 wk1 => ?_) q5⟩
      have n6 := keepD f6 n5.1 n5.2
      have fa : Fr S1 H1 S6 H6 := (((f2.trans f3).trans f4).trans f5).trans f6
      have ra6 := ((ra3.fr f4).fr f5).fr f6
      have re6 := (re4.fr f5).fr f6
      refine ⟨fun j k H' => k = ys.length - j ∧ j ≤ ys.length ∧ ∃ S' acc vs', FrZ (D :: Z) S6 H6 S' H' ∧ Fr S1 H1 S' H' ∧ RepSt K (D :: Z) S' H' σ4 ws4 ∧ StOk K (D :: Z) S' H' ∧ H' D = some (.lst vs') ∧ Reps K (D :: Z) S' H' acc vs' ∧
        lcL G1 g1 tt1 te (cwipe ws4 vs1) (fun acc' S' => lc2L G g tt ti1 g1 tt1 te vs1 (cwipe ws vs) R (xs.drop (i + 1)) acc' S') (ys.drop j) acc S', ⟨ys.length, rfl, Nat.zero_le _, S6, acc, vs2, (Fr.refl _ _).z _, fa, re6, ok6, n6.1, ra6, q6⟩, ?_⟩
      · rintro j k H7 ⟨rfl, hl7, S7, acc7, vs7, fz7, fa7, re7, ok7, hD7, ra7, q7⟩
        obtain ⟨wgo1, wstop1⟩ := wk1 (D :: Z) S7 H7 (fun _ z => z) (fun _ z => .inl z) fz7 ok7 (lcL_G q7) j
        by_cases hlt1 : j < ys.length
        · obtain ⟨go1, yl1⟩ := wgo1 hlt1
          refine .inr ⟨go1, fun H' => ∃ S' acc vs', FrZ (D :: Z) S6 H6 S' H' ∧ Fr S1 H1 S' H' ∧ RepSt K (D :: Z) S' H' σ4 ws4 ∧ StOk K (D :: Z) S' H' ∧ H' D = some (.lst vs') ∧ Reps K (D :: Z) S' H' acc vs' ∧
            lcL G1 g1 tt1 te (cwipe ws4 vs1) (fun acc' S' => lc2L G g tt ti1 g1 tt1 te vs1 (cwipe ws vs) R (xs.drop (i + 1)) acc' S') (ys.drop (j + 1)) acc S', fun H' h' => ⟨ys.length - (j + 1), by omega, rfl, hlt1, h'⟩, fun x8 H8 hy8 => ?_⟩
          obtain ⟨w8, ew8, f8, ok8, r8⟩ := yl1 x8 H8 hy8
          rw [drop_cons hlt1 ew8] at q7
          have nD7 : S7 D = none := (ok7.hid D List.mem_cons_self).1
          have n8 := keepD f8 hD7 nD7
          refine ⟨D :: Z, S7, cwipe ws4 vs1, w8, ok8, (re7.fr f8).wipe vs1, r8, hg1 _ _ _ _ _ (fun ws9 S9 q9 σ9 H9 f9 ok9 re9 o9 => ?_) q7.2⟩
          refine ⟨(o9.wipe hsub1).trans (wipe_twice σ4 vs1), ?_⟩
          have n9 := keepD f9 n8.1 n8.2
          refine liftT_of ht1 ok9 re9 q9 fun c SA HA fA okA qA => ?_
          have nA := keepD fA n9.1 n9.2
          cases c with
          | true =>
            simp only [if_true] at qA ⊢
            refine liftE_of he okA (re9.fr fA) qA fun y SB vB HB fB okB rB qB => ?_
            have nB := keepD fB nA.1 nA.2
            have raB := (((ra7.fr f8).fr f9).fr fA).fr fB
            have f7B : Fr S7 H7 SB HB := ((f8.trans f9).trans fA).trans fB
            refine ⟨vs7, nB.1, by rw [← ra7.length]; exact qB.1, SB, acc7 ++ [y], vs7 ++ [vB], (fz7.trans (f7B.z _)).trans (FrZ.chg List.mem_cons_self), fr_chg (fa7.trans f7B), ?_, okB.chg List.mem_cons_self nB.1, upd_same, (raB.app (.one rB)).hid List.mem_cons_self nB.1, qB.2⟩
            exact ⟨re7.1, fun j u e => let ⟨v, h1, h2⟩ := re7.2 j u e; ⟨v, h1, (h2.fr f7B).hid List.mem_cons_self nB.1⟩⟩
          | false =>
            simp only [Bool.false_eq_true, if_false] at qA ⊢
            have f7A : Fr S7 H7 SA HA := (f8.trans f9).trans fA
            exact ⟨SA, acc7, vs7, fz7.trans (f7A.z _), fa7.trans f7A, re7.fr f7A, okA, nA.1, ra7.fr f7A, qA⟩
        · have e : j = ys.length := by omega
          refine .inl ⟨wstop1 (by omega), ?_⟩
          rw [e, List.drop_length] at q7
          exact ⟨S7, acc7, vs7, fa7, ok7, hD7, ra7, q7.2⟩
    | false =>
      simp only [Bool.false_eq_true, if_false] at q5 ⊢
      exact ⟨S5, acc, vs2, ((f2.trans f3).trans f4).trans f5, ok5, n5.1, (ra3.fr f4).fr f5, q5⟩
  · have e : i = xs.length := by omega
    refine .inl ⟨wstop (by omega), ?_⟩
    rw [e, List.drop_length] at q2
    exact fin acc S2 D vs2 H2 (f1.trans f2) ok2 hD0 hD2 ra q2.2
end CL
/-! CL4: sources of loops; two clauses as an expression; calls; a def's body; the end of a law -/
namespace CL
open PySem PySem.Spec PyProof.Rows L2
variable [LamT]
section
variable {K : Fg} {Z Z' : List Addr} {S S' : Sto} {H H' : Hp}
theorem Rd.frz (ok : StOk K Z S H) (f : FrZ Z S H S' H') {a : Addr} {u : HO} (hu : plainO u = false) (h : Rd H a u) (n : S a = none) (nt : isTbl u = false := by rfl) : Rd H' a u ∧ S' a = none := by
  have nz : ∀ o, H a = some o → plainO o = false → a ∉ Z := fun o e p z => by
    obtain ⟨_, x, ex, px⟩ := ok.hid a z
    rw [e] at ex; cases ex
    rw [p] at px; cases px
  rcases h with h | ⟨o, h⟩
  · have k := f.keep a _ (nz _ h hu) h n nt
    exact ⟨.inl k.1, k.2⟩
  · have k := f.keep a _ (nz _ h rfl) h n
    exact ⟨.inr ⟨o, k.1⟩, k.2⟩
theorem StOk.nz (ok : StOk K Z S H) {a : Addr} {o : HO} (e : H a = some o) (p : plainO o = false) : a ∉ Z := fun z => by
  obtain ⟨_, x, ex, px⟩ := ok.hid a z
  rw [e] at ex; cases ex
  rw [p] at px; cases px
theorem TRd.frz (ok : StOk K Z S H) (f : FrZ Z S H S' H') {a : Addr} {vs : List V} {ws : List Cv} (h : TRd H a vs ws) (n : S a = none) : TRd H' a vs ws ∧ S' a = none := by
  have nz : ∀ o, H a = some o → plainO o = false → a ∉ Z := fun o e p z => by
    obtain ⟨_, x, ex, px⟩ := ok.hid a z
    rw [e] at ex; cases ex
    rw [p] at px; cases px
  rcases h with h | ⟨w, o, h⟩
  · have k := f.keep a _ (nz _ h rfl) h n
    exact ⟨.inl k.1, k.2⟩
  · have k := f.keep a _ (nz _ h rfl) h n
    exact ⟨.inr ⟨w, o, k.1⟩, k.2⟩
mutual
theorem Rep.frz (ok : StOk K Z S H) (f : FrZ Z S H S' H') (hz : ∀ a, a ∈ Z' → a ∈ Z ∨ H a = none) : ∀ {w : Cv} {v : V}, Rep K Z S H w v → Rep K Z' S' H' w v
  | _, _, .non => .non
  | _, _, .bl b => .bl b
  | _, _, .int i => .int i
  | _, _, .str x => .str x
  | _, _, .tup h n r => .tup (TRd.frz ok f h n).1 (TRd.frz ok f h n).2 (Reps.frz ok f hz r)
  | _, _, .tupK h r => .tupK h (Reps.frz ok f hz r)
  | _, _, .lst h n z r => .lst (f.keep _ _ z h n).1 (f.keep _ _ z h n).2 (fun q => (hz _ q).elim z fun e => by rw [h] at e; cases e) (Reps.frz ok f hz r)
  | _, _, .scr h n r => .scr (f.keep _ _ (ok.nz h rfl) h n).1 (f.keep _ _ (ok.nz h rfl) h n).2 (Reps.frz ok f hz r)
  | _, _, .tupF h n r d => .tupF (f.keep _ _ (ok.nz h rfl) h n).1 (f.keep _ _ (ok.nz h rfl) h n).2 (Reps.frz ok f hz r) d
  | _, _, .scrK h r => .scrK h (Reps.frz ok f hz r)
  | _, _, .dK h n z e r => .dK (f.keep _ _ z h n).1 (f.keep _ _ z h n).2 (fun q => (hz _ q).elim z fun e => by rw [h] at e; cases e) e (Reps.frz ok f hz r)
  | _, _, .dT h n z e r => .dT (f.keep _ _ z h n).1 (f.keep _ _ z h n).2 (fun q => (hz _ q).elim z fun e => by rw [h] at e; cases e) e (Reps.frz ok f hz r)
  | _, _, .ins h n z cq e r => .ins (f.keep _ _ z h n).1 (f.keep _ _ z h n).2 (fun q => (hz _ q).elim z fun e => by rw [h] at e; cases e) cq e (Reps.frz ok f hz r)
  | _, _, .ref a => .ref a
  | _, _, .exc h n t o hd nd z e r => .exc (f.keep _ _ (ok.nz h rfl) h n).1 (f.keep _ _ (ok.nz h rfl) h n).2 t o (f.keep _ _ z hd nd).1 (f.keep _ _ z hd nd).2 (fun q => (hz _ q).elim z fun e => by rw [hd] at e; cases e) e (Reps.frz ok f hz r)
  | _, _, .excN h n t o => .excN (f.keep _ _ (ok.nz h rfl) h n).1 (f.keep _ _ (ok.nz h rfl) h n).2 t o
  | _, _, .lam h n r => .lam (f.keep _ _ (ok.nz h rfl) h n (by rfl)).1 (f.keep _ _ (ok.nz h rfl) h n (by rfl)).2 (Reps.frz ok f hz r)
  | _, _, .cls h => .cls h
  | _, _, .opq v => .opq v
theorem Reps.frz (ok : StOk K Z S H) (f : FrZ Z S H S' H') (hz : ∀ a, a ∈ Z' → a ∈ Z ∨ H a = none) : ∀ {ws : List Cv} {vs : List V}, Reps K Z S H ws vs → Reps K Z' S' H' ws vs
  | _, _, .nil => .nil
  | _, _, .cons a r => .cons (Rep.frz ok f hz a) (Reps.frz ok f hz r)
end
theorem walk_lst {a : Addr} {vs : List V} {ws : List Cv} (sq : ∀ S1 H1, FrZ Z S H S1 H1 → SqL K H1 a vs) (ok : StOk K Z S H) (r : Reps K Z S H ws vs) : WalkOk K Z (Itl K a) ws (fun _ => True) S H := by
  intro Z' S1 H1 _ hz f ok1 _ i
  have sq := sq S1 H1 f
  have r1 := r.frz ok f hz
  refine ⟨fun hi => ?_, fun hi => ⟨vs, sq, by rw [← r.length]; exact hi⟩⟩
  obtain ⟨v, hv, _⟩ := r1.get (List.getElem?_eq_getElem hi)
  refine ⟨⟨vs, v, sq, hv⟩, fun x H' hy => ?_⟩
  obtain ⟨rfl, hx⟩ := hy
  obtain ⟨w, hw, rw'⟩ := r1.getV (hx vs sq)
  exact ⟨w, hw, Fr.refl _ _, ok1, rw'⟩
theorem walk_own {a : Addr} {ws : List Cv} : WalkOk K Z (Itl K a) ws (fun S => S a = some (.lst ws)) S H := by
  intro Z' S1 H1 _ hz f ok1 g i
  obtain ⟨vs, e, r1⟩ := ok1.ob a _ g
  have sq : SqL K H1 a vs := .inl (.inl e)
  refine ⟨fun hi => ?_, fun hi => ⟨vs, sq, by rw [← r1.length]; exact hi⟩⟩
  obtain ⟨v, hv, _⟩ := r1.get (List.getElem?_eq_getElem hi)
  refine ⟨⟨vs, v, sq, hv⟩, fun x H' hy => ?_⟩
  obtain ⟨rfl, hx⟩ := hy
  obtain ⟨w, hw, rw'⟩ := r1.getV (hx vs sq)
  exact ⟨w, hw, Fr.refl _ _, ok1, rw'⟩
theorem walk_tup {a : Addr} {vs : List V} {ws : List Cv} (sq : ∀ S1 H1, FrZ Z S H S1 H1 → SqT K H1 a vs) (ok : StOk K Z S H) (r : Reps K Z S H ws vs) : WalkOk K Z (Itt K a) ws (fun _ => True) S H := by
  intro Z' S1 H1 _ hz f ok1 _ i
  have sq := sq S1 H1 f
  have r1 := r.frz ok f hz
  refine ⟨fun hi => ?_, fun hi => ⟨vs, sq, by rw [← r.length]; exact hi⟩⟩
  obtain ⟨v, hv, _⟩ := r1.get (List.getElem?_eq_getElem hi)
  refine ⟨⟨vs, v, sq, hv⟩, fun x H' hy => ?_⟩
  obtain ⟨rfl, hx⟩ := hy
  obtain ⟨w, hw, rw'⟩ := r1.getV (hx vs sq)
  exact ⟨w, hw, Fr.refl _ _, ok1, rw'⟩
theorem walk_range (lo : Int) (n : Nat) : WalkOk K Z (Itr lo n) ((List.range n).map fun (i : Nat) => .int (lo + i)) (fun _ => True) S H := by
  intro Z' S1 H1 _ hz f ok1 _ i
  refine ⟨fun hi => ?_, fun hi => by rw [List.length_map, List.length_range] at hi; exact hi⟩
  rw [List.length_map, List.length_range] at hi
  refine ⟨hi, fun x H' hy => ?_⟩
  obtain ⟨rfl, rfl⟩ := hy
  exact ⟨.int (lo + i), by simp [hi], Fr.refl _ _, ok1, .int _⟩
def signs (x : Str) : List Cv := x.cps.toList.map fun c => .str ⟨#[c]⟩
theorem walk_str (x : Str) : WalkOk K Z (Its x) (signs x) (fun _ => True) S H := by
  intro Z' S1 H1 _ hz f ok1 _ i
  refine ⟨fun hi => ?_, fun hi => by
    have q : x.cps.size ≤ i := by simpa [signs] using hi
    exact q⟩
  have hi' : i < x.cps.size := by simpa [signs] using hi
  refine ⟨hi', fun v H' hy => ?_⟩
  obtain ⟨rfl, c, hc, rfl⟩ := hy
  exact ⟨.str ⟨#[c]⟩, by simp [signs, hc], Fr.refl _ _, ok1, .str _⟩
end
/-- the owned list at a -/
def ownL (S : Sto) (a : Addr) (Q : List Cv → Prop) : Prop := match S a with
  | some (.lst xs) => Q xs
  | _ => False
theorem ownL_of {S : Sto} {a : Addr} {Q : List Cv → Prop} (h : ownL S a Q) : ∃ xs, S a = some (.lst xs) ∧ Q xs := by
  unfold ownL at h
  split at h
  · exact ⟨_, by assumption, h⟩
  · exact h.elim
theorem ownL_to {S : Sto} {a : Addr} {Q : List Cv → Prop} {xs : List Cv} (e : S a = some (.lst xs)) (h : Q xs) : ownL S a Q := by
  unfold ownL
  rw [e]
  exact h
theorem ownL_imp {S : Sto} {a : Addr} {Q Q' : List Cv → Prop} (f : ∀ xs, Q xs → Q' xs) (h : ownL S a Q) : ownL S a Q' := by
  obtain ⟨xs, e, q⟩ := ownL_of h
  exact ownL_to e (f _ q)
/-! ### what a for walks: a list, a tuple, a text -/
def cSeqI (te : CE) : CI := fun ws S Q => te ws S fun w S1 => match w with
  | .tup xs => Q xs (fun _ => True) S1
  | .lst xs => Q xs (fun _ => True) S1
  | .str x => Q (signs x) (fun _ => True) S1
  | .ref a => ownL S1 a fun xs => Q xs (fun S => S a = some (.lst xs)) S1
  | _ => False
section
variable {X : Cx} {tg e : Expr} {pos : Pos}
theorem si_seq {te : CE} (he : SE X e te) : SI X tg e (cSeqI te) := by
  refine ⟨fun ws S Q Q' f h => he.mono _ _ _ _ (fun w S1 q => ?_) h, ⟨fun pins s σ H R I h => ?_⟩⟩
  · cases w with
    | tup xs => exact f _ _ _ q
    | lst xs => exact f _ _ _ q
    | str xs => exact f _ _ _ q
    | ref a => exact ownL_imp (fun xs q => f _ _ _ q) q
    | _ => exact q
  · obtain ⟨Z, S, ws, ok, re, h⟩ := h
    refine thn (he.ok.run pins s σ H (fun v H1 => ∃ S1 w, Fr S H S1 H1 ∧ StOk X.K Z S1 H1 ∧ Rep X.K Z S1 H1 w v ∧ (match w with
      | .tup xs => (fun xs G S' => ∀ J H', Fr S H S' H' → StOk X.K Z S' H' → WalkOk X.K Z J xs G S' H' → R J H') xs (fun _ => True) S1
      | .lst xs => (fun xs G S' => ∀ J H', Fr S H S' H' → StOk X.K Z S' H' → WalkOk X.K Z J xs G S' H' → R J H') xs (fun _ => True) S1
      | .str x => (fun xs G S' => ∀ J H', Fr S H S' H' → StOk X.K Z S' H' → WalkOk X.K Z J xs G S' H' → R J H') (signs x) (fun _ => True) S1
      | .ref a => ownL S1 a fun xs => (fun xs G S' => ∀ J H', Fr S H S' H' → StOk X.K Z S' H' → WalkOk X.K Z J xs G S' H' → R J H') xs (fun S => S a = some (.lst xs)) S1
      | _ => False)) I (liftE_of he.mono ok re h fun w S1 v H1 f1 ok1 r1 q1 => ⟨S1, w, f1, ok1, r1, q1⟩)) fun v s1 ⟨x, H1, I1, rv, S1, w, f1, ok1, r1, q1⟩ => ?_
    have list_it : ∀ {a : Addr} {vs : List V}, v = .ref a → SqL X.K H1 a vs → R (Itl X.K a) H1 → wpAny (model X.prog X.w) X.A (pyIter v) (PIE X pins σ tg R) X.xe s1 := by
      rintro a vs rfl sq hR
      obtain ⟨its, _, pl, _⟩ := I1.list sq
      refine wpAny_pyIter_list pl.isList ?_
      exact pi_one (tk := s1.toks) I1 _ (turn_list a _) ⟨_, Heap.get?_push_size _ rfl, rfl, rfl⟩ hR
    have tup_it : ∀ {a : Addr} {vs : List V}, v = .ref a → SqT X.K H1 a vs → R (Itt X.K a) H1 → wpAny (model X.prog X.w) X.A (pyIter v) (PIE X pins σ tg R) X.xe s1 := by
      rintro a vs rfl sq hR
      obtain ⟨its, _, pt, _⟩ := I1.tuple sq
      refine wpAny_pyIter_tuple (show s1.heap.IsTuple a its.toArray from pt) ?_
      exact pi_one (tk := s1.toks) I1 _ (turn_tuple a _) ⟨_, Heap.get?_push_size _ rfl, rfl, rfl⟩ hR
    cases w with
    | tup xs =>
      cases r1 with
      | tup hr n rr =>
        refine tup_it rv (.inl hr.rd) (q1 _ H1 f1 ok1 (walk_tup (fun S2 H2 f => .inl (Rd.frz ok1 f rfl hr.rd n).1) ok1 rr))
      | tupK hr rr => exact tup_it rv (hr.2 H1) (q1 _ H1 f1 ok1 (walk_tup (fun S2 H2 f => hr.2 H2) ok1 rr))
    | lst xs =>
      cases r1 with
      | lst hh n z rr => exact list_it rv (.inl (.inl hh)) (q1 _ H1 f1 ok1 (walk_lst (fun S2 H2 f => .inl (.inl (f.keep _ _ z hh n).1)) ok1 rr))
    | str z =>
      cases r1
      obtain ⟨t, rfl⟩ := rv
      have hR := q1 _ H1 f1 ok1 (walk_str z)
      cases ha : z.cps.all (· < 128)
      · exact wpAny_pyIter_wide ha (pi_one (tk := s1.toks) I1 _ (turn_str _ z t "str_iterator" (.inr rfl)) ⟨_, Heap.get?_push_size _ rfl, rfl, rfl⟩ hR)
      · exact wpAny_pyIter_ascii ha (pi_one (tk := s1.toks) I1 _ (turn_str _ z t "str_ascii_iterator" (.inl rfl)) ⟨_, Heap.get?_push_size _ rfl, rfl, rfl⟩ hR)
    | ref a =>
      cases r1
      obtain ⟨xs, e, q1⟩ := ownL_of q1
      obtain ⟨vs, hh, rr⟩ := ok1.ob a _ e
      exact list_it rv (.inl (.inl hh)) (q1 _ H1 f1 ok1 walk_own)
    | _ => exact q1.elim
/-- range(n), range(m, n) -/
def iota (lo : Int) (n : Nat) : List Cv := (List.range n).map fun (i : Nat) => .int (lo + i)
def cRng1 (ta : CA) : CI := fun ws S Q => ta ws S fun us S1 => match us with | [.int j] => (-(2 ^ 62) ≤ j ∧ j < 2 ^ 62) ∧ Q (iota 0 j.toNat) (fun _ => True) S1 | _ => False
theorem si_range1 {a : Expr} {ta : CA} {p : Pos} (hg : Gl X "range") (hm : X.mg "range" = none) (ha : SA X [a] ta) (hs : starEach [a] X.env = [(false, eval a X.env)] := by rfl) : SI X tg (.Call (.Name "range" p) [a] [] pos) (cRng1 ta) := by
  refine ⟨fun ws S Q Q' f h => ha.mono _ _ _ _ (fun us S1 q => ?_) h, (pi_range1 hg hm ha.ok hs).imp fun σ H R h => ?_⟩
  · split at q
    · exact ⟨q.1, f _ _ _ q.2⟩
    · exact q
  · obtain ⟨Z, S, ws, ok, re, h⟩ := h
    refine liftA_of ha.mono ok re h fun us S1 vs H1 f1 ok1 r1 q1 => ?_
    split at q1
    · rename_i j
      cases r1 with
      | cons a b =>
        cases a; cases b
        exact ⟨j, rfl, q1.1.1, q1.1.2, q1.2 _ H1 f1 ok1 (walk_range 0 _)⟩
    · exact q1.elim
end
/-! ### two clauses, as an expression -/
section
variable {X : Cx} {pos : Pos} {elt tg iter tg1 iter1 : Expr} {ifs ifs1 : List Expr} {scope : Scope} {own : List (Str × Nat)} {vs1 : List Nat} {ti ti1 : CI} {g g1 : CG} {is is1 : List Nat} {tt tt1 : CT} {te : CE}
theorem s_lc2 (hc : X.calm = true) (hN : X.N.Nodup) (hi : SI X tg iter ti) (ok : BlkOk X.N X.env.scope scope own) (hv : ∀ i ∈ vs1, i ∈ own.map (·.2))
    (hg : ∀ (s : Shared) (H : Hp) (C : Addr) (cl : List (Str × Addr)) (fp : List Addr), SG (X.blk s H scope (compEnvC scope cl C X.env) fp) tg g is)
    (ht : ∀ (s : Shared) (H : Hp) (C : Addr) (cl : List (Str × Addr)) (fp : List Addr), STs (X.blk s H scope (compEnvC scope cl C X.env) fp) ifs tt)
    (hi1 : ∀ (s : Shared) (H : Hp) (C : Addr) (cl : List (Str × Addr)) (fp : List Addr), SI (X.blk s H scope (compEnvC scope cl C X.env) fp) tg1 iter1 ti1)
    (hg1 : ∀ (s : Shared) (H : Hp) (C : Addr) (cl : List (Str × Addr)) (fp : List Addr), SG (X.blk s H scope (compEnvC scope cl C X.env) fp) tg1 g1 is1)
    (ht1 : ∀ (s : Shared) (H : Hp) (C : Addr) (cl : List (Str × Addr)) (fp : List Addr), STs (X.blk s H scope (compEnvC scope cl C X.env) fp) ifs1 tt1)
    (he : ∀ (s : Shared) (H : Hp) (C : Addr) (cl : List (Str × Addr)) (fp : List Addr), SE (X.blk s H scope (compEnvC scope cl C X.env) fp) elt te)
    (hsub : ∀ i ∈ is, i ∈ own.map (·.2) := by decide) (hsub1 : ∀ i ∈ is1, i ∈ vs1 := by decide) (hs : ∀ x, foldedSetIterable iter X.env x = pure x := by intro _; rfl) (hs1 : ∀ env x, foldedSetIterable iter1 env x = pure x := by intro _ _; rfl) :
    SE X (.ListComp elt [⟨tg, iter, ifs, 0⟩, ⟨tg1, iter1, ifs1, 0⟩] scope pos) (cLc2 ti g tt ti1 g1 tt1 te (own.map (·.2)) vs1) := by
  have mg : MonG g := (hg X.s_0 X.H_0 0 [] []).mono
  have mt : MonT tt := (ht X.s_0 X.H_0 0 [] []).mono
  have mi1 : MonI ti1 := (hi1 X.s_0 X.H_0 0 [] []).mono
  have mg1 : MonG g1 := (hg1 X.s_0 X.H_0 0 [] []).mono
  have mt1 : MonT tt1 := (ht1 X.s_0 X.H_0 0 [] []).mono
  have me : MonE te := (he X.s_0 X.H_0 0 [] []).mono
  refine ⟨fun ws S Q Q' f h => hi.mono _ _ _ _ (fun xs G S1 q => lc2L_mono mg mt mi1 mg1 mt1 me (fun ys S2 q2 => f _ _ q2) xs [] S1 q) h,
    (pe_lc2 (g := liftG X.K g is) (tt := liftT X.K tt) (wi1 := liftI X.K ti1) (g1 := liftG X.K g1 is1) (tt1 := liftT X.K tt1) (te := liftE X.K te) hc hN hi.ok ok hv (fun s H C cl fp => (hg s H C cl fp).ok) (fun s H C cl fp => (ht s H C cl fp).ok) (fun s H C cl fp => (hi1 s H C cl fp).ok) (fun s H C cl fp => (hg1 s H C cl fp).ok) (fun s H C cl fp => (ht1 s H C cl fp).ok) (fun s H C cl fp => (he s H C cl fp).ok) hs hs1).imp fun σ H Q h => ?_⟩
  obtain ⟨Z, S, ws, ok', re, h⟩ := h
  refine lc2_ok hi.mono mg mt mi1 mg1 mt1 me hsub hsub1 ok' re h fun ys S' D vs' H' f ok2 hD0 hD r q => ?_
  exact q (.ref D) H' f (ok2.sub fun _ z => List.mem_cons_of_mem _ z) (.lst hD (ok2.hid D List.mem_cons_self).1 (ok'.notZE hD0) (r.sub fun _ z => List.mem_cons_of_mem _ z))
end
/-! ### calls -/
/-- room, and nothing is being shown -/
structure RoomG (k : Nat) (A : Around) : Prop where
  room : Room k A
  gd : useGd = true → A.guards = some []
theorem RoomG.mono {j k : Nat} {A : Around} (r : RoomG k A) (h : j ≤ k) : RoomG j A := ⟨r.room.mono h, r.gd⟩
abbrev CSp := List Cv → Sto → (Cv → Sto → Prop) → (Ex → Sto → Prop) → Prop
def MonSp (sp : CSp) : Prop := ∀ us S (Q Q' : Cv → Sto → Prop) (E E' : Ex → Sto → Prop), (∀ w S', Q w S' → Q' w S') → (∀ x S', E x S' → E' x S') → sp us S Q E → sp us S Q' E'
def liftX (K : Fg) (Z : List Addr) (S : Sto) (H : Hp) (E : XK) : Ex → Sto → Prop := fun x S' => ∀ H', Fr S H S' H' → StOk K Z S' H' → ExAt K Z S' H' x fun c d => E c d H'
def liftSp (K : Fg) (sp : CSp) : Sp := fun vs H Q E => ∃ Z S us, StOk K Z S H ∧ Reps K Z S H us vs ∧ sp us S (fun w S' => ∀ v H', Fr S H S' H' → StOk K Z S' H' → Rep K Z S' H' w v → Q v H') (liftX K Z S H E)
structure FnG (P : Program) (w : World) (K : Fg) (mg : Str → Option Value) (base : Heap) (CX : CXT) (k : Nat) (f : Addr) (fd : FuncData) (ps : List Str) (sp : CSp) : Prop where
  mono : MonSp sp
  len : ∀ us S Q E, sp us S Q E → us.length = ps.length
  run : ∀ (A : Around) (outer : List PySem.Env) (s : Shared) (H : Hp) (args : Args) (us : List Value) (vs : List V) (Q : VK) (E : XK), RoomG k A → Env0 P w K mg base A outer s H → BindsTo s fd args (ps.zip us) → Vals vs us → liftSp K sp vs H Q E →
    codeAny (model P w) A (.call (.ref f) args) (CR CX outer P w H s Q E) s
theorem FnG.mono_k {P : Program} {w : World} {K : Fg} {mg : Str → Option Value} {base : Heap} {CX : CXT} {j k : Nat} {f : Addr} {fd : FuncData} {ps : List Str} {sp : CSp} (F : FnG P w K mg base CX j f fd ps sp) (h : j ≤ k) : FnG P w K mg base CX k f fd ps sp :=
  ⟨F.mono, F.len, fun A outer s H args us vs Q E hr => F.run A outer s H args us vs Q E (hr.mono h)⟩
theorem FnG.imp {P : Program} {w : World} {K : Fg} {mg : Str → Option Value} {base : Heap} {CX : CXT} {k : Nat} {f : Addr} {fd : FuncData} {ps : List Str} {sp sp' : CSp} (F : FnG P w K mg base CX k f fd ps sp) (m : MonSp sp') (h : ∀ us S Q E, sp' us S Q E → sp us S Q E) : FnG P w K mg base CX k f fd ps sp' :=
  ⟨m, fun us S Q E q => F.len us S Q E (h _ _ _ _ q), fun A outer s H args us vs Q E hr e0 hb r q => F.run A outer s H args us vs Q E hr e0 hb r (by
    obtain ⟨Z, S, ws, ok, re, q⟩ := q
    exact ⟨Z, S, ws, ok, re, h _ _ _ _ q⟩)⟩
section
variable {X : Cx} {CX : CXT} {k : Nat} {f : Addr} {fd : FuncData} {ps : List Str} {sp : CSp} {x : Str} {p pos : Pos} {e : Expr} {es : List Expr} {ta : CA}
/-- no exception leaves -/
def X0 : Ex → Sto → Prop := fun _ _ => False
def cCall (sp : CSp) (E : Ex → Sto → Prop) (ta : CA) : CE := fun ws S Q => ta ws S fun us S1 => sp us S1 Q E
theorem run_g {pins : List (Addr × Obj)} {σ : L2.St} {H : Hp} {s : Shared} {Q : VK} {E : XK} {us : List Value} {vs : List V} (F : FnG X.prog X.w X.K X.mg X.base CX k f fd ps sp) (hr : RoomG k X.A) (hb : Binds X.K fd ps []) (hx : Passes CX X E)
    (I : Inv X pins σ H s) (r : Vals vs us) (h : liftSp X.K sp vs H Q E) : wpAny (model X.prog X.w) X.A (call (.ref f) us) (EP X pins σ Q) X.xe s := by
  have hl : (us ++ []).length = ps.length := by
    obtain ⟨Z, S, ws, ok, re, q⟩ := h
    have := F.len _ _ _ _ q
    rw [List.append_nil, ← r.length, ← re.length]
    exact this
  have hb' := hb s us I.kIn hl
  rw [List.append_nil] at hb'
  refine wpAny_call (codeAny_mono (F.run X.A X.stack s H ⟨us, []⟩ us vs Q E hr I.env0 hb' r h) fun rr s' hq => ?_)
  cases rr with
  | error ev => exact hx pins σ H s ev s' I hq
  | ok fl =>
    cases fl with
    | ret u => exact I.after hq
    | next => exact False.elim hq
    | brk => exact False.elim hq
    | cont => exact False.elim hq
theorem cCall_mono {E : Ex → Sto → Prop} (hs : MonSp sp) (ha : MonA ta) : MonE (cCall sp E ta) := fun ws S Q Q' f h => ha _ _ _ _ (fun us S1 q => hs _ _ _ _ _ _ f (fun _ _ z => z) q) h
theorem s_call (F : FnG X.prog X.w X.K X.mg X.base CX0 k f fd ps sp) (hr : RoomG k X.A) (hm : X.mg x = some (.ref f)) (hk : PySem.W.keepIn X.K (.ref f) = true) (hb : Binds X.K fd ps []) (ha : SA X (e :: es) ta) (hg : Gl X x := by rfl)
    (hdb : (x == ("__debug__" : Str)) = false := by decide) (he : starEach (e :: es) X.env = (false, eval e X.env) :: starEach es X.env := by rfl) (hpl : (backTo pos (starEach es X.env)).any (·.1) = false := by rfl) :
    SE X (.Call (.Name x p) (e :: es) [] pos) (cCall sp X0 ta) := by
  refine ⟨cCall_mono F.mono ha.mono, ⟨fun pins s σ H Q I h => ?_⟩⟩
  obtain ⟨Z, S, ws, ok, re, h⟩ := h
  refine wpAny_Call_Name_kw (ld_glob I hg hm ?_ hdb)
  refine PySem.W.callWith_K (h₀ := X.base) I.ok.mod.kin hk ?_ he hpl
  refine thn (ha.ok.run pos pins s σ H (fun vs H1 => liftSp X.K sp vs H1 Q E0) I (liftA_of ha.mono ok re h fun us S1 vs H1 f1 ok1 r1 q1 => ?_)) fun us s1 ⟨vs, H1, I1, r, q⟩ => ⟨I1.kIn, run_g F hr hb pass0 I1 r q⟩
  exact ⟨Z, S1, us, ok1, r1, F.mono _ _ _ _ _ _ (fun w S' g v H' a b c => g v H' (f1.trans a) b c) (fun _ _ z => z.elim) q1⟩
end
/-! ### what a def hands back -/
/-- from the store at the end to what the caller sees: objects of the call's own may be forgotten, a list of its own may be frozen -/
def Hand (S : Sto) (w : Cv) (S' : Sto) (Q : Cv → Sto → Prop) : Prop :=
  ∃ S'' w', (∀ a o, S'' a = some o → S' a = some o) ∧ (w' = w ∨ ∃ a, w = .ref a ∧ S'' a = none ∧ ((∃ xs, S' a = some (.lst xs) ∧ w' = .lst xs) ∨ (∃ xs, S' a = some (.dK xs) ∧ w' = .dK xs) ∨ ∃ xs, S' a = some (.dT xs) ∧ w' = .dT xs)) ∧ Q w' S''
theorem Hand.mono {S S' : Sto} {w : Cv} {Q Q' : Cv → Sto → Prop} (f : ∀ w S', Q w S' → Q' w S') (h : Hand S w S' Q) : Hand S w S' Q' := by
  obtain ⟨S2, w2, a, b, q⟩ := h
  exact ⟨S2, w2, a, b, f _ _ q⟩
theorem less_none {S S' : Sto} (hs : ∀ a o, S' a = some o → S a = some o) {a : Addr} (n : S a = none) : S' a = none := by
  cases e : S' a with
  | none => rfl
  | some o => rw [hs a o e] at n; cases n
section
variable {K : Fg} {Z : List Addr} {S S' : Sto} {H : Hp}
mutual
theorem Rep.less (hs : ∀ a o, S' a = some o → S a = some o) : ∀ {w : Cv} {v : V}, Rep K Z S H w v → Rep K Z S' H w v
  | _, _, .non => .non
  | _, _, .bl b => .bl b
  | _, _, .int i => .int i
  | _, _, .str x => .str x
  | _, _, .tup h n r => .tup h (less_none hs n) (Reps.less hs r)
  | _, _, .tupK h r => .tupK h (Reps.less hs r)
  | _, _, .lst h n z r => .lst h (less_none hs n) z (Reps.less hs r)
  | _, _, .scr h n r => .scr h (less_none hs n) (Reps.less hs r)
  | _, _, .tupF h n r d => .tupF h (less_none hs n) (Reps.less hs r) d
  | _, _, .scrK h r => .scrK h (Reps.less hs r)
  | _, _, .dK h n z e r => .dK h (less_none hs n) z e (Reps.less hs r)
  | _, _, .dT h n z e r => .dT h (less_none hs n) z e (Reps.less hs r)
  | _, _, .ins h n z cq e r => .ins h (less_none hs n) z cq e (Reps.less hs r)
  | _, _, .ref a => .ref a
  | _, _, .exc h n t o hd nd z e r => .exc h (less_none hs n) t o hd (less_none hs nd) z e (Reps.less hs r)
  | _, _, .excN h n t o => .excN h (less_none hs n) t o
  | _, _, .lam h n r => .lam h (less_none hs n) (Reps.less hs r)
  | _, _, .cls h => .cls h
  | _, _, .opq v => .opq v
theorem Reps.less (hs : ∀ a o, S' a = some o → S a = some o) : ∀ {ws : List Cv} {vs : List V}, Reps K Z S H ws vs → Reps K Z S' H ws vs
  | _, _, .nil => .nil
  | _, _, .cons a r => .cons (Rep.less hs a) (Reps.less hs r)
end
theorem RepOb.less (hs : ∀ a o, S' a = some o → S a = some o) {a : Addr} {o : Ob} (h : RepOb K Z S H a o) : RepOb K Z S' H a o := by
  cases o with
  | lst ws => obtain ⟨vs, h1, h2⟩ := h; exact ⟨vs, h1, h2.less hs⟩
  | dK ws => obtain ⟨vs, h1, h3, h2⟩ := h; exact ⟨vs, h1, h3, h2.less hs⟩
  | dT ws => obtain ⟨vs, h1, h3, h2⟩ := h; exact ⟨vs, h1, h3, h2.less hs⟩
  | ins q fs => obtain ⟨vs, h1, h3, h2⟩ := h; exact ⟨vs, h1, h3, h2.less hs⟩
  | dL C dx fs => obtain ⟨vs, h1, h3, h2⟩ := h; exact ⟨vs, h1, h3, h2.less hs⟩
theorem StOk.less (hs : ∀ a o, S' a = some o → S a = some o) (ok : StOk K Z S H) : StOk K Z S' H :=
  ⟨fun a o e => (ok.ob a o (hs a o e)).less hs, fun a z => let ⟨n, r⟩ := ok.hid a z; ⟨less_none hs n, r⟩, ok.tab⟩
theorem Fr.less {S0 : Sto} {H0 : Hp} (hs : ∀ a o, S' a = some o → S a = some o) (f : Fr S0 H0 S H) : Fr S0 H0 S' H :=
  ⟨fun a o e n nt => let ⟨h1, h2⟩ := f.keep a o e n nt; ⟨h1, less_none hs h2⟩, f.dom⟩
theorem hand_ok {S0 : Sto} {H0 : Hp} {w : Cv} {v : V} {R : Cv → Sto → Prop} {Q : VK} (f : Fr S0 H0 S H) (ok : StOk K Z S H) (r : Rep K Z S H w v) (h : Hand S0 w S R)
    (q : ∀ w' S' v' H', Fr S0 H0 S' H' → StOk K Z S' H' → Rep K Z S' H' w' v' → R w' S' → Q v' H') : Q v H := by
  obtain ⟨S2, w2, hs, hw, h⟩ := h
  refine q w2 S2 v H (f.less hs) (ok.less hs) ?_ h
  rcases hw with e | ⟨a, e, n, hw⟩
  · rw [e]; exact r.less hs
  · subst e
    cases r
    have nz : ∀ o, S a = some o → a ∉ Z := fun o e z => by rw [(ok.hid a z).1] at e; cases e
    rcases hw with ⟨xs, e, rfl⟩ | ⟨xs, e, rfl⟩ | ⟨xs, e, rfl⟩
    · obtain ⟨vs, h1, h2⟩ := ok.ob a _ e
      exact .lst h1 n (nz _ e) (h2.less hs)
    · obtain ⟨vs, h1, h3, h2⟩ := ok.ob a _ e
      exact .dK h1 n (nz _ e) h3 (h2.less hs)
    · obtain ⟨vs, h1, h3, h2⟩ := ok.ob a _ e
      exact .dT h1 n (nz _ e) h3 (h2.less hs)
end
/-! ### a def's body -/
def cstart (N : List Str) (us : List Cv) : CL.Env := us.map some ++ List.replicate (N.length - us.length) none
theorem repSt_start {K : Fg} {Z : List Addr} {S : Sto} {H : Hp} {N : List Str} {us : List Cv} {vs : List V} (r : Reps K Z S H us vs) : RepSt K Z S H (L2.start N vs) (cstart N us) := by
  have hl := r.length
  refine ⟨by unfold L2.start cstart; simp [hl], fun i w e => ?_⟩
  unfold cstart at e
  by_cases hi : i < us.length
  · rw [List.getElem?_append_left (by simpa using hi)] at e
    have e' : us[i]? = some w := by simpa using e
    obtain ⟨v, h1, h2⟩ := r.get e'
    refine ⟨v, ?_, h2⟩
    unfold L2.start
    rw [List.getElem?_append_left (by rw [List.length_map, ← hl]; exact hi), List.getElem?_map, h1]
    rfl
  · rw [List.getElem?_append_right (by simpa using hi)] at e
    rw [List.getElem?_replicate] at e
    split at e <;> cases e
/-- the ends of a body -/
def bodyEnds (S : Sto) (Q : Cv → Sto → Prop) : CEnds := { nx := fun _ S' => Hand S .non S' Q, rt := fun w S' => Hand S w S' Q }
section
variable {P : Program} {w : World} {K : Fg} {mg : Str → Option Value} {base : Heap}
theorem fn_mk {x qual : Str} {st : Stmt} {f : Addr} {fd : FuncData} {N ps : List Str} {k : Nat} {sp : CSp} {t : CS} (F : Fun K x qual st f fd) (Sc : FnScope N ps (defScope st)) (mono : MonSp sp) (len : ∀ us S Q E, sp us S Q E → us.length = ps.length)
    (hb : ∀ (cdv : Value) (A : Around) (outer : List PySem.Env) (s : Shared) (H : Hp) (E : XK), RoomG k (A.deeper (envOfC qual (defScope st) s.heap.objs.size f cdv)) → SSs (cxOf L2.CX0 P w K mg base N qual (defScope st) f cdv A outer s H E).nox (defBody st) t)
    (hsp : ∀ us S Q E, sp us S Q E → t (bodyEnds S Q) (cstart N us) S) : FnG P w K mg base L2.CX0 (k + 1) f fd ps sp := by
  obtain ⟨oc, od, kV, doc, pm, an, cdv, ct, osl, rfl, lk, hcd⟩ := F.ex
  refine ⟨mono, len, fun A outer s H args us vs Q E hr e0 hbd rv hl => ?_⟩
  obtain ⟨Z, S, ws, ok, re, hq⟩ := hl
  have hlen : vs.length = ps.length := by
    rw [← re.length]
    exact len _ _ _ _ hq
  have kin : K.In s.heap := e0.mod.kin.keeps fun b o e => (e0.bs b o e).1
  have nolim : s.heap.NoLimit := e0.mod.nolimit.keeps fun b o e => (e0.bs b o e).1
  have kinds : ∀ y ∈ ps.zip us, (defScope st).names.lookup y.1 = some .local ∨
      ((defScope st).names.lookup y.1 = some .cell ∧ ((cellsFrom (s.heap.objs.size + 1) (defScope st).names []).lookup y.1).isSome = true) := by
    rintro ⟨n, u⟩ hy
    rcases Sc.par n (List.of_mem_zip hy).1 with q | q
    · exact .inl q
    · exact .inr ⟨q, PySem.W.cellsFrom_some _ _ _ (.inl q)⟩
  refine codeAny_call_function hr.room.depth (kin _ _ lk) rfl Sc.co Sc.gen rfl
    (PySem.W.codeRec_of kin hcd) (hbd _ _ _ _ ?_)
  refine wpAny_newFunctionEnv_cells Sc.kind kinds fun env he s1 hx => ?_
  subst he
  refine ⟨nolim.keeps hx.toInCall.keep, codeAny_func ?_⟩
  have I := inv_start (CX := L2.CX0) (K := K) (mg := mg) (E := E) (cd := cdv) Sc hr.room.hd e0 hlen rv hx
  have body := hb cdv A outer s H E ⟨hr.room.deeper _, hr.gd⟩
  have goal : liftS K (WofX (cxOf L2.CX0 P w K mg base N qual (defScope st) f cdv A outer s H E).nox) t { nx := fun _ H' => Q .non H', rt := Q } (L2.start N vs) H := by
    refine ⟨Z, S, cstart N ws, ok, repSt_start re, body.mono (bodyEnds S fun u S' => ∀ v H', Fr S H S' H' → StOk K Z S' H' → Rep K Z S' H' u v → Q v H') _ _ _ ⟨?_, ?_, fun _ _ h => False.elim h, fun _ _ h => False.elim h, fun _ _ _ h => False.elim h⟩ (hsp ws S _ _ hq)⟩
    · exact fun ws' S' h σ' H' f1 ok1 _ => hand_ok f1 ok1 .non h fun w' S2 v' H2 f2 ok2 r2 q => q v' H2 f2 ok2 r2
    · exact fun u S' h v H' f1 ok1 r1 => hand_ok f1 ok1 r1 h fun w' S2 v' H2 f2 ok2 r2 q => q v' H2 f2 ok2 r2
  have run := body.ok.nox
  refine wpAny_mono (run.run [] s1 (L2.start N vs) H _ I goal) (fun fl s' hs => ?_) fun e s' hs => hs
  cases fl with
  | ret u =>
    obtain ⟨v, σ', H', J, r1, q⟩ := hs
    exact ⟨v, H', J.os, J.bare, J.base, J.hok, r1, q⟩
  | next =>
    obtain ⟨σ', H', J, q⟩ := hs
    exact ⟨V.non, H', J.os, J.bare, J.base, J.hok, rfl, q⟩
  | brk =>
    obtain ⟨_, _, _, q⟩ := hs
    exact False.elim q
  | cont =>
    obtain ⟨_, _, _, q⟩ := hs
    exact False.elim q
end
end CL
/-! CL5: operations by values -/
namespace CL
open PySem PySem.Spec PyProof.Rows L2
variable [LamT]
/-! ### an owned object read -/
def deref (w : Cv) (S : Sto) : Option Cv := match w with
  | .ref a => (match S a with | some (.lst xs) => some (.lst xs) | some (.dK kvs) => some (.dK kvs) | some (.dT kvs) => some (.dT kvs) | _ => none)
  | w => some w
/-- the clean value stands for v, owned or not -/
def RepD (K : Fg) (Z : List Addr) (S : Sto) (H : Hp) (w : Cv) (v : V) : Prop := match w with
  | .lst xs => ∃ a vs, v = .ref a ∧ H a = some (.lst vs) ∧ Reps K Z S H xs vs
  | .dK kws => ∃ a kvs, v = .ref a ∧ H a = some (.dK kvs) ∧ kws.map Prod.fst = kvs.map Prod.fst ∧ Reps K Z S H (kws.map Prod.snd) (kvs.map Prod.snd)
  | .dT kws => ∃ a kvs, v = .ref a ∧ H a = some (.dT kvs) ∧ kws.map Prod.fst = kvs.map Prod.fst ∧ Reps K Z S H (kws.map Prod.snd) (kvs.map Prod.snd)
  | .ref _ => False
  | w => Rep K Z S H w v
section
variable {K : Fg} {Z : List Addr} {S : Sto} {H : Hp}
theorem deref_ok {w w' : Cv} {v : V} (ok : StOk K Z S H) (r : Rep K Z S H w v) (e : deref w S = some w') : RepD K Z S H w' v := by
  cases r with
  | ref a =>
    unfold deref at e
    cases hS : S a with
    | none => simp [hS] at e
    | some o =>
      have ro := ok.ob a o hS
      cases o with
      | lst xs =>
        simp [hS] at e; subst e
        obtain ⟨vs, h1, h2⟩ := ro
        exact ⟨a, vs, rfl, h1, h2⟩
      | dK xs =>
        simp [hS] at e; subst e
        obtain ⟨vs, h1, h2, h3⟩ := ro
        exact ⟨a, vs, rfl, h1, h2, h3⟩
      | dT xs =>
        simp [hS] at e; subst e
        obtain ⟨vs, h1, h2, h3⟩ := ro
        exact ⟨a, vs, rfl, h1, h2, h3⟩
      | ins q fs => simp [hS] at e
      | dL C dx fs => simp [hS] at e
  | lst h n z rr => cases e; exact ⟨_, _, rfl, h, rr⟩
  | dK h n z e2 rr => cases e; exact ⟨_, _, rfl, h, e2, rr⟩
  | dT h n z e2 rr => cases e; exact ⟨_, _, rfl, h, e2, rr⟩
  | non => cases e; exact .non
  | bl b => cases e; exact .bl b
  | int b => cases e; exact .int b
  | str b => cases e; exact .str b
  | tup a b c => cases e; exact .tup a b c
  | tupK a b => cases e; exact .tupK a b
  | opq v => cases e; exact .opq v
  | scr a b c => cases e; exact .scr a b c
  | tupF a b c d => cases e; exact .tupF a b c d
  | scrK a b => cases e; exact .scrK a b
  | exc a b c d e' f g h i => cases e; exact .exc a b c d e' f g h i
  | excN a b c d => cases e; exact .excN a b c d
  | lam a b c => cases e; exact .lam a b c
  | cls a => cases e; exact .cls a
  | ins h n z cq e2 rr => cases e; exact .ins h n z cq e2 rr
/-- a list or a tuple, as it is read -/
def seqOf : Cv → Option (List Cv)
  | .lst xs => some xs
  | .tup xs => some xs
  | .scr xs => some xs
  | _ => none
theorem RepD.seq {w : Cv} {v : V} {xs : List Cv} (r : RepD K Z S H w v) (e : seqOf w = some xs) : ∃ a vs, v = .ref a ∧ (SqL K H a vs ∨ SqT K H a vs) ∧ Reps K Z S H xs vs := by
  cases w with
  | lst ys => cases e; obtain ⟨a, vs, rfl, h, rr⟩ := r; exact ⟨a, vs, rfl, .inl (.inl (.inl h)), rr⟩
  | tup ys =>
    cases e
    cases r with
    | tup h n rr => exact ⟨_, _, rfl, .inr (.inl h.rd), rr⟩
    | tupK h rr => exact ⟨_, _, rfl, .inr (h.2 H), rr⟩
  | scr ys =>
    cases e
    cases r with
    | scr h n rr => exact ⟨_, _, rfl, .inl (.inl (.inr ⟨_, h⟩)), rr⟩
    | scrK h rr => exact ⟨_, _, rfl, .inl (h H), rr⟩
  | _ => cases e
end
/-! ### data and their equality -/
mutual
def isD : Cv → Bool
  | .non | .bl _ | .int _ => true
  | .str x => PyData.strOk x
  | .tup xs => isDs xs
  | .lst xs => isDs xs
  | _ => false
def isDs : List Cv → Bool
  | [] => true
  | x :: r => isD x && isDs r
end
mutual
def py : Cv → PyData
  | .bl b => .bool b
  | .int i => .int i
  | .str x => .str x
  | .tup xs => .tuple (pys xs)
  | .lst xs => .list (pys xs)
  | _ => .none
def pys : List Cv → List PyData
  | [] => []
  | x :: r => py x :: pys r
end
mutual
def dep : Cv → Nat
  | .tup xs => deps xs + 1
  | .lst xs => deps xs + 1
  | _ => 0
def deps : List Cv → Nat
  | [] => 0
  | x :: r => max (dep x) (deps r)
end
mutual
def ceq : Cv → Cv → Bool
  | .non, .non => true
  | .bl a, .bl b => a == b
  | .bl a, .int j => (if a then 1 else 0) == j
  | .int i, .bl b => i == (if b then 1 else 0)
  | .int i, .int j => i == j
  | .str x, .str y => x == y
  | .tup xs, .tup ys => ceqs xs ys
  | .lst xs, .lst ys => ceqs xs ys
  | _, _ => false
def ceqs : List Cv → List Cv → Bool
  | [], [] => true
  | x :: xs, y :: ys => ceq x y && ceqs xs ys
  | _, _ => false
end
mutual
theorem canLay_py : ∀ w : Cv, isD w = true → (py w).canLay0 = true
  | .non, _ => by simp [py, PyData.canLay0]
  | .bl b, _ => by simp [py, PyData.canLay0]
  | .int i, _ => by simp [py, PyData.canLay0]
  | .str x, h => by simpa [py, PyData.canLay0, isD] using h
  | .tup xs, h => by simp [py, PyData.canLay0, canLay_pys xs (by simpa [isD] using h)]
  | .lst xs, h => by simp [py, PyData.canLay0, canLay_pys xs (by simpa [isD] using h)]
  | .dK _, h => by simp [isD] at h
  | .dT _, h => by simp [isD] at h
  | .ins _ _, h => by simp [isD] at h
  | .ref _, h => by simp [isD] at h
  | .opq _, h => by simp [isD] at h
  | .scr _, h => by simp [isD] at h
  | .tupF _, h => by simp [isD] at h
  | .exc _ _, h => by simp [isD] at h
  | .lam _ _ _ _ _, h => by simp [isD] at h
  | .cls _, h => by simp [isD] at h
theorem canLay_pys : ∀ xs : List Cv, isDs xs = true → PyData.canLayAll0 (pys xs) = true
  | [], _ => by simp [pys, PyData.canLayAll0]
  | x :: r, h => by
    simp only [isDs, Bool.and_eq_true] at h
    simp [pys, PyData.canLayAll0, canLay_py x h.1, canLay_pys r h.2]
end
mutual
theorem depth_py : ∀ w : Cv, (py w).depth = dep w
  | .non => by simp [py, PyData.depth, dep]
  | .bl b => by simp [py, PyData.depth, dep]
  | .int i => by simp [py, PyData.depth, dep]
  | .str x => by simp [py, PyData.depth, dep]
  | .tup xs => by simp [py, PyData.depth, dep, depth_pys xs]
  | .lst xs => by simp [py, PyData.depth, dep, depth_pys xs]
  | .dK _ => by simp [py, PyData.depth, dep]
  | .dT _ => by simp [py, PyData.depth, dep]
  | .ins _ _ => by simp [py, PyData.depth, dep]
  | .ref _ => by simp [py, PyData.depth, dep]
  | .opq _ => by simp [py, PyData.depth, dep]
  | .scr _ => by simp [py, PyData.depth, dep]
  | .tupF _ => by simp [py, PyData.depth, dep]
  | .exc _ _ => by simp [py, PyData.depth, dep]
  | .lam _ _ _ _ _ => by simp [py, PyData.depth, dep]
  | .cls _ => by simp [py, PyData.depth, dep]
theorem depth_pys : ∀ xs : List Cv, PyData.depthAll (pys xs) = deps xs
  | [] => by simp [pys, PyData.depthAll, deps]
  | x :: r => by simp [pys, PyData.depthAll, deps, depth_py x, depth_pys r]
end
theorem shaped_py {w : Cv} (hd : isD w = true) (h : dep w ≤ 64) : SeqAt.shaped (py w) = true := by
  unfold SeqAt.shaped
  rw [canLay_py w hd, depth_py]
  simp [h]
mutual
theorem eqv_py : ∀ a b : Cv, isD a = true → isD b = true → PyData.eqv (py a) (py b) = ceq a b
  | .non, b, _, hb => by cases b <;> first | (simp [isD] at hb; done) | (simp [py, PyData.eqv, ceq]; done) | (simp [isD] at hb; simp [py, PyData.eqv, ceq]; done)
  | .bl x, b, _, hb => by cases b <;> first | (simp [isD] at hb; done) | (simp [py, PyData.eqv, ceq]; done) | (simp [isD] at hb; simp [py, PyData.eqv, ceq]; done)
  | .int x, b, _, hb => by cases b <;> first | (simp [isD] at hb; done) | (simp [py, PyData.eqv, ceq]; done) | (simp [isD] at hb; simp [py, PyData.eqv, ceq]; done)
  | .str x, b, _, hb => by cases b <;> first | (simp [isD] at hb; done) | (simp [py, PyData.eqv, ceq]; done) | (simp [isD] at hb; simp [py, PyData.eqv, ceq]; done)
  | .tup xs, .tup ys, ha, hb => by simp only [py, PyData.eqv, ceq]; exact eqv_pys xs ys (by simpa [isD] using ha) (by simpa [isD] using hb)
  | .lst xs, .lst ys, ha, hb => by simp only [py, PyData.eqv, ceq]; exact eqv_pys xs ys (by simpa [isD] using ha) (by simpa [isD] using hb)
  | .tup xs, .non, _, _ => by simp [py, PyData.eqv, ceq]
  | .tup xs, .bl _, _, _ => by simp [py, PyData.eqv, ceq]
  | .tup xs, .int _, _, _ => by simp [py, PyData.eqv, ceq]
  | .tup xs, .str _, _, _ => by simp [py, PyData.eqv, ceq]
  | .tup xs, .lst _, _, _ => by simp [py, PyData.eqv, ceq]
  | .lst xs, .non, _, _ => by simp [py, PyData.eqv, ceq]
  | .lst xs, .bl _, _, _ => by simp [py, PyData.eqv, ceq]
  | .lst xs, .int _, _, _ => by simp [py, PyData.eqv, ceq]
  | .lst xs, .str _, _, _ => by simp [py, PyData.eqv, ceq]
  | .lst xs, .tup _, _, _ => by simp [py, PyData.eqv, ceq]
  | .tup _, .dK _, _, hb => by simp [isD] at hb
  | .tup _, .dT _, _, hb => by simp [isD] at hb
  | .tup _, .ins _ _, _, hb => by simp [isD] at hb
  | .tup _, .ref _, _, hb => by simp [isD] at hb
  | .tup _, .opq _, _, hb => by simp [isD] at hb
  | .tup _, .scr _, _, hb => by simp [isD] at hb
  | .tup _, .tupF _, _, hb => by simp [isD] at hb
  | .tup _, .exc _ _, _, hb => by simp [isD] at hb
  | .tup _, .lam _ _ _ _ _, _, hb => by simp [isD] at hb
  | .tup _, .cls _, _, hb => by simp [isD] at hb
  | .lst _, .dK _, _, hb => by simp [isD] at hb
  | .lst _, .dT _, _, hb => by simp [isD] at hb
  | .lst _, .ins _ _, _, hb => by simp [isD] at hb
  | .lst _, .ref _, _, hb => by simp [isD] at hb
  | .lst _, .opq _, _, hb => by simp [isD] at hb
  | .lst _, .scr _, _, hb => by simp [isD] at hb
  | .lst _, .tupF _, _, hb => by simp [isD] at hb
  | .lst _, .exc _ _, _, hb => by simp [isD] at hb
  | .lst _, .lam _ _ _ _ _, _, hb => by simp [isD] at hb
  | .lst _, .cls _, _, hb => by simp [isD] at hb
  | .dK _, _, ha, _ => by simp [isD] at ha
  | .dT _, _, ha, _ => by simp [isD] at ha
  | .ins _ _, _, ha, _ => by simp [isD] at ha
  | .ref _, _, ha, _ => by simp [isD] at ha
  | .opq _, _, ha, _ => by simp [isD] at ha
  | .scr _, _, ha, _ => by simp [isD] at ha
  | .tupF _, _, ha, _ => by simp [isD] at ha
  | .exc _ _, _, ha, _ => by simp [isD] at ha
  | .lam _ _ _ _ _, _, ha, _ => by simp [isD] at ha
  | .cls _, _, ha, _ => by simp [isD] at ha
theorem eqv_pys : ∀ xs ys : List Cv, isDs xs = true → isDs ys = true → PyData.eqvAll (pys xs) (pys ys) = ceqs xs ys
  | [], [], _, _ => by simp [pys, PyData.eqvAll, ceqs]
  | [], _ :: _, _, _ => by simp [pys, PyData.eqvAll, ceqs]
  | _ :: _, [], _, _ => by simp [pys, PyData.eqvAll, ceqs]
  | x :: xs, y :: ys, ha, hb => by
    simp only [isDs, Bool.and_eq_true] at ha hb
    simp only [pys, PyData.eqvAll, ceqs, eqv_py x y ha.1 hb.1, eqv_pys xs ys ha.2 hb.2]
end
section
variable {K : Fg} {Z : List Addr} {S : Sto} {H : Hp}
mutual
theorem Rep.dp : ∀ {w : Cv} {v : V}, Rep K Z S H w v → isD w = true → Dp K H v (py w)
  | _, _, .non, _ => by simp only [py]; exact .non
  | _, _, .bl b, _ => by simp only [py]; exact .bl b
  | _, _, .int i, _ => by simp only [py]; exact .int i
  | _, _, .str x, _ => by simp only [py]; exact .str x
  | _, _, .tup h n r, e => by simp only [py]; exact .tup (.inl h.rd) (Reps.dp r (by simpa [isD] using e))
  | _, _, .tupK h r, e => by simp only [py]; exact .tup (h.2 H) (Reps.dp r (by simpa [isD] using e))
  | _, _, .lst h n z r, e => by simp only [py]; exact .lst (.inl (.inl h)) (Reps.dp r (by simpa [isD] using e))
  | _, _, .dK _ _ _ _ _, e => by simp [isD] at e
  | _, _, .dT _ _ _ _ _, e => by simp [isD] at e
  | _, _, .ins _ _ _ _ _ _, e => by simp [isD] at e
  | _, _, .ref _, e => by simp [isD] at e
  | _, _, .opq _, e => by simp [isD] at e
  | _, _, .scr _ _ _, e => by simp [isD] at e
  | _, _, .tupF _ _ _ _, e => by simp [isD] at e
  | _, _, .scrK _ _, e => by simp [isD] at e
  | _, _, .exc _ _ _ _ _ _ _ _ _, e => by simp [isD] at e
  | _, _, .excN _ _ _ _, e => by simp [isD] at e
  | _, _, .lam _ _ _, e => by simp [isD] at e
  | _, _, .cls _, e => by simp [isD] at e
theorem Reps.dp : ∀ {ws : List Cv} {vs : List V}, Reps K Z S H ws vs → isDs ws = true → DpAll K H vs (pys ws)
  | _, _, .nil, _ => by simp only [pys]; exact .nil
  | _, _, .cons a r, e => by
    simp only [isDs, Bool.and_eq_true] at e
    simp only [pys]
    exact .cons (Rep.dp a e.1) (Reps.dp r e.2)
end
theorem RepD.dp {w : Cv} {v : V} (r : RepD K Z S H w v) (e : isD w = true) : Dp K H v (py w) := by
  cases w with
  | lst xs => obtain ⟨a, vs, rfl, h, rr⟩ := r; simp only [py]; exact .lst (.inl (.inl h)) (rr.dp (by simpa [isD] using e))
  | dK _ => simp [isD] at e
  | dT _ => simp [isD] at e
  | ref _ => simp [isD] at e
  | _ => exact Rep.dp r e
end
def okD (w : Cv) : Bool := isD w && decide (dep w ≤ 64)
theorem okD_D {w : Cv} (h : okD w = true) : isD w = true := (Bool.and_eq_true_iff.mp h).1
theorem okD_dep {w : Cv} (h : okD w = true) : dep w ≤ 64 := of_decide_eq_true (Bool.and_eq_true_iff.mp h).2
/-! ### the operations -/
section
variable {X : Cx}
theorem s2_of {f : Value → Value → Sem Value} {r : C2} (m : Mon2 r) (h : ∀ (pins : List (Addr × Obj)) (s : Shared) (σ : L2.St) (H : Hp) (x y : V) (v u : Value) (Q : VK) (Z : List Addr) (S : Sto) (a b : Cv), Inv X pins σ H s → RelV x v → RelV y u →
    StOk X.K Z S H → Rep X.K Z S H a x → Rep X.K Z S H b y → r a b S (fun w S' => ∀ v H', Fr S H S' H' → StOk X.K Z S' H' → Rep X.K Z S' H' w v → Q v H') → wpAny (model X.prog X.w) X.A (f v u) (EP X pins σ Q) X.xe s) : S2 X f r :=
  ⟨m, fun pins s σ H x y v u Q I rx ry q => by
    obtain ⟨Z, S, a, b, ok, ra, rb, q⟩ := q
    exact h pins s σ H x y v u Q Z S a b I rx ry ok ra rb q⟩
/-- two ints -/
def cI2 (C : Int → Int → Prop) (g : Int → Int → Cv) : C2 := fun a b S Q => match a, b with
  | .int i, .int j => C i j ∧ Q (g i j) S
  | _, _ => False
theorem cI2_mono {C : Int → Int → Prop} {g : Int → Int → Cv} : Mon2 (cI2 C g) := fun a b S Q Q' f h => by
  unfold cI2 at h ⊢
  split at h
  · exact ⟨h.1, f _ _ h.2⟩
  · exact h.elim
theorem s2_int {f : Value → Value → Sem Value} {C : Int → Int → Prop} {g : Int → Int → Cv} {g' : Int → Int → V} (ho : OpR X f (rI C g')) (hg : ∀ K Z S H i j, Rep K Z S H (g i j) (g' i j)) : S2 X f (cI2 C g) :=
  s2_of cI2_mono fun pins s σ H x y v u Q Z S a b I rx ry ok ra rb q => by
    unfold cI2 at q
    split at q
    · rename_i i j
      cases ra; cases rb
      exact ho pins s σ H _ _ v u Q I rx ry ⟨i, j, rfl, rfl, q.1, q.2 _ H (Fr.refl S H) ok (hg _ _ _ _ i j)⟩
    · exact q.elim
theorem s2_int0 {f : Value → Value → Sem Value} {g : Int → Int → Cv} {g' : Int → Int → V} (ho : OpR X f (rI0 g')) (hg : ∀ K Z S H i j, Rep K Z S H (g i j) (g' i j)) : S2 X f (cI2 (fun _ _ => True) g) :=
  s2_of cI2_mono fun pins s σ H x y v u Q Z S a b I rx ry ok ra rb q => by
    unfold cI2 at q
    split at q
    · rename_i i j
      cases ra; cases rb
      exact ho pins s σ H _ _ v u Q I rx ry ⟨i, j, rfl, rfl, q.2 _ H (Fr.refl S H) ok (hg _ _ _ _ i j)⟩
    · exact q.elim
theorem o_sub : S2 X (binaryOp .Sub) (cI2 (fun _ _ => True) fun i j => .int (i - j)) := s2_int0 op_sub fun _ _ _ _ _ _ => .int _
theorem o_mul : S2 X (binaryOp .Mult) (cI2 CMulW fun i j => .int (i * j)) := s2_int op_mulW fun _ _ _ _ _ _ => .int _
theorem o_fdiv : S2 X (binaryOp .FloorDiv) (cI2 CDivW fun i j => .int (i / j)) := s2_int op_fdivW fun _ _ _ _ _ _ => .int _
theorem o_mod : S2 X (binaryOp .Mod) (cI2 (fun _ j => 0 < j) fun i j => .int (i % j)) := s2_int op_mod fun _ _ _ _ _ _ => .int _
def CPw (i j : Int) : Prop := 0 ≤ j ∧ (Builtin.Int.intBits i : Int) * j ≤ 2 ^ 27
theorem o_pow : S2 X (binaryOp .Pow) (cI2 CPw fun i j => .int (i ^ j.toNat)) := s2_int (C := CPw) (g' := fun i j => .int (i ^ j.toNat)) (opI fun _ _ _ _ _ _ _ hc q => pow_int hc.1 hc.2 q) fun _ _ _ _ _ _ => .int _
theorem o_shl : S2 X (binaryOp .LShift) (cI2 CPow fun i j => .int (i * 2 ^ j.toNat)) := s2_int op_shl fun _ _ _ _ _ _ => .int _
theorem o_and : S2 X (binaryOp .BitAnd) (cI2 (fun _ _ => True) fun i j => .int (Builtin.bitAnd i j)) := s2_int0 op_and fun _ _ _ _ _ _ => .int _
/-- + -/
def cAdd : C2 := fun a b S Q => match a, b with
  | .int i, .int j => Q (.int (i + j)) S
  | .str x, .str y => x.length + y.length ≤ sizeLine ∧ Q (.str (x ++ y)) S
  | .tup xs, .tup ys => xs.length + ys.length ≤ sizeLine ∧ Q (.tup (xs ++ ys)) S
  | a, b => match deref a S, deref b S with
    | some (.lst xs), some (.lst ys) => xs.length + ys.length ≤ sizeLine ∧ Q (.lst (xs ++ ys)) S
    | _, _ => False
theorem cAdd_mono : Mon2 cAdd := fun a b S Q Q' f h => by
  unfold cAdd at h ⊢
  split at h
  · exact f _ _ h
  · exact ⟨h.1, f _ _ h.2⟩
  · exact ⟨h.1, f _ _ h.2⟩
  · split at h
    · exact ⟨h.1, f _ _ h.2⟩
    · exact h.elim
theorem RepD.lstH {K : Fg} {Z : List Addr} {S : Sto} {H : Hp} {xs : List Cv} {v : V} (r : RepD K Z S H (.lst xs) v) : ∃ a vs, v = .ref a ∧ H a = some (.lst vs) ∧ Reps K Z S H xs vs := r
/-- a new frozen list -/
theorem new_lst {K : Fg} {Z : List Addr} {S : Sto} {H : Hp} {Q : VK} {ws : List Cv} {vs : List V} {p : Addr} (ok : StOk K Z S H) (hp : H p = none) (r : Reps K Z S H ws vs)
    (q : ∀ v H', Fr S H S H' → StOk K Z S H' → Rep K Z S H' (.lst ws) v → Q v H') : Q (.ref p) (upd H p (.lst vs)) :=
  q _ _ (Fr.new hp) (ok.new hp) (.lst upd_same (ok.free hp) (ok.notZ hp) (r.fr (Fr.new hp)))
theorem new_tup {K : Fg} {Z : List Addr} {S : Sto} {H : Hp} {Q : VK} {ws : List Cv} {vs : List V} {p : Addr} (ok : StOk K Z S H) (hp : H p = none) (r : Reps K Z S H ws vs)
    (q : ∀ v H', Fr S H S H' → StOk K Z S H' → Rep K Z S H' (.tup ws) v → Q v H') : Q (.ref p) (upd H p (.tup vs)) :=
  q _ _ (Fr.new hp) (ok.new hp) (.tup (.inl upd_same) (ok.free hp) (r.fr (Fr.new hp)))
theorem RepD.tupH {K : Fg} {Z : List Addr} {S : Sto} {H : Hp} {xs : List Cv} {v : V} (r : Rep K Z S H (.tup xs) v) : ∃ a vs, v = .ref a ∧ SqT K H a vs ∧ Reps K Z S H xs vs := by
  cases r with
  | tup h n rr => exact ⟨_, _, rfl, .inl h.rd, rr⟩
  | tupK h rr => exact ⟨_, _, rfl, h.2 H, rr⟩
theorem Reps.nil_iff {K : Fg} {Z : List Addr} {S : Sto} {H : Hp} {ws : List Cv} {vs : List V} (r : Reps K Z S H ws vs) : vs = [] ↔ ws = [] := by
  cases r <;> simp
theorem add_ok {f : Value → Value → Sem Value} (h1 : OpR X f (rI0 fun i j => .int (i + j))) (h2 : OpR X f (fun x y H Q => ∃ i j, x = .str i ∧ y = .str j ∧ i.length + j.length ≤ sizeLine ∧ Q (.str (i ++ j)) H)) (h3 : OpR X f (rCatA X.K)) (h4 : OpR X f rCat) : S2 X f cAdd :=
  s2_of cAdd_mono fun pins s σ H x y v u Q Z S a b I rx ry ok ra rb q => by
    unfold cAdd at q
    split at q
    · cases ra; cases rb
      exact h1 pins s σ H _ _ v u Q I rx ry ⟨_, _, rfl, rfl, q _ H (Fr.refl S H) ok (.int _)⟩
    · cases ra; cases rb
      exact h2 pins s σ H _ _ v u Q I rx ry ⟨_, _, rfl, rfl, q.1, q.2 _ H (Fr.refl S H) ok (.str _)⟩
    · obtain ⟨a1, v1, rfl, t1, r1⟩ := RepD.tupH ra
      obtain ⟨a2, v2, rfl, t2, r2⟩ := RepD.tupH rb
      refine h3 pins s σ H _ _ v u Q I rx ry ⟨a1, a2, v1, v2, rfl, rfl, t1, t2, by rw [← r1.length, ← r2.length]; exact q.1, fun e => ?_, fun _ e2 => ?_, fun _ _ p hp => new_tup ok hp (r1.app r2) q.2⟩
      · have e1 := r1.nil_iff.mp e
        subst e1
        exact q.2 _ H (Fr.refl S H) ok (by simpa using rb)
      · have e3 := r2.nil_iff.mp e2
        subst e3
        exact q.2 _ H (Fr.refl S H) ok (by simpa using ra)
    · split at q
      · rename_i xs ys e1 e2
        obtain ⟨a1, v1, rfl, t1, r1⟩ := RepD.lstH (deref_ok ok ra e1)
        obtain ⟨a2, v2, rfl, t2, r2⟩ := RepD.lstH (deref_ok ok rb e2)
        exact h4 pins s σ H _ _ v u Q I rx ry ⟨a1, a2, v1, v2, rfl, rfl, t1, t2, by rw [← r1.length, ← r2.length]; exact q.1, fun p hp => new_lst ok hp (r1.app r2) q.2⟩
      · exact q.elim
theorem o_add : S2 X (binaryOp .Add) cAdd := add_ok op_add op_add_str op_catA op_cat
theorem sip_int {op : Operator} {f : Int → Int → Int} (ho : PIp X op (ipI f)) : SIp X op (cI2 (fun _ _ => True) fun i j => .int (f i j)) :=
  ⟨cI2_mono, fun pins s σ H x y v u Q I rx ry q => by
    obtain ⟨Z, S, a, b, ok, ra, rb, q⟩ := q
    unfold cI2 at q
    split at q
    · rename_i i j
      cases ra; cases rb
      exact ho pins s σ H _ _ v u Q I rx ry ⟨i, j, rfl, rfl, q.2 _ H (Fr.refl S H) ok (.int _)⟩
    · exact q.elim⟩
theorem o_lt : S2 X (compareOp .Lt) (cI2 (fun _ _ => True) fun i j => .bl (decide (i < j))) := s2_int0 op_lt fun _ _ _ _ _ _ => .bl _
theorem o_le : S2 X (compareOp .LtE) (cI2 (fun _ _ => True) fun i j => .bl (decide (i ≤ j))) := s2_int0 op_le fun _ _ _ _ _ _ => .bl _
theorem o_gt : S2 X (compareOp .Gt) (cI2 (fun _ _ => True) fun i j => .bl (decide (j < i))) := s2_int0 op_gt fun _ _ _ _ _ _ => .bl _
theorem o_ge : S2 X (compareOp .GtE) (cI2 (fun _ _ => True) fun i j => .bl (decide (j ≤ i))) := s2_int0 op_ge fun _ _ _ _ _ _ => .bl _
/-- == and != -/
def cEqB (g : Bool → Bool) : C2 := fun a b S Q => match a, b with
  | .str x, .str y => Q (.bl (g (decide (x = y)))) S
  | .int i, .int j => Q (.bl (g (decide (i = j)))) S
  | a, b => match deref a S, deref b S with
    | some a, some b => (okD a = true ∧ okD b = true) ∧ Q (.bl (g (ceq a b))) S
    | _, _ => False
abbrev cEq : C2 := cEqB fun b => b
abbrev cNe : C2 := cEqB fun b => !b
theorem cEqB_mono {g : Bool → Bool} : Mon2 (cEqB g) := fun a b S Q Q' f h => by
  unfold cEqB at h ⊢
  split at h
  · exact f _ _ h
  · exact f _ _ h
  · split at h
    · exact ⟨h.1, f _ _ h.2⟩
    · exact h.elim
theorem eqB_ok {f : Value → Value → Sem Value} {g : Bool → Bool} {r1 r2 : R2} (h1 : OpR X f r1) (h2 : OpR X f r2)
    (e1 : ∀ x y H Q, scal x y = true → Q (.bl (g (decide (x = y)))) H → r1 x y H Q) (e2 : ∀ x y H Q d e, Dp X.K H x d → Dp X.K H y e → SeqAt.shaped d = true → SeqAt.shaped e = true → Q (.bl (g (PyData.eqv d e))) H → r2 x y H Q) : S2 X f (cEqB g) :=
  s2_of cEqB_mono fun pins s σ H x y v u Q Z S a b I rx ry ok ra rb q => by
    unfold cEqB at q
    split at q
    · rename_i x y
      cases ra; cases rb
      refine h1 pins s σ H _ _ v u Q I rx ry (e1 _ _ _ _ rfl ?_)
      have e : decide (V.str x = V.str y) = decide (x = y) := decide_eq_decide.mpr ⟨fun h => V.str.inj h, fun h => by rw [h]⟩
      rw [e]
      exact q _ H (Fr.refl S H) ok (.bl _)
    · rename_i x y
      cases ra; cases rb
      refine h1 pins s σ H _ _ v u Q I rx ry (e1 _ _ _ _ rfl ?_)
      have e : decide (V.int x = V.int y) = decide (x = y) := decide_eq_decide.mpr ⟨fun h => V.int.inj h, fun h => by rw [h]⟩
      rw [e]
      exact q _ H (Fr.refl S H) ok (.bl _)
    · split at q
      · rename_i a' b' ea eb
        have ra' := deref_ok ok ra ea
        have rb' := deref_ok ok rb eb
        refine h2 pins s σ H _ _ v u Q I rx ry (e2 _ _ _ _ _ _ (ra'.dp (okD_D q.1.1)) (rb'.dp (okD_D q.1.2)) (shaped_py (okD_D q.1.1) (okD_dep q.1.1)) (shaped_py (okD_D q.1.2) (okD_dep q.1.2)) ?_)
        rw [eqv_py _ _ (okD_D q.1.1) (okD_D q.1.2)]
        exact q.2 _ H (Fr.refl S H) ok (.bl _)
      · exact q.elim
theorem o_eq (hu : X.A.units + 64 < cLine) : S2 X (compareOp .Eq) cEq := eqB_ok op_eq (op_eqD hu) (fun x y H Q h q => ⟨h, q⟩) fun x y H Q d e hd he sd se q => ⟨d, e, hd, he, sd, se, q⟩
theorem o_ne (hu : X.A.units + 64 < cLine) : S2 X (compareOp .NotEq) cNe := eqB_ok op_ne (op_neD hu) (fun x y H Q h q => ⟨h, q⟩) fun x y H Q d e hd he sd se q => ⟨d, e, hd, he, sd, se, q⟩
/-! ### items -/
def cIx : C2 := fun a b S Q => match b with
  | .int i => (match a with
    | .str z => z.length ≤ sizeLine ∧ (match atI z.cps.toList i with | some c => Q (.str ⟨#[c]⟩) S | none => False)
    | a => match deref a S with
      | some a => (match seqOf a with
        | some xs => (match atI xs i with | some w => Q w S | none => False)
        | none => False)
      | none => False)
  | _ => False
theorem cIx_mono : Mon2 cIx := fun a b S Q Q' f h => by
  unfold cIx at h ⊢
  repeat' split at h
  all_goals first | exact h.elim | exact f _ _ h | exact ⟨h.1, f _ _ h.2⟩ | exact h.2.elim
theorem reps_atI {K : Fg} {Z : List Addr} {S : Sto} {H : Hp} {ws : List Cv} {vs : List V} {i : Int} {w : Cv} (r : Reps K Z S H ws vs) (e : atI ws i = some w) : ∃ v, atI vs i = some v ∧ Rep K Z S H w v := by
  unfold atI at e ⊢
  rw [← r.length]
  cases h : ixN ws.length i with
  | none => rw [h] at e; cases e
  | some j =>
    rw [h] at e
    exact r.get e
structure SIx (X : Cx) (r : C2) : Prop where
  mono : Mon2 r
  ok : IxR X (lift2 X.K r)
theorem s_ix {a b : Expr} {ta tb : CE} {r : C2} {pos : Pos} (hr : SIx X r) (ha : SE X a ta) (hb : SE X b tb) (hs : PlainIx b := by exact fun _ _ => rfl) : SE X (.Subscript a b pos) (cOp r ta tb) :=
  ⟨cOp_mono hr.mono ha.mono hb.mono, (pe_ix hr.ok ha.ok hb.ok hs).imp fun _ _ _ h => cOp_ok hr.mono ha.mono hb.mono h⟩
theorem x_ix : SIx X cIx := ⟨cIx_mono, fun value slice pins s σ H x y v u Q I rx ry q hs => by
  obtain ⟨Z, S, a, b, ok, ra, rb, q⟩ := q
  unfold cIx at q
  split at q
  · rename_i i
    cases rb
    split at q
    · cases ra
      obtain ⟨q1, q2⟩ := q
      split at q2
      · rename_i c e
        exact ix_str value slice pins s σ H _ _ v u Q I rx ry ⟨_, _, c, rfl, rfl, q1, e, q2 _ H (Fr.refl S H) ok (.str _)⟩ hs
      · exact q2.elim
    · split at q
      · rename_i a' ea
        split at q
        · rename_i xs es
          split at q
          · rename_i w ew
            obtain ⟨p, vs, rfl, hsq, rr⟩ := (deref_ok ok ra ea).seq es
            obtain ⟨v1, h1, h2⟩ := reps_atI rr ew
            rcases hsq with hsq | hsq
            · exact ix_list value slice pins s σ H _ _ v u Q I rx ry ⟨p, vs, i, v1, rfl, rfl, hsq, h1, q _ H (Fr.refl S H) ok h2⟩ hs
            · exact ix_tup value slice pins s σ H _ _ v u Q I rx ry ⟨p, vs, i, v1, rfl, rfl, hsq, h1, q _ H (Fr.refl S H) ok h2⟩ hs
          · exact q.elim
        · exact q.elim
      · exact q.elim
  · exact q.elim⟩
/-! o[i] = e, o an owned list -/
def cSetL (to ti te : CE) : CS := fun D ws S => te ws S fun w S1 => to ws S1 fun o S2 => ti ws S2 fun i S3 => match o, i with
  | .ref p, .int k => ownL S3 p fun xs => match ixN xs.length k with | some j => D.nx ws (S3.set p (.lst (xs.set j w))) | none => False
  | _, _ => False
theorem ss_setL {o i e : Expr} {to ti te : CE} {pos tpos : Pos} (ho : SE X o to) (hi : SE X i ti) (he : SE X e te) (hs : swapsWithSole [.Subscript o i tpos] e pos.line X.env = pure false := by rfl) (hw : swappedStores [.Subscript o i tpos] e X.env = pure none := by rfl)
    (h1 : (assignEach [.Subscript o i tpos] X.env).map (·.2) = [assign (.Subscript o i tpos) X.env] := by rfl)
    (ha : ∀ v, assign (.Subscript o i tpos) X.env v = (do
      let ov ← holding [v] (eval o X.env)
      let iv ← holding [v, ov] (eval i X.env)
      standAt tpos
      holding [v, ov, iv] (setItem ov iv v)
      release [v, ov, iv] []) := by intro _; rfl) : SS X (.Assign [.Subscript o i tpos] e pos) (cSetL to ti te) := by
  refine ⟨fun D D' ws S l h => he.mono _ _ _ _ (fun w S1 h1 => ho.mono _ _ _ _ (fun x S2 h2 => hi.mono _ _ _ _ (fun y S3 h3 => ?_) h2) h1) h, (ps_asg he.ok (pg_sub ho.ok hi.ok set_list ha) hs hw h1).imp fun D σ H h => ?_⟩
  · split at h3
    · refine ownL_imp (fun xs q => ?_) h3
      split at q
      · exact l.nx _ _ q
      · exact q.elim
    · exact h3.elim
  · obtain ⟨Z, S, ws, ok, re, h⟩ := h
    refine liftE_of he.mono ok re h fun w S1 v1 H1 f1 ok1 r1 q1 => ?_
    refine liftE_of ho.mono ok1 (re.fr f1) q1 fun x S2 v2 H2 f2 ok2 r2 q2 => ?_
    refine liftE_of hi.mono ok2 ((re.fr f1).fr f2) q2 fun y S3 v3 H3 f3 ok3 r3 q3 => ?_
    split at q3
    · rename_i p k
      cases r2; cases r3
      obtain ⟨xs, ex, q3⟩ := ownL_of q3
      obtain ⟨vs, hp, rr⟩ := ok3.ob p _ ex
      split at q3
      · rename_i j ej
        have r13 : Rep X.K Z S3 H3 w v1 := (r1.fr f2).fr f3
        refine ⟨p, vs, k, j, rfl, rfl, hp, by rw [← rr.length]; exact ej, ?_⟩
        have fw : Fr S3 H3 (S3.set p (.lst (xs.set j w))) (upd H3 p (.lst (vs.set j v1))) := Fr.wr ex
        have f0 := ((f1.trans f2).trans f3).trans fw
        exact q3 _ _ f0 (ok3.wr ex ⟨_, upd_same, (rr.set r13 j).fr fw⟩) (re.fr f0)
      · exact q3.elim
    · exact q3.elim
end
end CL
/-! CL6: built-in functions, methods of lists, repr, max with a default -/
namespace CL
open PySem PySem.Spec PyProof.Rows L2
variable [LamT]
abbrev CC := List Cv → Sto → (Cv → Sto → Prop) → Prop
def MonC (r : CC) : Prop := ∀ us S (Q Q' : Cv → Sto → Prop), (∀ w S', Q w S' → Q' w S') → r us S Q → r us S Q'
def liftC (K : Fg) (r : CC) : List V → Hp → VK → Prop := fun vs H Q => ∃ Z S us, StOk K Z S H ∧ Reps K Z S H us vs ∧ r us S fun w S' => ∀ v H', Fr S H S' H' → StOk K Z S' H' → Rep K Z S' H' w v → Q v H'
structure SC (X : Cx) (f : Value) (r : CC) : Prop where
  mono : MonC r
  ok : CallR X f (liftC X.K r)
def cCB (r : CC) (ta : CA) : CE := fun ws S Q => ta ws S fun us S1 => r us S1 Q
section
variable {X : Cx} {x : Str} {p pos : Pos} {e : Expr} {es : List Expr} {ta : CA} {idn T : String} {r : CC}
theorem cCB_mono (hr : MonC r) (ha : MonA ta) : MonE (cCB r ta) := fun ws S Q Q' f h => ha _ _ _ _ (fun us S1 q => hr _ _ _ _ f q) h
theorem cCB_ok {K : Fg} (hr : MonC r) (ha : MonA ta) {σ : L2.St} {H : Hp} {Q : VK} (h : liftE K (cCB r ta) σ H Q) : tCB (liftC K r) (liftA K ta) σ H Q := by
  obtain ⟨Z, S, ws, ok, re, h⟩ := h
  refine liftA_of ha ok re h fun us S1 vs H1 f1 ok1 r1 q1 => ?_
  exact ⟨Z, S1, us, ok1, r1, hr _ _ _ _ (fun w S' g v H' a b c => g v H' (f1.trans a) b c) q1⟩
theorem s_callB (hc : SC X (.builtin idn) r) (hm : X.mg x = none) (ha : SA X (e :: es) ta) (hg : Gl X x := by rfl) (hv : bootBuiltins x = some (.builtin idn) := by decide +kernel) (hn : x ≠ "__name__" := by decide) (hdb : (x == ("__debug__" : Str)) = false := by decide)
    (he : starEach (e :: es) X.env = (false, eval e X.env) :: starEach es X.env := by rfl) (hpl : (backTo pos (starEach es X.env)).any (·.1) = false := by rfl) : SE X (.Call (.Name x p) (e :: es) [] pos) (cCB r ta) :=
  ⟨cCB_mono hc.mono ha.mono, (pe_callB hc.ok hg hm hv ha.ok hn hdb he hpl).imp fun _ _ _ h => cCB_ok hc.mono ha.mono h⟩
theorem s_callT (hc : SC X (.type T) r) (hm : X.mg x = none) (ha : SA X (e :: es) ta) (hg : Gl X x := by rfl) (hv : bootBuiltins x = some (.type T) := by decide +kernel) (hn : x ≠ "__name__" := by decide) (hdb : (x == ("__debug__" : Str)) = false := by decide)
    (he : starEach (e :: es) X.env = (false, eval e X.env) :: starEach es X.env := by rfl) (hpl : (backTo pos (starEach es X.env)).any (·.1) = false := by rfl) : SE X (.Call (.Name x p) (e :: es) [] pos) (cCB r ta) :=
  ⟨cCB_mono hc.mono ha.mono, (pe_callTy hc.ok hg hm hv ha.ok hn hdb he hpl).imp fun _ _ _ h => cCB_ok hc.mono ha.mono h⟩
theorem sc_of {f : Value} {r : CC} (m : MonC r) (h : ∀ (pins : List (Addr × Obj)) (s : Shared) (σ : L2.St) (H : Hp) (xs : List V) (us : List Value) (Q : VK) (Z : List Addr) (S : Sto) (ws : List Cv), Inv X pins σ H s → Vals xs us → StOk X.K Z S H → Reps X.K Z S H ws xs →
    r ws S (fun w S' => ∀ v H', Fr S H S' H' → StOk X.K Z S' H' → Rep X.K Z S' H' w v → Q v H') → wpAny (model X.prog X.w) X.A (call f us) (EP X pins σ Q) X.xe s) : SC X f r :=
  ⟨m, fun pins s σ H xs us Q I rv q => by
    obtain ⟨Z, S, ws, ok, re, q⟩ := q
    exact h pins s σ H xs us Q Z S ws I rv ok re q⟩
/-- len -/
def cLen : CC := fun us S Q => match us with
  | [.str z] => z.length ≤ sizeLine ∧ Q (.int z.length) S
  | [w] => (match deref w S with | some w => (match seqOf w with | some xs => Q (.int xs.length) S | none => False) | none => False)
  | _ => False
theorem b_len : SC X (.builtin "len") cLen := sc_of (fun us S Q Q' f h => by
    unfold cLen at h ⊢
    repeat' split at h
    all_goals first | exact h.elim | exact f _ _ h | exact ⟨h.1, f _ _ h.2⟩) fun pins s σ H xs us Q Z S ws I rv ok re q => by
  unfold cLen at q
  split at q
  · cases re with
    | cons a b => cases b; cases a; exact call_len pins s σ H _ us Q I rv ⟨_, _, rfl, ⟨q.1, rfl⟩, q.2 _ H (Fr.refl S H) ok (.int _)⟩
  · cases re with
    | cons a b =>
      cases b
      split at q
      · rename_i w ew
        split at q
        · rename_i xs ex
          obtain ⟨p, vs, rfl, hs, rr⟩ := (deref_ok ok a ew).seq ex
          exact call_len_seq pins s σ H _ us Q I rv ⟨p, vs, rfl, hs, by rw [← rr.length]; exact q _ H (Fr.refl S H) ok (.int _)⟩
        · exact q.elim
      · exact q.elim
  · exact q.elim
def cAbs : CC := fun us S Q => match us with | [.int i] => Q (.int i.natAbs) S | _ => False
theorem b_abs : SC X (.builtin "abs") cAbs := sc_of (fun us S Q Q' f h => by
    unfold cAbs at h ⊢
    split at h
    · exact f _ _ h
    · exact h.elim) fun pins s σ H xs us Q Z S ws I rv ok re q => by
  unfold cAbs at q
  split at q
  · rename_i i
    cases re with
    | cons a b =>
      cases b; cases a
      refine call_abs pins s σ H _ us Q I rv ⟨i, rfl, ?_⟩
      have e : (if i < 0 then -i else i) = (i.natAbs : Int) := by split <;> omega
      rw [e]
      exact q _ H (Fr.refl S H) ok (.int _)
  · exact q.elim
def cInt : CC := fun us S Q => match us with | [.int i] => Q (.int i) S | [.bl b] => Q (.int (if b = true then 1 else 0)) S | _ => False
theorem b_int : SC X (.type "int") cInt := sc_of (fun us S Q Q' f h => by
    unfold cInt at h ⊢
    split at h
    · exact f _ _ h
    · exact f _ _ h
    · exact h.elim) fun pins s σ H xs us Q Z S ws I rv ok re q => by
  unfold cInt at q
  split at q
  · cases re with
    | cons a b => cases b; cases a; exact call_int1 pins s σ H _ us Q I rv (.inl ⟨_, rfl, q _ H (Fr.refl S H) ok (.int _)⟩)
  · cases re with
    | cons a b => cases b; cases a; exact call_int1 pins s σ H _ us Q I rv (.inr ⟨_, rfl, q _ H (Fr.refl S H) ok (.int _)⟩)
  · exact q.elim
/-- the ints of a list -/
def asInts : List Cv → Option (List Int)
  | [] => some []
  | .int i :: r => (asInts r).map (i :: ·)
  | _ => none
theorem asInts_ok {K : Fg} {Z : List Addr} {S : Sto} {H : Hp} : ∀ {ws : List Cv} {vs : List V} {ns : List Int}, Reps K Z S H ws vs → asInts ws = some ns → vs = ns.map V.int
  | _, _, ns, .nil, e => by
    simp only [asInts, Option.some.injEq] at e
    subst e; rfl
  | _, _, ns, .cons (w := w) (ws := ws) a r, e => by
    cases a with
    | int i =>
      simp only [asInts] at e
      cases h : asInts ws with
      | none => rw [h] at e; cases e
      | some ms =>
        rw [h] at e
        simp only [Option.map_some, Option.some.injEq] at e
        subst e
        rw [asInts_ok r h]; rfl
    | _ => simp [asInts] at e
def asBools : List Cv → Option (List Bool)
  | [] => some []
  | .bl b :: r => (asBools r).map (b :: ·)
  | _ => none
theorem asBools_ok {K : Fg} {Z : List Addr} {S : Sto} {H : Hp} : ∀ {ws : List Cv} {vs : List V} {ns : List Bool}, Reps K Z S H ws vs → asBools ws = some ns → vs = ns.map V.bl
  | _, _, ns, .nil, e => by
    simp only [asBools, Option.some.injEq] at e
    subst e; rfl
  | _, _, ns, .cons (w := w) (ws := ws) a r, e => by
    cases a with
    | bl i =>
      simp only [asBools] at e
      cases h : asBools ws with
      | none => rw [h] at e; cases e
      | some ms =>
        rw [h] at e
        simp only [Option.map_some, Option.some.injEq] at e
        subst e
        rw [asBools_ok r h]; rfl
    | _ => simp [asBools] at e
@[simp] theorem asInts_map (ns : List Int) : asInts (ns.map Cv.int) = some ns := by
  induction ns with
  | nil => rfl
  | cons n r ih => simp [asInts, ih]
@[simp] theorem asBools_map (ns : List Bool) : asBools (ns.map Cv.bl) = some ns := by
  induction ns with
  | nil => rfl
  | cons n r ih => simp [asBools, ih]
def lmax (d : Int) : List Int → Int
  | [] => d
  | x :: r => r.foldl max x
def lmin (d : Int) : List Int → Int
  | [] => d
  | x :: r => r.foldl min x
theorem foldl_max_spec : ∀ (r : List Int) (x : Int), (r.foldl max x = x ∨ r.foldl max x ∈ r) ∧ x ≤ r.foldl max x ∧ ∀ y ∈ r, y ≤ r.foldl max x
  | [], x => ⟨.inl rfl, Int.le_refl _, fun y h => by simp at h⟩
  | a :: r, x => by
    obtain ⟨h1, h2, h3⟩ := foldl_max_spec r (max x a)
    simp only [List.foldl_cons]
    refine ⟨?_, by omega, fun y hy => ?_⟩
    · rcases h1 with h1 | h1
      · by_cases c : x ≤ a
        · right; rw [h1, Int.max_eq_right c]; exact List.mem_cons_self
        · left; rw [h1, Int.max_eq_left (by omega)]
      · right; exact List.mem_cons_of_mem _ h1
    · rcases List.mem_cons.mp hy with e | hy
      · subst e; omega
      · exact h3 y hy
theorem foldl_min_spec : ∀ (r : List Int) (x : Int), (r.foldl min x = x ∨ r.foldl min x ∈ r) ∧ r.foldl min x ≤ x ∧ ∀ y ∈ r, r.foldl min x ≤ y
  | [], x => ⟨.inl rfl, Int.le_refl _, fun y h => by simp at h⟩
  | a :: r, x => by
    obtain ⟨h1, h2, h3⟩ := foldl_min_spec r (min x a)
    simp only [List.foldl_cons]
    refine ⟨?_, by omega, fun y hy => ?_⟩
    · rcases h1 with h1 | h1
      · by_cases c : x ≤ a
        · left; rw [h1, Int.min_eq_left c]
        · right; rw [h1, Int.min_eq_right (by omega)]; exact List.mem_cons_self
      · right; exact List.mem_cons_of_mem _ h1
    · rcases List.mem_cons.mp hy with e | hy
      · subst e; omega
      · exact h3 y hy
theorem lmax_mem {d : Int} {ns : List Int} (h : ns ≠ []) : lmax d ns ∈ ns := by
  cases ns with
  | nil => exact absurd rfl h
  | cons x r =>
    rcases (foldl_max_spec r x).1 with e | e
    · show r.foldl max x ∈ x :: r
      rw [e]; exact List.mem_cons_self
    · exact List.mem_cons_of_mem _ e
theorem lmax_ge {d : Int} {ns : List Int} : ∀ y ∈ ns, y ≤ lmax d ns := by
  cases ns with
  | nil => intro y h; simp at h
  | cons x r =>
    intro y h
    obtain ⟨_, h2, h3⟩ := foldl_max_spec r x
    rcases List.mem_cons.mp h with e | h
    · subst e; exact h2
    · exact h3 y h
theorem lmin_mem {d : Int} {ns : List Int} (h : ns ≠ []) : lmin d ns ∈ ns := by
  cases ns with
  | nil => exact absurd rfl h
  | cons x r =>
    rcases (foldl_min_spec r x).1 with e | e
    · show r.foldl min x ∈ x :: r
      rw [e]; exact List.mem_cons_self
    · exact List.mem_cons_of_mem _ e
theorem lmin_le {d : Int} {ns : List Int} : ∀ y ∈ ns, lmin d ns ≤ y := by
  cases ns with
  | nil => intro y h; simp at h
  | cons x r =>
    intro y h
    obtain ⟨_, h2, h3⟩ := foldl_min_spec r x
    rcases List.mem_cons.mp h with e | h
    · subst e; exact h2
    · exact h3 y h
/-- a list of ints, read -/
def intsOf (w : Cv) (S : Sto) : Option (List Int) := match deref w S with
  | some (.lst xs) => asInts xs
  | _ => none
theorem intsOf_ok {K : Fg} {Z : List Addr} {S : Sto} {H : Hp} {w : Cv} {v : V} {ns : List Int} (ok : StOk K Z S H) (r : Rep K Z S H w v) (e : intsOf w S = some ns) : ∃ a, v = .ref a ∧ H a = some (.lst (ns.map V.int)) := by
  unfold intsOf at e
  split at e
  · rename_i xs ex
    obtain ⟨a, vs, rfl, h, rr⟩ := RepD.lstH (deref_ok ok r ex)
    exact ⟨a, rfl, by rw [← asInts_ok rr e]; exact h⟩
  · cases e
/-- max, min: of two ints, of a list -/
def cMax : CC := fun us S Q => match us with
  | [.int i, .int j] => Q (.int (max i j)) S
  | [w] => (match intsOf w S with | some ns => ns ≠ [] ∧ Q (.int (lmax 0 ns)) S | none => False)
  | _ => False
def cMin : CC := fun us S Q => match us with
  | [.int i, .int j] => Q (.int (min i j)) S
  | [w] => (match intsOf w S with | some ns => ns ≠ [] ∧ Q (.int (lmin 0 ns)) S | none => False)
  | _ => False
theorem cMax_mono : MonC cMax := fun us S Q Q' f h => by
  unfold cMax at h ⊢
  repeat' split at h
  all_goals first | exact h.elim | exact f _ _ h | exact ⟨h.1, f _ _ h.2⟩
theorem cMin_mono : MonC cMin := fun us S Q Q' f h => by
  unfold cMin at h ⊢
  repeat' split at h
  all_goals first | exact h.elim | exact f _ _ h | exact ⟨h.1, f _ _ h.2⟩
theorem b_max (hc : X.calm = true) : SC X (.builtin "max") cMax := sc_of cMax_mono fun pins s σ H xs us Q Z S ws I rv ok re q => by
  unfold cMax at q
  split at q
  · rename_i i j
    cases re with
    | cons a b =>
      cases a
      cases b with
      | cons a b =>
        cases a; cases b
        refine call_max2 hc pins s σ H _ us Q I rv ⟨i, j, rfl, ?_⟩
        have e : (if j > i then j else i) = max i j := by split <;> omega
        rw [e]
        exact q _ H (Fr.refl S H) ok (.int _)
  · cases re with
    | cons a b =>
      cases b
      split at q
      · rename_i ns en
        obtain ⟨p, rfl, hp⟩ := intsOf_ok ok a en
        refine cr_max hc pins s σ H _ us Q I rv ⟨p, ns, rfl, .inl (.inl hp), List.length_pos_iff.mpr q.1, fun m hm hge => ?_⟩
        have e : m = lmax 0 ns := Int.le_antisymm (lmax_ge m hm) (hge _ (lmax_mem q.1))
        rw [e]
        exact q.2 _ H (Fr.refl S H) ok (.int _)
      · exact q.elim
  · exact q.elim
theorem b_min (hc : X.calm = true) : SC X (.builtin "min") cMin := sc_of cMin_mono fun pins s σ H xs us Q Z S ws I rv ok re q => by
  unfold cMin at q
  split at q
  · rename_i i j
    cases re with
    | cons a b =>
      cases a
      cases b with
      | cons a b =>
        cases a; cases b
        refine call_min2 hc pins s σ H _ us Q I rv ⟨i, j, rfl, ?_⟩
        have e : (if j < i then j else i) = min i j := by split <;> omega
        rw [e]
        exact q _ H (Fr.refl S H) ok (.int _)
  · cases re with
    | cons a b =>
      cases b
      split at q
      · rename_i ns en
        obtain ⟨p, rfl, hp⟩ := intsOf_ok ok a en
        refine cr_min hc pins s σ H _ us Q I rv ⟨p, ns, rfl, .inl (.inl hp), List.length_pos_iff.mpr q.1, fun m hm hge => ?_⟩
        have e : m = lmin 0 ns := Int.le_antisymm (hge _ (lmin_mem q.1)) (lmin_le m hm)
        rw [e]
        exact q.2 _ H (Fr.refl S H) ok (.int _)
      · exact q.elim
  · exact q.elim
def cSum : CC := fun us S Q => match us with
  | [w] => (match intsOf w S with | some ns => Q (.int ns.sum) S | none => False)
  | _ => False
theorem b_sum (hc : X.calm = true) : SC X (.builtin "sum") cSum := sc_of (fun us S Q Q' f h => by
    unfold cSum at h ⊢
    repeat' split at h
    all_goals first | exact h.elim | exact f _ _ h) fun pins s σ H xs us Q Z S ws I rv ok re q => by
  unfold cSum at q
  split at q
  · cases re with
    | cons a b =>
      cases b
      split at q
      · rename_i ns en
        obtain ⟨p, rfl, hp⟩ := intsOf_ok ok a en
        exact cr_sum hc pins s σ H _ us Q I rv ⟨p, ns, rfl, .inl (.inl hp), q _ H (Fr.refl S H) ok (.int _)⟩
      · exact q.elim
  · exact q.elim
/-- all, any, of a list of bools -/
def boolsOf (w : Cv) (S : Sto) : Option (List Bool) := match deref w S with
  | some (.lst xs) => asBools xs
  | _ => none
theorem boolsOf_ok {K : Fg} {Z : List Addr} {S : Sto} {H : Hp} {w : Cv} {v : V} {ns : List Bool} (ok : StOk K Z S H) (r : Rep K Z S H w v) (e : boolsOf w S = some ns) : ∃ a, v = .ref a ∧ H a = some (.lst (ns.map V.bl)) := by
  unfold boolsOf at e
  split at e
  · rename_i xs ex
    obtain ⟨a, vs, rfl, h, rr⟩ := RepD.lstH (deref_ok ok r ex)
    exact ⟨a, rfl, by rw [← asBools_ok rr e]; exact h⟩
  · cases e
def cBools (g : List Bool → Bool) : CC := fun us S Q => match us with
  | [w] => (match boolsOf w S with | some ns => Q (.bl (g ns)) S | none => False)
  | _ => False
abbrev cAll : CC := cBools fun bs => bs.all (fun b => b)
abbrev cAny : CC := cBools fun bs => bs.any (fun b => b)
theorem cBools_mono {g : List Bool → Bool} : MonC (cBools g) := fun us S Q Q' f h => by
  unfold cBools at h ⊢
  repeat' split at h
  all_goals first | exact h.elim | exact f _ _ h
theorem b_all (hc : X.calm = true) : SC X (.builtin "all") cAll := sc_of cBools_mono fun pins s σ H xs us Q Z S ws I rv ok re q => by
  unfold cAll cBools at q
  split at q
  · cases re with
    | cons a b =>
      cases b
      split at q
      · rename_i ns en
        obtain ⟨p, rfl, hp⟩ := boolsOf_ok ok a en
        exact cr_all hc pins s σ H _ us Q I rv ⟨p, ns, rfl, .inl (.inl hp), q _ H (Fr.refl S H) ok (.bl _)⟩
      · exact q.elim
  · exact q.elim
theorem b_any (hc : X.calm = true) : SC X (.builtin "any") cAny := sc_of cBools_mono fun pins s σ H xs us Q Z S ws I rv ok re q => by
  unfold cAny cBools at q
  split at q
  · cases re with
    | cons a b =>
      cases b
      split at q
      · rename_i ns en
        obtain ⟨p, rfl, hp⟩ := boolsOf_ok ok a en
        exact cr_any hc pins s σ H _ us Q I rv ⟨p, ns, rfl, .inl (.inl hp), q _ H (Fr.refl S H) ok (.bl _)⟩
      · exact q.elim
  · exact q.elim
/-- tuple(x) -/
def cTupleOf : CC := fun us S Q => match us with
  | [w] => (match deref w S with | some (.lst xs) => Q (.tup xs) S | some (.tup xs) => Q (.tup xs) S | _ => False)
  | _ => False
theorem b_tuple : SC X (.type "tuple") cTupleOf := sc_of (fun us S Q Q' f h => by
    unfold cTupleOf at h ⊢
    repeat' split at h
    all_goals first | exact h.elim | exact f _ _ h) fun pins s σ H xs us Q Z S ws I rv ok re q => by
  unfold cTupleOf at q
  split at q
  · cases re with
    | cons a b =>
      cases b
      split at q
      · rename_i ys ey
        obtain ⟨p, vs, rfl, h, rr⟩ := RepD.lstH (deref_ok ok a ey)
        exact call_tuple_of pins s σ H _ us Q I rv ⟨p, vs, rfl, .inl ⟨.inl (.inl h), fun l hl => new_tup ok hl rr q⟩⟩
      · rename_i ys ey
        have r2 : Rep X.K Z S H (.tup ys) _ := deref_ok ok a ey
        obtain ⟨p, vs, rfl, h, rr⟩ := RepD.tupH r2
        exact call_tuple_of pins s σ H _ us Q I rv ⟨p, vs, rfl, .inr ⟨h, q _ H (Fr.refl S H) ok r2⟩⟩
      · exact q.elim
  · exact q.elim
/-! repr -/
mutual
def showsOk : Cv → Bool
  | .int i => decide (i.natAbs.log2 < 1920)
  | .tup xs => showsOks xs
  | .lst xs => showsOks xs
  | _ => true
def showsOks : List Cv → Bool
  | [] => true
  | x :: r => showsOk x && showsOks r
end
mutual
theorem showable_py : ∀ w : Cv, isD w = true → (py w).showable = showsOk w
  | .non, _ => by simp [py, PyData.showable, showsOk]
  | .bl b, _ => by simp [py, PyData.showable, showsOk]
  | .int i, _ => by simp [py, PyData.showable, showsOk]
  | .str x, h => by simp [py, PyData.showable, showsOk]
  | .tup xs, h => by simp [py, PyData.showable, showsOk, showable_pys xs (by simpa [isD] using h)]
  | .lst xs, h => by simp [py, PyData.showable, showsOk, showable_pys xs (by simpa [isD] using h)]
  | .dK _, h => by simp [isD] at h
  | .dT _, h => by simp [isD] at h
  | .ins _ _, h => by simp [isD] at h
  | .ref _, h => by simp [isD] at h
  | .opq _, h => by simp [isD] at h
  | .scr _, h => by simp [isD] at h
  | .tupF _, h => by simp [isD] at h
  | .exc _ _, h => by simp [isD] at h
  | .lam _ _ _ _ _, h => by simp [isD] at h
  | .cls _, h => by simp [isD] at h
theorem showable_pys : ∀ xs : List Cv, isDs xs = true → PyData.showableAll (pys xs) = showsOks xs
  | [], _ => by simp [pys, PyData.showableAll, showsOks]
  | x :: r, h => by
    simp only [isDs, Bool.and_eq_true] at h
    simp [pys, PyData.showableAll, showsOks, showable_py x h.1, showable_pys r h.2]
end
mutual
theorem noDict_py : ∀ w : Cv, (py w).hasDict = false
  | .non => by simp [py, PyData.hasDict]
  | .bl b => by simp [py, PyData.hasDict]
  | .int i => by simp [py, PyData.hasDict]
  | .str x => by simp [py, PyData.hasDict]
  | .tup xs => by simp [py, PyData.hasDict, noDict_pys xs]
  | .lst xs => by simp [py, PyData.hasDict, noDict_pys xs]
  | .dK _ => by simp [py, PyData.hasDict]
  | .dT _ => by simp [py, PyData.hasDict]
  | .ins _ _ => by simp [py, PyData.hasDict]
  | .ref _ => by simp [py, PyData.hasDict]
  | .opq _ => by simp [py, PyData.hasDict]
  | .scr _ => by simp [py, PyData.hasDict]
  | .tupF _ => by simp [py, PyData.hasDict]
  | .exc _ _ => by simp [py, PyData.hasDict]
  | .lam _ _ _ _ _ => by simp [py, PyData.hasDict]
  | .cls _ => by simp [py, PyData.hasDict]
theorem noDict_pys : ∀ xs : List Cv, PyData.hasDictAll (pys xs) = false
  | [] => by simp [pys, PyData.hasDictAll]
  | x :: r => by simp [pys, PyData.hasDictAll, noDict_py x, noDict_pys r]
end
/-- the text that repr gives -/
def rp (w : Cv) : Str := (py w).shown
def okR (w : Cv) : Prop := okD w = true ∧ showsOk w = true ∧ (rp w).length ≤ sizeLine
def cRepr : CC := fun us S Q => match us with
  | [w] => (match deref w S with | some w => okR w ∧ Q (.str (rp w)) S | none => False)
  | _ => False
theorem b_repr (hu : X.A.units + 66 < cLine) (hg : X.A.guards = some []) : SC X (.builtin "repr") cRepr := sc_of (fun us S Q Q' f h => by
    unfold cRepr at h ⊢
    repeat' split at h
    all_goals first | exact h.elim | exact ⟨h.1, f _ _ h.2⟩) fun pins s σ H xs us Q Z S ws I rv ok re q => by
  unfold cRepr at q
  split at q
  · cases re with
    | cons a b =>
      cases b
      split at q
      · rename_i w ew
        obtain ⟨⟨hD, hS, hZ⟩, q⟩ := q
        have rD := deref_ok ok a ew
        have hd := okD_D hD
        obtain ⟨u, rfl, ru⟩ := vals1 rv
        obtain ⟨as, rd⟩ := Dp.reads I _ _ _ (rD.dp hd) ru
        have fin : ∀ (h' : Heap) (u : Tok) (tk : Nat), (∀ b o, s.heap.get? b = some o → h'.get? b = some o) → EP X pins σ Q (.str (rp w) u) { s with heap := h', toks := tk } := fun h' u tk hk =>
          ⟨.str (rp w), H, I.kept hk, ⟨u, rfl⟩, q _ H (Fr.refl S H) ok (.str _)⟩
        have fin0 : EP X pins σ Q (.str (rp w) s.toks) { s with toks := s.toks + 1 } := fin s.heap _ _ fun _ _ h => h
        have isref : (∃ p, u = Value.ref p) → wpAny (model X.prog X.w) X.A (call (.builtin "repr") [u]) (EP X pins σ Q) X.xe s := by
          rintro ⟨p, rfl⟩
          exact repr_of_reads' rd (by rw [showable_py w hd]; exact hS) (fun e => by rw [noDict_py] at e; cases e) hg (by rw [depth_py]; have := okD_dep hD; omega) (fun _ _ h => h) fin hZ
        cases w with
        | non => cases rD; cases ru; exact PySem.P.repr_of_none fin0
        | bl b => cases rD; cases ru; exact PySem.P.repr_of_bool fin0
        | int i =>
          cases rD
          obtain ⟨t, rfl⟩ := ru
          exact PySem.P.repr_of_int (by simpa [showsOk] using hS) fin0
        | str z =>
          cases rD
          obtain ⟨t, rfl⟩ := ru
          exact PySem.P.repr_of_str fin0 hZ
        | tup xs =>
          obtain ⟨p, vs, rfl, _, _⟩ := RepD.tupH rD
          exact isref ⟨p, ru⟩
        | lst xs =>
          obtain ⟨p, vs, rfl, _, _⟩ := RepD.lstH rD
          exact isref ⟨p, ru⟩
        | _ => simp [isD] at hd
      · exact q.elim
  · exact q.elim
end
end CL
set_option maxHeartbeats 1000000
/-! CL7: max and min with a default; methods of lists; chains; in -/
namespace CL
open PySem PySem.Spec PyProof.Rows L2
variable [LamT]
/-! ### max(xs, default=d), min(xs, default=d) -/
theorem maxOf_eq (x : Int) (r : List Int) : PySem.W.maxOf x r = r.foldl max x := by
  unfold PySem.W.maxOf
  congr 1
  funext a y
  show (if decide (a < y) = true then y else a) = max a y
  by_cases h : a < y
  · simp [h]; omega
  · simp [h]; omega
theorem holds_int {h : Heap} {v : Value} {M : Int} (H : PySem.W.Holds h v M) : ∃ t, v = .int M t := by
  obtain ⟨as, r⟩ := H
  cases r with
  | int i t => exact ⟨t, rfl⟩
theorem holdAll_ints {X : Cx} {pins : List (Addr × Obj)} {σ : L2.St} {H : Hp} {s : Shared} (I : Inv X pins σ H s) : ∀ {ns : List Int} {its : List Value}, Vals (ns.map V.int) its → PySem.W.HoldAll s.heap its ns
  | [], _, r => by cases r; exact ⟨_, .nil⟩
  | n :: ns, _, r => by
    cases r with
    | cons a r =>
      obtain ⟨t, rfl⟩ := a
      obtain ⟨as, h⟩ := holdAll_ints I r
      exact ⟨_, .cons (.int n t) h⟩
abbrev CCK := List Cv → List Cv → Sto → (Cv → Sto → Prop) → Prop
def MonCK (r : CCK) : Prop := ∀ us zs S (Q Q' : Cv → Sto → Prop), (∀ w S', Q w S' → Q' w S') → r us zs S Q → r us zs S Q'
def liftCK (K : Fg) (r : CCK) : List V → List V → Hp → VK → Prop := fun vs ys H Q => ∃ Z S us zs, StOk K Z S H ∧ Reps K Z S H us vs ∧ Reps K Z S H zs ys ∧ r us zs S fun w S' => ∀ v H', Fr S H S' H' → StOk K Z S' H' → Rep K Z S' H' w v → Q v H'
structure SCK (X : Cx) (f : Value) (ks : List Str) (r : CCK) : Prop where
  mono : MonCK r
  ok : CallRK X f ks (liftCK X.K r)
structure SK (X : Cx) (kws : List Keyword) (t : CA) : Prop where
  mono : MonA t
  ok : PK X kws (liftA X.K t)
theorem _root_.L2.PK.imp {X : Cx} {es : List Keyword} {t t' : TA} (h : PK X es t) (f : ∀ σ H Q, t' σ H Q → t σ H Q) : PK X es t' := ⟨fun pos pins s σ H Q I q => h.run pos pins s σ H Q I (f σ H Q q)⟩
def cCKw (r : CCK) (ta tk : CA) : CE := fun ws S Q => ta ws S fun us S1 => tk ws S1 fun zs S2 => r us zs S2 Q
section
variable {X : Cx} {x : Str} {p pos kpos : Pos} {e : Expr} {es : List Expr} {kws : List Keyword} {te : CE} {ta tk t : CA} {idn : String} {ks : List Str} {r : CCK} {nm : Option Str}
theorem sk_nil : SK X [] cNil := by
  refine ⟨fun ws S Q Q' f h => f _ _ h, pk_nil.imp fun σ H Q h => ?_⟩
  obtain ⟨Z, S, ws, ok, re, h⟩ := h
  exact h [] H (Fr.refl S H) ok .nil
theorem sk_cons (ha : SE X e te) (hr : SK X kws t) : SK X (⟨nm, e, kpos⟩ :: kws) (cCons te t) := by
  refine ⟨fun ws S Q Q' f h => ha.mono _ _ _ _ (fun w S1 h1 => hr.mono _ _ _ _ (fun r S2 h2 => f _ _ h2) h1) h, (pk_cons ha.ok hr.ok).imp fun σ H Q h => ?_⟩
  obtain ⟨Z, S, ws, ok, re, h⟩ := h
  refine liftE_of ha.mono ok re h fun w S1 v1 H1 f1 ok1 r1 h1 => ?_
  refine liftA_of hr.mono ok1 (re.fr f1) h1 fun us S2 vs H2 f2 ok2 r2 h2 => ?_
  exact h2 (v1 :: vs) H2 (f1.trans f2) ok2 (.cons (r1.fr f2) r2)
theorem s_callBK (hc : SCK X (.builtin idn) ks r) (hm : X.mg x = none) (ha : SA X (e :: es) ta) (hk : SK X kws tk) (hg : Gl X x := by rfl) (hv : bootBuiltins x = some (.builtin idn) := by decide +kernel) (hn : x ≠ "__name__" := by decide) (hdb : (x == ("__debug__" : Str)) = false := by decide)
    (he : backTo pos (starEach (e :: es) X.env) = (false, eval e X.env) :: backTo pos (starEach es X.env) := by rfl) (hpl : (backTo pos (starEach (e :: es) X.env)).any (·.1) = false := by rfl)
    (hall : (backToKw pos (keywordEach kws X.env)).all (·.1.isSome) = true := by rfl) (hnone : (backToKw pos (keywordEach kws X.env)).any (·.1.isNone) = false := by rfl) (hks : (backToKw pos (keywordEach kws X.env)).filterMap (·.1) = ks := by rfl) :
    SE X (.Call (.Name x p) (e :: es) kws pos) (cCKw r ta tk) := by
  refine ⟨fun ws S Q Q' f h => ha.mono _ _ _ _ (fun us S1 h1 => hk.mono _ _ _ _ (fun zs S2 h2 => hc.mono _ _ _ _ _ f h2) h1) h, (pe_callBK hc.ok hg hm hv ha.ok hk.ok hn hdb he hpl hall hnone hks).imp fun σ H Q h => ?_⟩
  obtain ⟨Z, S, ws, ok, re, h⟩ := h
  refine liftA_of ha.mono ok re h fun us S1 vs H1 f1 ok1 r1 h1 => ?_
  refine liftA_of hk.mono ok1 (re.fr f1) h1 fun zs S2 ys H2 f2 ok2 r2 h2 => ?_
  exact ⟨Z, S2, us, zs, ok2, r1.fr f2, r2, hc.mono _ _ _ _ _ (fun w S' g v H' a b c => g v H' ((f1.trans f2).trans a) b c) h2⟩
def cMaxD : CCK := fun us zs S Q => match us, zs with
  | [w], [d] => (match intsOf w S with | some [] => Q d S | some ns => Q (.int (lmax 0 ns)) S | none => False)
  | _, _ => False
theorem cMaxD_mono : MonCK cMaxD := fun us zs S Q Q' f h => by
  unfold cMaxD at h ⊢
  repeat' split at h
  all_goals first | exact h.elim | exact f _ _ h
theorem b_maxD (hc : X.calm = true) (hu : X.A.units + 64 < cLine) : SCK X (.builtin "max") ["default"] cMaxD := ⟨cMaxD_mono, fun pins s σ H xs zs us ws Q I rx rz q => by
  obtain ⟨Z, S, cs, ds, ok, re, rk, q⟩ := q
  unfold cMaxD at q
  split at q
  · rename_i w d
    cases re with
    | cons a b =>
      cases b
      cases rk with
      | cons a2 b2 =>
        cases b2
        obtain ⟨u, rfl, ru⟩ := vals1 rx
        obtain ⟨u2, rfl, ru2⟩ := vals1 rz
        have go : ∀ ns, intsOf w S = some ns → (ns = [] → ∀ v H', Fr S H S H' → StOk X.K Z S H' → Rep X.K Z S H' d v → Q v H') → (ns ≠ [] → ∀ v H', Fr S H S H' → StOk X.K Z S H' → Rep X.K Z S H' (.int (lmax 0 ns)) v → Q v H') →
            wpAny (model X.prog X.w) X.A (call (.builtin "max") [u] [("default", u2)]) (EP X pins σ Q) X.xe s := by
          intro ns en q1 q2
          obtain ⟨p, e, hp⟩ := intsOf_ok ok a en
          subst e
          cases ru
          obtain ⟨its, rv, pl, _⟩ := I.list (.inl (.inl hp))
          refine PySem.W.max_list_datum_default (I.ok.hd hc) pl.isList (holdAll_ints I rv) (by show X.A.units + 1 + 0 < cLine; omega) (fun e h' tk hk => ?_) fun y ys i v h' tk e hi hol hk => ?_
          · exact ⟨_, H, I.kept hk, ru2, q1 e _ H (Fr.refl S H) ok a2⟩
          · obtain ⟨t, rfl⟩ := holds_int hol
            refine ⟨.int (lmax 0 ns), H, I.kept hk, ⟨t, ?_⟩, q2 (by rw [e]; simp) _ H (Fr.refl S H) ok (.int _)⟩
            rw [e, maxOf_eq]; rfl
        cases en : intsOf w S with
        | none => rw [en] at q; exact q.elim
        | some ns =>
          rw [en] at q
          cases ns with
          | nil => exact go [] en (fun _ => q) fun h => absurd rfl h
          | cons n ns => exact go (n :: ns) en (fun h => by cases h) fun _ => q
  · exact q.elim⟩
/-! ### methods -/
abbrev CM := Cv → List Cv → Sto → (Cv → Sto → Prop) → Prop
def MonM (r : CM) : Prop := ∀ o us S (Q Q' : Cv → Sto → Prop), (∀ w S', Q w S' → Q' w S') → r o us S Q → r o us S Q'
def liftM (K : Fg) (r : CM) : V → List V → Hp → VK → Prop := fun x vs H Q => ∃ Z S o us, StOk K Z S H ∧ Rep K Z S H o x ∧ Reps K Z S H us vs ∧ r o us S fun w S' => ∀ v H', Fr S H S' H' → StOk K Z S' H' → Rep K Z S' H' w v → Q v H'
structure SM (X : Cx) (idn : String) (r : CM) : Prop where
  mono : MonM r
  ok : MtR X idn (liftM X.K r)
/-- of that built-in type -/
def tyC (T : String) (o : Cv) (S : Sto) : Prop := match o with
  | .str _ => T = "str"
  | .lst _ => T = "list"
  | .dK _ => T = "dict"
  | .dT _ => T = "dict"
  | .ref a => (match S a with | some (.lst _) => T = "list" | some (.dK _) => T = "dict" | some (.dT _) => T = "dict" | _ => False)
  | _ => False
theorem tyC_ok {K : Fg} {Z : List Addr} {S : Sto} {H : Hp} {T : String} {o : Cv} {x : V} (ok : StOk K Z S H) (r : Rep K Z S H o x) (h : tyC T o S) : tyV K T x H := by
  cases r with
  | str z => exact h
  | lst hh n z rr => exact .inl ⟨h, _, .inl (.inl hh)⟩
  | dK hh n z e rr => exact .inr (.inr (.inl ⟨h, .inl ⟨_, hh⟩⟩))
  | dT hh n z e rr => exact .inr (.inr (.inl ⟨h, .inr ⟨_, hh⟩⟩))
  | ref a =>
    unfold tyC at h
    cases e : S a with
    | none => simp [e] at h
    | some ob =>
      have ro := ok.ob a ob e
      cases ob with
      | lst xs => simp only [e] at h; obtain ⟨vs, h1, _⟩ := ro; exact .inl ⟨h, _, .inl (.inl h1)⟩
      | dK xs => simp only [e] at h; obtain ⟨vs, h1, _⟩ := ro; exact .inr (.inr (.inl ⟨h, .inl ⟨_, h1⟩⟩))
      | dT xs => simp only [e] at h; obtain ⟨vs, h1, _⟩ := ro; exact .inr (.inr (.inl ⟨h, .inr ⟨_, h1⟩⟩))
      | ins q fs => simp [e] at h
      | dL C dx fs => simp [e] at h
  | _ => exact h.elim
def cBM (T : String) (r : CM) (to : CE) (ta : CA) : CE := fun ws S Q => to ws S fun o S1 => tyC T o S1 ∧ ta ws S1 fun us S2 => r o us S2 Q
variable {o : Expr} {to : CE} {name : Str} {apos cpos : Pos} {T : String} {rm : CM}
theorem cBM_mono (hr : MonM rm) (ho : MonE to) (ha : MonA ta) : MonE (cBM T rm to ta) := fun ws S Q Q' f h => ho _ _ _ _ (fun o S1 h1 => ⟨h1.1, ha _ _ _ _ (fun us S2 h2 => hr _ _ _ _ _ f h2) h1.2⟩) h
theorem s_bm (pa : PlainAttrs T) (slot : Slot T name idn) (hm : SM X idn rm) (ho : SE X o to) (ha : SA X (e :: es) ta) (hty : typeOf (.builtin idn) = pure (.type "method_descriptor") := by rfl)
    (hbase : attributeBase o name X.env (eval o X.env) = eval o X.env := by rfl)
    (hfew : ((backTo cpos (starEach (e :: es) X.env)).all (fun x => !x.1) && (backToKw cpos (keywordEach [] X.env)).all (fun x => x.1.isSome)
      && decide ((e :: es).length + ([] : List Keyword).length + (if ([] : List Keyword).isEmpty then 0 else 1) < 30)) = true := by rfl)
    (hline : (apos.endLine == cpos.line) = true := by rfl) (hs : starEach (e :: es) X.env = (false, eval e X.env) :: starEach es X.env := by rfl) (hplain : (backTo cpos (starEach es X.env)).any (·.1) = false := by rfl) :
    SE X (.Call (.Attribute o name apos) (e :: es) [] cpos) (cBM T rm to ta) :=
  ⟨cBM_mono hm.mono ho.mono ha.mono, (pe_bm pa slot hty hm.ok ho.ok ha.ok hbase hfew hline hs hplain).imp fun σ H Q h => by
    obtain ⟨Z, S, ws, ok, re, h⟩ := h
    refine liftE_of ho.mono ok re h fun w S1 v1 H1 f1 ok1 r1 h1 => ⟨tyC_ok ok1 r1 h1.1, ?_⟩
    refine liftA_of ha.mono ok1 (re.fr f1) h1.2 fun us S2 vs H2 f2 ok2 r2 h2 => ?_
    exact ⟨Z, S2, w, us, ok2, r1.fr f2, r2, hm.mono _ _ _ _ _ (fun w S' g v H' a b c => g v H' ((f1.trans f2).trans a) b c) h2⟩⟩
theorem sm_of {r : CM} (m : MonM r) (h : ∀ (pins : List (Addr × Obj)) (s : Shared) (σ : L2.St) (H : Hp) (x : V) (xs : List V) (v : Value) (us : List Value) (Q : VK) (Z : List Addr) (S : Sto) (o : Cv) (ws : List Cv), Inv X pins σ H s → RelV x v → Vals xs us → StOk X.K Z S H → Rep X.K Z S H o x → Reps X.K Z S H ws xs →
    r o ws S (fun w S' => ∀ v H', Fr S H S' H' → StOk X.K Z S' H' → Rep X.K Z S' H' w v → Q v H') → wpAny (model X.prog X.w) X.A (call (.builtin idn) (v :: us)) (EP X pins σ Q) X.xe s) : SM X idn r :=
  ⟨m, fun pins s σ H x xs v us Q I rx rv q => by
    obtain ⟨Z, S, o, ws, ok, ro, re, q⟩ := q
    exact h pins s σ H x xs v us Q Z S o ws I rx rv ok ro re q⟩
/-- an owned list is written -/
theorem own_wr {K : Fg} {Z : List Addr} {S : Sto} {H : Hp} {Q : VK} {p : Addr} {xs ys : List Cv} {vs : List V} {w : Cv} {v : V} (ok : StOk K Z S H) (e : S p = some (.lst xs)) (r : Reps K Z S H ys vs) (rw' : Rep K Z S H w v)
    (q : ∀ v H', Fr S H (S.set p (.lst ys)) H' → StOk K Z (S.set p (.lst ys)) H' → Rep K Z (S.set p (.lst ys)) H' w v → Q v H') : Q v (upd H p (.lst vs)) := by
  have f : Fr S H (S.set p (.lst ys)) (upd H p (.lst vs)) := Fr.wr e
  exact q v _ f (ok.wr e ⟨vs, upd_same, r.fr f⟩) (rw'.fr f)
def cAppend : CM := fun o us S Q => match o, us with
  | .ref p, [w] => ownL S p fun xs => xs.length < sizeLine ∧ Q .non (S.set p (.lst (xs ++ [w])))
  | _, _ => False
theorem m_append : SM X "list.append" cAppend := sm_of (fun o us S Q Q' f h => by
    unfold cAppend at h ⊢
    split at h
    · exact ownL_imp (fun xs q => ⟨q.1, f _ _ q.2⟩) h
    · exact h.elim) fun pins s σ H x xs v us Q Z S o ws I rx rv ok ro re q => by
  unfold cAppend at q
  split at q
  · rename_i p w
    obtain ⟨ys, e, hz, q⟩ := ownL_of q
    obtain ⟨vs, hp, rr⟩ := ok.ob p _ e
    cases ro
    cases re with
    | cons a b =>
      cases b
      exact mt_append pins s σ H _ _ v us Q I rx rv ⟨p, vs, _, rfl, rfl, hp, by rw [← rr.length]; exact hz, own_wr ok e (rr.app (.one a)) .non q⟩
  · exact q.elim
def cExtend : CM := fun o us S Q => match o, us with
  | .ref p, [w] => ownL S p fun xs => match deref w S with
    | some (.lst zs) => xs.length + zs.length ≤ sizeLine ∧ Q .non (S.set p (.lst (xs ++ zs)))
    | _ => False
  | _, _ => False
theorem m_extend : SM X "list.extend" cExtend := sm_of (fun o us S Q Q' f h => by
    unfold cExtend at h ⊢
    split at h
    · refine ownL_imp (fun xs q => ?_) h
      split at q
      · exact ⟨q.1, f _ _ q.2⟩
      · exact q.elim
    · exact h.elim) fun pins s σ H x xs v us Q Z S o ws I rx rv ok ro re q => by
  unfold cExtend at q
  split at q
  · rename_i p w
    obtain ⟨ys, e, q⟩ := ownL_of q
    obtain ⟨vs, hp, rr⟩ := ok.ob p _ e
    cases ro
    cases re with
    | cons a b =>
      cases b
      split at q
      · rename_i zs ez
        obtain ⟨b, v2, rfl, hb, r2⟩ := RepD.lstH (deref_ok ok a ez)
        exact mt_extend pins s σ H _ _ v us Q I rx rv ⟨p, b, vs, v2, rfl, rfl, hp, hb, by rw [← rr.length, ← r2.length]; exact q.1, own_wr ok e (rr.app r2) .non q.2⟩
      · exact q.elim
  · exact q.elim
theorem reps_erase {K : Fg} {Z : List Addr} {S : Sto} {H : Hp} {ws : List Cv} {vs : List V} (r : Reps K Z S H ws vs) (k : Nat) : Reps K Z S H (ws.eraseIdx k) (vs.eraseIdx k) := by
  rw [List.eraseIdx_eq_take_drop_succ, List.eraseIdx_eq_take_drop_succ]
  exact (r.take _).app (r.drop _)
def cPopAt : CM := fun o us S Q => match o, us with
  | .ref p, [.int i] => ownL S p fun xs => (-(2 ^ 63) ≤ i ∧ i < 2 ^ 63) ∧ (match ixN xs.length i with
    | some k => (match xs[k]? with | some w => Q w (S.set p (.lst (xs.eraseIdx k))) | none => False)
    | none => False)
  | _, _ => False
theorem m_popAt : SM X "list.pop" cPopAt := sm_of (fun o us S Q Q' f h => by
    unfold cPopAt at h ⊢
    split at h
    · refine ownL_imp (fun xs q => ⟨q.1, ?_⟩) h
      have q2 := q.2
      split at q2
      · split at q2
        · exact f _ _ q2
        · exact q2.elim
      · exact q2.elim
    · exact h.elim) fun pins s σ H x xs v us Q Z S o ws I rx rv ok ro re q => by
  unfold cPopAt at q
  split at q
  · rename_i p i
    obtain ⟨ys, e, hi, q⟩ := ownL_of q
    obtain ⟨vs, hp, rr⟩ := ok.ob p _ e
    cases ro
    cases re with
    | cons a b =>
      cases b; cases a
      split at q
      · rename_i k ek
        split at q
        · rename_i w ew
          obtain ⟨v1, h1, h2⟩ := rr.get ew
          exact mt_popAt pins s σ H _ _ v us Q I rx rv ⟨p, vs, i, k, v1, rfl, rfl, hp, hi.1, hi.2, by rw [← rr.length]; exact (ixN_seq ek).1, h1, own_wr ok e (reps_erase rr k) h2 q⟩
        · exact q.elim
      · exact q.elim
  · exact q.elim
/-! ### chains of comparisons -/
def cChain (r r' : C2) (ta tb tc : CE) : CE := fun ws S Q => ta ws S fun x S1 => tb ws S1 fun y S2 => r x y S2 fun z S3 => match z with
  | .bl true => tc ws S3 fun u S4 => r' y u S4 Q
  | .bl false => Q (.bl false) S3
  | _ => False
theorem s_chain {op op' : CmpOp} {r r' : C2} {a b c : Expr} {tA tB tC : CE} (ho : S2 X (compareOp op) r) (ho' : S2 X (compareOp op') r') (ha : SE X a tA) (hb : SE X b tB) (hc : SE X c tC)
    (hm : lastMarks [op, op'] [b, c] = false := by with_unfolding_all rfl) : SE X (.Compare a [op, op'] [b, c] pos) (cChain r r' tA tB tC) := by
  refine ⟨fun ws S Q Q' f h => ha.mono _ _ _ _ (fun x S1 q1 => hb.mono _ _ _ _ (fun y S2 q2 => ho.mono _ _ _ _ _ (fun z S3 q3 => ?_) q2) q1) h, (pe_chain ho.ok ho'.ok ha.ok hb.ok hc.ok hm).imp fun σ H Q h => ?_⟩
  · split at q3
    · exact hc.mono _ _ _ _ (fun u S4 q4 => ho'.mono _ _ _ _ _ f q4) q3
    · exact f _ _ q3
    · exact q3.elim
  · obtain ⟨Z, S, ws, ok, re, h⟩ := h
    refine liftE_of ha.mono ok re h fun x S1 v1 H1 f1 ok1 r1 q1 => ?_
    refine liftE_of hb.mono ok1 (re.fr f1) q1 fun y S2 v2 H2 f2 ok2 r2 q2 => ?_
    refine ⟨Z, S2, x, y, ok2, r1.fr f2, r2, ho.mono _ _ _ _ _ (fun z S3 q3 v3 H3 f3 ok3 r3 => ?_) q2⟩
    have f0 := (f1.trans f2).trans f3
    split at q3
    · cases r3
      refine ⟨true, rfl, ?_⟩
      show liftE X.K tC σ H3 _
      refine liftE_of hc.mono ok3 (re.fr f0) q3 fun u S4 v4 H4 f4 ok4 r4 q4 => ?_
      exact ⟨Z, S4, y, u, ok4, (r2.fr f3).fr f4, r4, ho'.mono _ _ _ _ _ (fun w S' g v H' a b c => g v H' ((f0.trans f4).trans a) b c) q4⟩
    · cases r3
      exact ⟨false, rfl, q3 _ H3 f0 ok3 (.bl false)⟩
    · exact q3.elim
end
end CL
/-! CL8: the end of a law -/
namespace CL
open PySem PySem.Spec PyProof.Rows L2
variable [LamT]
/-- nothing is owned -/
abbrev S0 : Sto := fun _ => none
/-- what the law's def promises: from the script, True -/
def LawSp (n : Nat) (sp : CSp) : Prop := ∀ ns : List Int, ns.length ≤ n → (∀ z ∈ ns, Builtin.Int.intBits z ≤ 1048576) → sp [.scr (ns.map Cv.int)] S0 (fun v _ => v = .bl true) X0
section
variable {P : Program} {w : World} {K : Fg} {mg mb : Str → Option Value} {k n : Nat} {fa a : Addr} {fd : FuncData} {x : Str} {sp : CSp} {s1 : Shared} {vs : List Value} {ns : List Int} {cs : List (Addr × Addr)}
abbrev emptyT : Obj := { cls := .none, data := .fields #[] }
/-- the call of the law, from an abstract heap H in which at most the script and empty tables are tracked -/
theorem law_from {H : Hp} {base : Heap} (hb : base = hidT s1.heap H) (ok : HOk P w H s1.heap) (only : ∀ b u, H b = some u → (b = a ∧ ∃ o l, u = .frz o (.lst l)) ∨ (∃ c, (c, b) ∈ cs) ∧ u = .tbl #[]) (hT : ∀ p ∈ cs, s1.heap.get? p.2 = some emptyT) (hC : ∀ p ∈ cs, PySem.W.CodeHd s1.heap p.1 p.2)
    (kin : K.In base) (glob : base.Ns mainGlobals mg) (hmb : base.Ns builtinsNs mb)
    (hbb : ∀ x : Str, x ≠ "__name__" → mb x = bootBuiltins x) (lim : base.NoLimit) (hg : s1.gens = #[]) (hr : RoomG k callerA) (F : FnG P w K mg base L2.CX0 k fa fd [x] sp)
    (hbind : ∀ (s : Shared) (u : Value), BindsTo s fd ⟨[u], []⟩ [(x, u)]) (hsp : liftSp K sp [.ref a] H (fun v _ => v = .bl true) fun _ _ _ => False) :
    codeAny (model P w) callerA (.call (.ref fa) ⟨[.ref a], []⟩) (fun r s' => r = .ok (.ret (.bool true)) ∧ OldK s1.heap s'.heap ∧ s'.os = s1.os ∧ AllBare s'.gens) s1 := by
  have e0 : Env0 P w K mg base callerA [] s1 H := by
    refine ⟨rfl, ⟨kin, glob, ⟨mb, hmb, hbb⟩, lim⟩, fun b o e => ?_, ?_, trivial, fun b h => ?_, ok, .of_eq hg⟩
    · rw [hb] at e; exact of_hidT e
    · rw [hb]; exact Nat.le_of_eq (hidT_size _ _)
    · cases h
  refine codeAny_mono (F.run callerA [] s1 H ⟨[.ref a], []⟩ [.ref a] [.ref a] _ _ hr e0 (hbind s1 (.ref a)) (.cons rfl .nil) hsp) fun r s' h => ?_
  cases r with
  | error e => exact False.elim h
  | ok fl =>
    cases fl with
    | next => exact False.elim h
    | brk => exact False.elim h
    | cont => exact False.elim h
    | ret u =>
      obtain ⟨v, H', os, bare, un, ok', rv, q⟩ := h
      have q' : v = .bl true := q
      subst q'
      have eu : u = Value.bool true := rv
      subst eu
      have what : ∀ b o, s1.heap.get? b = some o → s'.heap.get? b = some o ∨ ∃ c, (c, b) ∈ cs ∧ ∃ more, s'.heap.get? b = some ({ cls := .none, data := .fields more } : Obj) := fun b o e => by
        cases hH : H b with
        | none => exact .inl (un.keep b o e hH (by intro z; cases z) (by simp))
        | some u =>
          rcases only b u hH with ⟨_, ob, l, rfl⟩ | ⟨⟨c, m⟩, rfl⟩
          · obtain ⟨e1, _⟩ := ok b _ hH
            obtain ⟨e2, _⟩ := ok' b _ (un.frzs b ob _ hH)
            rw [e] at e1; cases e1
            exact .inl e2
          · obtain ⟨more, z⟩ := un.tbls b #[] hH
            exact .inr ⟨c, m, _, ok' b _ z⟩
      refine ⟨rfl, ⟨fun b o e => ?_, fun b o e => ?_⟩, os, bare⟩
      · rcases what b o e with z | ⟨c, m, more, z⟩
        · exact .inl z
        · have hTb := hT (c, b) m
          rw [e] at hTb
          cases hTb
          exact .inr (.inl ⟨((hC (c, b) m).tab (hT (c, b) m)).isCodeTable, rfl, #[], more, rfl, by rw [Array.empty_append]; exact z⟩)
      · rcases what b o e with z | ⟨c, m, more, z⟩
        · exact ⟨_, z⟩
        · exact ⟨_, z⟩
theorem reps_ints {K : Fg} {Z : List Addr} {S : Sto} {H : Hp} : ∀ ns : List Int, Reps K Z S H (ns.map Cv.int) (ns.map V.int)
  | [] => .nil
  | n :: r => .cons (.int n) (reps_ints r)
theorem law_go (kx : K.In s1.heap) (hns : s1.heap.Ns mainGlobals mg) (hmb : s1.heap.Ns builtinsNs mb) (hbb : ∀ x : Str, x ≠ "__name__" → mb x = bootBuiltins x) (lim : s1.heap.NoLimit) (hg : s1.gens = #[])
    (hT : ∀ p ∈ cs, s1.heap.get? p.2 = some emptyT) (hC : ∀ p ∈ cs, PySem.W.CodeHd s1.heap p.1 p.2) (nT : ∀ p ∈ cs, K.lookup p.2 = none) (hL : ∀ p ∈ LamT.tabs, ∃ c, (c, p.1) ∈ cs)
    (hbm : ∃ (bm : Addr) (ob : Obj), mg "__builtins__" = some (.ref bm) ∧ bm ≠ builtinsNs ∧ s1.heap.get? bm = some ob ∧ ob.cls = .type "module" ∧ ob.dict = some builtinsNs ∧ ob.data = .plain)
    (ha : s1.heap.get? a = some { cls := .type "list", data := .seq vs.toArray }) (hi : IntsAre vs ns) (hl : ns.length ≤ sizeLine) (hr : RoomG k callerA)
    (F : ∀ base : Heap, K.In base → base.Ns mainGlobals mg → (∀ (b : Addr) (m : Str → Option Value), s1.heap.Ns b m → base.Ns b m) → (∀ p ∈ cs, LamX.TabB base mg p.1 p.2) → FnG P w K mg base L2.CX0 k fa fd [x] sp) (hbind : ∀ (s : Shared) (u : Value), BindsTo s fd ⟨[u], []⟩ [(x, u)])
    (hsp : sp [.scr (ns.map Cv.int)] S0 (fun v _ => v = .bl true) X0) :
    codeAny (model P w) callerA (.call (.ref fa) ⟨[.ref a], []⟩) (fun r s' => r = .ok (.ret (.bool true)) ∧ OldK s1.heap s'.heap ∧ s'.os = s1.os ∧ AllBare s'.gens) s1 := by
  have rv := vals_ints hi
  -- the abstract heap: empty tables, and the script where the written part does not have it
  let T : Hp := fun b => if b ∈ cs.map (·.2) then some (.tbl #[]) else none
  have hTn : ∀ b, b ∉ cs.map (·.2) → T b = none := fun b h => if_neg h
  have hTs : ∀ b u, T b = some u → (∃ c, (c, b) ∈ cs) ∧ u = .tbl #[] := fun b u e => by
    by_cases h : b ∈ cs.map (·.2)
    · have z := (if_pos h).symm.trans e
      cases z
      obtain ⟨p, m, rfl⟩ := List.mem_map.mp h
      exact ⟨⟨p.1, m⟩, rfl⟩
    · rw [hTn b h] at e; cases e
  have mem2 : ∀ {c b : Addr}, (c, b) ∈ cs → b ∈ cs.map (·.2) := fun m => List.mem_map.mpr ⟨_, m, rfl⟩
  have aT : a ∉ cs.map (·.2) := fun h => by
    obtain ⟨p, m, e⟩ := List.mem_map.mp h
    have z := hT p m
    rw [e, ha] at z
    cases z
  have core : ∀ H : Hp, (∀ b, b ∈ cs.map (·.2) → H b = some (.tbl #[])) → (∀ b u, H b = some u → (b = a ∧ u = .frz { cls := .type "list", data := .seq vs.toArray } (.lst (ns.map V.int))) ∨ (∃ c, (c, b) ∈ cs) ∧ u = .tbl #[]) → (H a ≠ none → K.lookup a = none) → Rep K [] S0 H (.scr (ns.map Cv.int)) (.ref a) →
      codeAny (model P w) callerA (.call (.ref fa) ⟨[.ref a], []⟩) (fun r s' => r = .ok (.ret (.bool true)) ∧ OldK s1.heap s'.heap ∧ s'.os = s1.os ∧ AllBare s'.gens) s1 := by
    intro H hH hO hA hR
    have get : ∀ {b : Addr} {o : Obj}, s1.heap.get? b = some o → (∀ vs n, o.data ≠ .seq vs n) → o.data ≠ .fields #[] → (hidT s1.heap H).get? b = some o := fun {b o} e h1 h2 => hidT_get e (by
      cases q : H b with
      | none => rfl
      | some u =>
        rcases hO b u q with ⟨rfl, _⟩ | ⟨⟨c, m⟩, _⟩
        · rw [ha] at e; cases e; exact (h1 _ _ rfl).elim
        · have z := hT _ m
          rw [show s1.heap.get? b = some o from e] at z
          cases z; exact (h2 rfl).elim)
    have ns' : ∀ {b : Addr} {m : Str → Option Value}, s1.heap.Ns b m → (hidT s1.heap H).Ns b m := fun {b m} ⟨o, es, ep, e, d, r⟩ => ⟨o, es, ep, get e (fun vs n z => by rw [d] at z; cases z) (fun z => by rw [d] at z; cases z), d, r⟩
    have kin : K.In (hidT s1.heap H) := fun b o e => hidT_get (kx b o e) (by
      cases q : H b with
      | none => rfl
      | some u =>
        rcases hO b u q with ⟨rfl, _⟩ | ⟨⟨c, m⟩, _⟩
        · rw [hA (by rw [q]; simp)] at e; cases e
        · rw [nT _ m] at e; cases e)
    have TB : ∀ p ∈ cs, LamX.TabB (hidT s1.heap H) mg p.1 p.2 := fun p m => by
      refine ⟨?_, ?_, fun z => ?_⟩
      · obtain ⟨o, us, file, tf, flags, tg, inF, text, tt, e1, r1, r2, r3, r4⟩ := hC p m
        exact ⟨o, us, file, tf, flags, tg, inF, text, tt, get e1 (fun vs n z => by rw [r2] at z; cases z) (fun z => by rw [r2] at z; cases z; simp at r3), r1, r2, r3, r4⟩
      · obtain ⟨bm, ob, b1, b2, b3, b4, b5, b6⟩ := hbm
        refine ⟨bm, ob, b1, b2, fun q => ?_, fun q => ?_, get b3 (fun vs n z => by rw [b6] at z; cases z) (fun z => by rw [b6] at z; cases z), b4, b5, b6⟩
        · obtain ⟨o, es, ep, e, hd, _⟩ := hns
          rw [q, e] at b3; cases b3
          rw [hd] at b6; cases b6
        · have z := hT p m
          rw [← q, b3] at z; cases z
          cases b6
      · obtain ⟨o, es, ep, e, hd, _⟩ := hns
        have y := hT p m
        rw [← z, e] at y; cases y
        cases hd
    have FF := F _ kin (ns' hns) (fun b m q => ns' q) TB
    refine law_from (H := H) (cs := cs) (a := a) rfl (fun b u e => ?_) (fun b u e => ?_) hT hC kin (ns' hns) (ns' hmb) hbb (let ⟨mc, h1, h2⟩ := lim; ⟨mc, ns' h1, h2⟩) hg hr FF hbind
      ⟨[], S0, _, ⟨fun _ _ e => (by cases e), fun _ z => (by cases z), fun p m => ?_⟩, .cons hR .nil, FF.mono _ _ _ _ _ _ (fun u S' e v H' _ _ r' => ?_) (fun _ _ z => z.elim) hsp⟩
    · rcases hO b u e with ⟨rfl, rfl⟩ | ⟨⟨c, m⟩, rfl⟩
      · exact ⟨ha, by rw [List.length_map]; exact hl, vs, _, rv, ha⟩
      · exact hT _ m
    · rcases hO b u e with ⟨rfl, rfl⟩ | q
      · exact .inl ⟨rfl, _, _, rfl⟩
      · exact .inr q
    · obtain ⟨c, m'⟩ := hL p m
      exact LamX.TabS.nil (hH _ (mem2 m'))
    · subst e
      cases r'
      rfl
  cases hk : K.lookup a with
  | some o =>
    have e := kx a o hk
    rw [ha] at e
    cases e
    refine core T (fun b h => if_pos h) (fun b u e => .inr (hTs b u e)) (fun z => (z (hTn a aT)).elim) (.scrK (vs := ns.map V.int) (fun H' => .inr ⟨_, vs.toArray, _, hk, rfl, rfl, rfl, ?_, by simpa using rv⟩) (reps_ints ns))
    rw [List.size_toArray, hi.length]; exact hl
  | none =>
    refine core (fun b => if b = a then some (.frz { cls := .type "list", data := .seq vs.toArray } (.lst (ns.map V.int))) else T b) (fun b h => ?_) (fun b u e => ?_) (fun _ => hk) (.scr (if_pos rfl) rfl (reps_ints ns))
    · rw [if_neg fun z => aT (by rw [← z]; exact h)]
      exact if_pos h
    · by_cases z : b = a
      · rw [if_pos z] at e; cases e
        exact .inl ⟨z, rfl⟩
      · rw [if_neg z] at e
        exact .inr (hTs b u e)
end
/-- the table of the def at f is empty -/
def OwnTab (K : Fg) (f : Addr) (h : Heap) : Prop := ∀ (c P : Addr) (o : Obj) (fd : FuncData) (e : Value) (dd : Option Addr) (vs : Array Value) (sl : Array (Option Value)), K.lookup f = some o → o.data = .func fd → fd.code = .ref c → K.lookup c = some ⟨e, dd, .fields vs, sl⟩ → vs[11]? = some (.ref P) → h.get? P = some emptyT
/-- what k_head leaves, from the law's promise; cs: the code objects that hold lambdas, and their tables -/
theorem law_endT {l : PySem.W.OpenLaw} {n k : Nat} {q : Program} {loose : List Str} {XP : (Str → Option Value) → Heap → Prop} {YP : World → Heap → Prop} {d : DefRec} {K : Params → Fg} {sp : World → CSp} {x : Str} {cs : List (Addr × Addr)}
    (hn : l.most = some n) (hn2 : n ≤ sizeLine) (hdf : d.params.defaults = []) (hr : RoomG k callerA) (hY : ∀ (w : World) (h : Heap), YP w h → (K w.params).In h) (hL : ∀ p ∈ LamT.tabs, ∃ c, (c, p.1) ∈ cs)
    (F : ∀ (w : World) (mg : Str → Option Value) (fa : Addr) (h : Heap), (K w.params).In h → h.Ns mainGlobals mg → mg d.name = some (.ref fa) → (∀ (y : Str) (f : Addr), ((recsOf q).any fun e => e.name == y) = true → mg y = some (.ref f) → OwnTab (K w.params) f h) →
      ∃ fd : FuncData, (∀ p ∈ cs, h.get? p.2 = some emptyT) ∧ (∀ p ∈ cs, (K w.params).lookup p.2 = none) ∧ (∀ p ∈ cs, PySem.W.CodeHd h p.1 p.2) ∧ (∀ (s : Shared) (u : Value), BindsTo s fd ⟨[u], []⟩ [(x, u)]) ∧
        ∀ base : Heap, (K w.params).In base → base.Ns mainGlobals mg → (∀ p ∈ cs, LamX.TabB base mg p.1 p.2) → (importsNone q = true → ∃ m, base.Ns sysModules m) → FnG l.prog w (K w.params) mg base L2.CX0 k fa fd [x] (sp w))
    (hsp : ∀ w, LawSp n (sp w)) : PySem.W.WalkO q loose XP YP l.row.toRowW d [] (fun f vs => PySem.call f vs) := by
  refine Att.attach_callB hn hdf fun w s0 s1 mg mb fa o pm cd doc a vs ns G Y ho hd hcd hmg hobj hints hlen hbits hg => ?_
  have kx := hY w _ Y
  obtain ⟨fd, hT, nT, hC, hb, hF⟩ := F w mg fa _ kx G.T.g hmg fun y f hy hm c P o1 fd1 e dd vs1 sl k1 k2 k3 k4 k5 => by
    obtain ⟨dy, my, ny⟩ := List.any_eq_true.mp hy
    obtain ⟨a', o', fd', c', P', h1, h2, h3, h4, h5, ⟨oc, vc, e1, _, e3, e4⟩, hP⟩ := G.T.tab dy my
    rw [beq_iff_eq.mp ny, hm] at h1
    cases h1
    rw [kx _ _ k1] at h2
    cases h2
    rw [k2] at h3
    cases h3
    rw [k3] at h4
    cases h4
    rw [kx _ _ k4] at e1
    cases e1
    cases e3
    rw [k5] at e4
    cases e4
    exact hP
  exact law_go kx G.T.g G.T.b G.T.builtins G.T.nolimit hg hT hC nT hL G.T.bmain hobj hints (Nat.le_trans hlen hn2) hr (fun base k1 g1 nsb tb => hF base k1 g1 tb fun himp => by
    obtain ⟨ms, hms, _⟩ := (G.T.seer himp).mods
    exact ⟨ms, nsb _ _ hms⟩) hb (hsp w ns hlen hbits)
/-- without lambdas -/
theorem law_end {l : PySem.W.OpenLaw} {n k : Nat} {q : Program} {loose : List Str} {XP : (Str → Option Value) → Heap → Prop} {YP : World → Heap → Prop} {d : DefRec} {K : Params → Fg} {sp : World → CSp} {x : Str}
    (hn : l.most = some n) (hn2 : n ≤ sizeLine) (hdf : d.params.defaults = []) (hr : RoomG k callerA) (hY : ∀ (w : World) (h : Heap), YP w h → (K w.params).In h)
    (F : ∀ (w : World) (mg : Str → Option Value) (fa : Addr) (h : Heap), (K w.params).In h → h.Ns mainGlobals mg → mg d.name = some (.ref fa) →
      ∃ fd : FuncData, (∀ (s : Shared) (u : Value), BindsTo s fd ⟨[u], []⟩ [(x, u)]) ∧
        ∀ base : Heap, (K w.params).In base → base.Ns mainGlobals mg → FnG l.prog w (K w.params) mg base L2.CX0 k fa fd [x] (sp w))
    (hsp : ∀ w, LawSp n (sp w)) (h0 : LamT.tabs = []) : PySem.W.WalkO q loose XP YP l.row.toRowW d [] (fun f vs => PySem.call f vs) :=
  law_endT (cs := []) hn hn2 hdf hr hY (fun p m => by rw [h0] at m; cases m) (fun w mg fa h k1 k2 k3 _ => by
    obtain ⟨fd, hb, hF⟩ := F w mg fa h k1 k2 k3
    exact ⟨fd, (fun _ m => nomatch m), (fun _ m => nomatch m), (fun _ m => nomatch m), hb, fun base k1 g1 _ _ => hF base k1 g1⟩) hsp
theorem room_caller {k : Nat} (h : k ≤ 60) : RoomG k callerA := by
  refine ⟨⟨rfl, ?_, ?_⟩, fun _ => rfl⟩
  · show 1 + claimMargin + 3 * k + 5 < recursionLimit
    have e : recursionLimit = 1000 := by first | rfl | decide
    have e2 : claimMargin ≤ 700 := by decide
    omega
  · show 4 + 16 * k + 200 < cLine
    have e : 4000 ≤ cLine := by decide
    omega
end CL
/-! CL9: parallel stores, -x, bundles for a def, loops by invariants -/
namespace CL
open PySem PySem.Spec PyProof.Rows L2
variable [LamT]
theorem RoomG.u {k : Nat} {A : Around} (r : RoomG k A) : A.units + 66 < cLine := by have := r.room.un; omega
theorem RoomG.u4 {k : Nat} {A : Around} (r : RoomG k A) : A.units + 64 < cLine := by have := r.room.un; omega
section
variable {X : Cx} {pos : Pos}
/-- x, y = e, f as two stores -/
def cPar (i j : Nat) (ta : CA) : CS := fun D ws S => ta ws S fun us S1 => match us with | [u, v] => D.nx ((ws.set i (some u)).set j (some v)) S1 | _ => False
theorem ss_par (i j : Nat) {x y : Str} {a b : Expr} {ta : CA} {px py pt : Pos} {kt k2 pt2} (hc : X.calm = true) (hN : X.N.Nodup) (ha : SA X [a, b] ta) (hi : X.N[i]? = some x := by rfl) (hj : X.N[j]? = some y := by rfl) (hij : i ≠ j := by decide)
    (hx : X.env.scope.names.lookup x = some .local := by rfl) (hy : X.env.scope.names.lookup y = some .local := by rfl)
    (hw : swappedStores [.Tuple [.Name x px, .Name y py] kt pt] (.Tuple [a, b] k2 pt2) X.env = pure (some [x, y]) := by rfl)
    (hs : swapsWithSole [.Tuple [.Name x px, .Name y py] kt pt] (.Tuple [a, b] k2 pt2) pos.line X.env = pure false := by rfl) : SS X (.Assign [.Tuple [.Name x px, .Name y py] kt pt] (.Tuple [a, b] k2 pt2) pos) (cPar i j ta) := by
  refine ⟨fun D D' ws S l h => ha.mono _ _ _ _ (fun us S1 q => ?_) h, (ps_par hc hN hi hj hij hx hy ha.ok hw hs).imp fun D σ H h => ?_⟩
  · split at q
    · exact l.nx _ _ q
    · exact q
  · obtain ⟨Z, S, ws, ok, re, h⟩ := h
    refine liftA_of ha.mono ok re h fun us S1 vs H1 f1 ok1 r1 q => ?_
    split at q
    · cases r1 with
      | cons r1 r =>
        cases r with
        | cons r2 r =>
          cases r
          exact ⟨_, _, rfl, q _ H1 f1 ok1 (((re.fr f1).set r1).set r2)⟩
    · exact q.elim
def cPar3 (i j l : Nat) (ta : CA) : CS := fun D ws S => ta ws S fun us S1 => match us with | [u, v, w] => D.nx (((ws.set i (some u)).set j (some v)).set l (some w)) S1 | _ => False
theorem ss_par3 (i j l : Nat) {x y z : Str} {a b c : Expr} {ta : CA} {px py pz pt : Pos} {kt k2 pt2} (hc : X.calm = true) (hN : X.N.Nodup) (ha : SA X [a, b, c] ta) (hi : X.N[i]? = some x := by rfl) (hj : X.N[j]? = some y := by rfl) (hl : X.N[l]? = some z := by rfl)
    (hij : i ≠ j := by decide) (hil : i ≠ l := by decide) (hjl : j ≠ l := by decide)
    (hx : X.env.scope.names.lookup x = some .local := by rfl) (hy : X.env.scope.names.lookup y = some .local := by rfl) (hz : X.env.scope.names.lookup z = some .local := by rfl)
    (hw : swappedStores [.Tuple [.Name x px, .Name y py, .Name z pz] kt pt] (.Tuple [a, b, c] k2 pt2) X.env = pure (some [x, y, z]) := by rfl)
    (hs : swapsWithSole [.Tuple [.Name x px, .Name y py, .Name z pz] kt pt] (.Tuple [a, b, c] k2 pt2) pos.line X.env = pure false := by rfl) : SS X (.Assign [.Tuple [.Name x px, .Name y py, .Name z pz] kt pt] (.Tuple [a, b, c] k2 pt2) pos) (cPar3 i j l ta) := by
  refine ⟨fun D D' ws S l h => ha.mono _ _ _ _ (fun us S1 q => ?_) h, (ps_par3 hc hN hi hj hl hij hil hjl hx hy hz ha.ok hw hs).imp fun D σ H h => ?_⟩
  · split at q
    · exact l.nx _ _ q
    · exact q
  · obtain ⟨Z, S, ws, ok, re, h⟩ := h
    refine liftA_of ha.mono ok re h fun us S1 vs H1 f1 ok1 r1 q => ?_
    split at q
    · cases r1 with
      | cons r1 r =>
        cases r with
        | cons r2 r =>
          cases r with
          | cons r3 r =>
            cases r
            exact ⟨_, _, _, rfl, q _ H1 f1 ok1 ((((re.fr f1).set r1).set r2).set r3)⟩
    · exact q.elim
end
/-- what is known of a def of the text -/
structure FnF (K : Fg) (mg : Str → Option Value) (x : Str) (st : Stmt) (f : Addr) (fd : FuncData) (ps : List Str) : Prop where
  F : Fun K x x st f fd
  b : Binds K fd ps []
  m : mg x = some (.ref f)
  k : PySem.W.keepIn K (.ref f) = true
/-! ### loops -/
end CL
/-! CL10: short names of readings; a plain law; what simp unfolds -/
namespace CL
open PySem PySem.Spec PyProof.Rows L2
variable [LamT]
abbrev cLt : C2 := cI2 (fun _ _ => True) fun i j => .bl (decide (i < j))
abbrev cLe : C2 := cI2 (fun _ _ => True) fun i j => .bl (decide (i ≤ j))
abbrev cGt : C2 := cI2 (fun _ _ => True) fun i j => .bl (decide (j < i))
abbrev cGe : C2 := cI2 (fun _ _ => True) fun i j => .bl (decide (j ≤ i))
abbrev cSub : C2 := cI2 (fun _ _ => True) fun i j => .int (i - j)
abbrev cMul : C2 := cI2 CMulW fun i j => .int (i * j)
abbrev cFd : C2 := cI2 CDivW fun i j => .int (i / j)
abbrev cMod : C2 := cI2 (fun _ j => 0 < j) fun i j => .int (i % j)
abbrev cPow : C2 := cI2 CPw fun i j => .int (i ^ j.toNat)
abbrev cShl : C2 := cI2 CPow fun i j => .int (i * 2 ^ j.toNat)
abbrev cBand : C2 := cI2 (fun _ _ => True) fun i j => .int (Builtin.bitAnd i j)
/-- the plain law of a def: from what it promises, its reading -/
structure PL (N ps : List Str) (sp : CSp) (t : CS) : Prop where
  mono : MonSp sp
  len : ∀ us S Q E, sp us S Q E → us.length = ps.length
  go : ∀ us S Q E, sp us S Q E → t (bodyEnds S Q) (cstart N us) S
abbrev spNo : CSp := fun _ _ _ _ => False
theorem fn_no {P : Program} {w : World} {K : Fg} {mg : Str → Option Value} {base : Heap} {k : Nat} {f : Addr} {fd : FuncData} {ps : List Str} : FnG P w K mg base L2.CX0 k f fd ps spNo :=
  ⟨fun _ _ _ _ _ _ _ _ h => h, fun _ _ _ _ h => h.elim, fun _ _ _ _ _ _ _ _ _ _ _ _ _ h => by
    obtain ⟨_, _, _, _, _, h⟩ := h
    exact h.elim⟩
end CL
/-! CL11: promises by relations; the pot -/
namespace CL
open PySem PySem.Spec PyProof.Rows L2
variable [LamT]
/-- a promise: from what is given, what is answered -/
def mkSp (rel : List Cv → Sto → (Cv → Sto → Prop) → Prop) : CSp := fun us S Q _ => ∃ R, rel us S R ∧ ∀ w S', R w S' → Q w S'
/-- elsewhere nothing changed -/
def Off (S S' : Sto) (p : Addr) : Prop := ∀ a, a ≠ p → S' a = S a
theorem Off.refl (S : Sto) (p : Addr) : Off S S p := fun _ _ => rfl
theorem Off.trans {S S1 S2 : Sto} {p : Addr} (a : Off S S1 p) (b : Off S1 S2 p) : Off S S2 p := fun x h => (b x h).trans (a x h)
theorem Off.set {S : Sto} {p : Addr} {o : Ob} : Off S (S.set p o) p := fun a h => Sto.set_ne h
/-- the pot: what is left of the number, the seed, the count -/
def Pot (S : Sto) (p : Addr) (b : Int) : Prop := ∃ o s n : Int, S p = some (.lst [.int o, .int s, .int n]) ∧ 0 ≤ o ∧ o < 10 ^ 300 ∧ 0 ≤ s ∧ s < 2 ^ 61 ∧ 0 ≤ n ∧ n ≤ b
theorem Pot.mono {S : Sto} {p : Addr} {b c : Int} (h : Pot S p b) (l : b ≤ c) : Pot S p c := by
  obtain ⟨o, s, n, e, h1, h2, h3, h4, h5, h6⟩ := h
  exact ⟨o, s, n, e, h1, h2, h3, h4, h5, by omega⟩
theorem Pot.off {S S' : Sto} {p : Addr} {b : Int} (h : Pot S p b) (e' : S' p = S p) : Pot S' p b := by
  obtain ⟨o, s, n, e, r⟩ := h
  exact ⟨o, s, n, e'.trans e, r⟩
/-- bits -/
theorem mulW_of {i j : Int} (a b : Nat) (ha : i.natAbs < 2 ^ a) (hb : j.natAbs < 2 ^ b) (h0 : 0 < a := by decide) (h1 : 0 < b := by decide) (h : a + b ≤ 1000000 := by decide) : CMulW i j := wide_mul ha hb h0 h1 h
end CL
/-! CL12: steps of a clean reading, backwards -/
namespace CL
open PySem PySem.Spec PyProof.Rows L2
variable [LamT]
section
variable {D : CEnds} {ws : CL.Env} {S : Sto} {t u : CS} {te ta tb tc : CE} {ua : CA} {g : CG} {gs : CGs} {c c' : CT} {i j k : Int} {n : Nat} {w : Cv} {us xs ys : List Cv} {r r' : C2} {rc : CC} {p : Addr} {x y : Str}
theorem x_drop (h : te ws S fun _ S1 => D.nx ws S1) : cDrop te D ws S := h
theorem x_var {Q} (e : ws[n]? = some (some w)) (h : Q w S) : cVar n ws S Q := by
  unfold cVar; rw [e]; exact h
theorem x_ixL {Q : Cv → Sto → Prop} (e : atI xs i = some w) (h : Q w S) : cIx (.lst xs) (.int i) S Q := by
  show match atI xs i with | some w => Q w S | none => False
  rw [e]; exact h
theorem x_ixT {Q : Cv → Sto → Prop} (e : atI xs i = some w) (h : Q w S) : cIx (.tup xs) (.int i) S Q := by
  show match atI xs i with | some w => Q w S | none => False
  rw [e]; exact h
theorem x_ixS {Q : Cv → Sto → Prop} (e : atI xs i = some w) (h : Q w S) : cIx (.scr xs) (.int i) S Q := by
  show match atI xs i with | some w => Q w S | none => False
  rw [e]; exact h
def kSet (D : CEnds) (ws : CL.Env) (w : Cv) : Cv → Cv → Sto → Prop := fun o i S3 => match o, i with
  | .ref p, .int k => ownL S3 p fun xs => match ixN xs.length k with | some j => D.nx ws (S3.set p (.lst (xs.set j w))) | none => False
  | _, _ => False
theorem x_setK {ti : CE} (h : te ws S fun w S1 => ta ws S1 fun o S2 => ti ws S2 fun i S3 => kSet D ws w o i S3) : cSetL ta ti te D ws S := h
theorem x_kSet (es : S p = some (.lst xs)) (e : ixN xs.length k = some n) (h : D.nx ws (S.set p (.lst (xs.set n w)))) : kSet D ws w (.ref p) (.int k) S := by
  refine ownL_to es ?_
  show match ixN xs.length k with | some j => D.nx ws (S.set p (.lst (xs.set j w))) | none => False
  rw [e]; exact h
theorem x_cnil {Q : List Cv → Sto → Prop} (h : Q [] S) : cNil ws S Q := h
theorem x_ccons {Q : List Cv → Sto → Prop} (h : te ws S fun w S1 => ua ws S1 fun r S2 => Q (w :: r) S2) : cCons te ua ws S Q := h
theorem x_call {Q} {sp : CSp} {E} (h : ua ws S fun us S1 => sp us S1 Q E) : cCall sp E ua ws S Q := h
end
theorem log2W {i : Int} {a : Nat} (ha : i.natAbs < 2 ^ a) (h0 : 0 < a) : i.natAbs.log2 < a := PySem.Flt.log2_lt_of h0 ha
theorem cpw_of {i : Int} (m : Nat) {j : Int} (ha : i.natAbs < 2 ^ m) (h0 : 0 < m := by decide) (hj : 0 ≤ j := by decide) (h : (m : Int) * j ≤ 2 ^ 27 := by decide) : CPw i j := by
  refine ⟨hj, Int.le_trans (Int.mul_le_mul_of_nonneg_right ?_ hj) h⟩
  have b : Builtin.Int.intBits i ≤ i.natAbs.log2 + 1 := by
    unfold Builtin.Int.intBits
    split <;> omega
  have := log2W ha h0
  omega
end CL
namespace CL
open PySem PySem.Spec PyProof.Rows L2
variable [LamT]
/-- bounds by powers of two -/
def NB (i : Int) (a : Nat) : Prop := i.natAbs < 2 ^ a
theorem NB.v {i : Int} (h : -(2 ^ 64) < i ∧ i < 2 ^ 64) : NB i 64 := by unfold NB; omega
theorem pow_le2 {a b : Nat} (h : a ≤ b) : 2 ^ a ≤ 2 ^ b := Nat.pow_le_pow_right (by decide) h
theorem NB.mono {i : Int} {a b : Nat} (h : NB i a) (l : a ≤ b) : NB i b := Nat.lt_of_lt_of_le h (pow_le2 l)
theorem NB.add {i j : Int} {a b : Nat} (h : NB i a) (g : NB j b) : NB (i + j) (a + b + 1) := by
  have h1 := Nat.lt_of_lt_of_le h (pow_le2 (Nat.le_add_right a b))
  have h2 := Nat.lt_of_lt_of_le g (pow_le2 (Nat.le_add_left b a))
  unfold NB; rw [Nat.pow_succ]; omega
theorem NB.sub {i j : Int} {a b : Nat} (h : NB i a) (g : NB j b) : NB (i - j) (a + b + 1) := by
  have h1 := Nat.lt_of_lt_of_le h (pow_le2 (Nat.le_add_right a b))
  have h2 := Nat.lt_of_lt_of_le g (pow_le2 (Nat.le_add_left b a))
  unfold NB; rw [Nat.pow_succ]; omega
theorem NB.mul {i j : Int} {a b : Nat} (h : NB i a) (g : NB j b) : NB (i * j) (a + b) := wide_lt h g
theorem NB.mod {i j : Int} {b : Nat} (h0 : 0 < j) (g : NB j b) : NB (i % j) b := by
  have h1 := Int.emod_nonneg i (by omega : j ≠ 0)
  have h2 := Int.emod_lt_of_pos i h0
  unfold NB at g ⊢; omega
theorem NB.div {i j : Int} {a : Nat} (h0 : 0 < j) (h : NB i a) : NB (i / j) a := by
  unfold NB at h ⊢
  have : (i / j).natAbs ≤ i.natAbs := by
    exact Int.natAbs_ediv_le_natAbs i j
  omega
theorem NB.abs {i : Int} {a : Nat} (h : NB i a) : NB (i.natAbs : Int) a := by unfold NB at h ⊢; omega
theorem NB.pos {a : Nat} {i : Int} (h : NB i a) (h0 : i ≠ 0) : 0 < a := by
  unfold NB at h
  cases a with
  | zero => simp at h; omega
  | succ a => omega
theorem divW_nb {i j : Int} {a : Nat} (h : NB j a) (hj : 0 < j) (l : a ≤ 8990) : CDivW i j := wide_div hj (NB.mono h (Nat.le_succ a)) (Nat.succ_pos _) (by omega)
section
variable {S : Sto} {w : Cv} {xs : List Cv} {i : Int}
theorem atI_mem {α : Type} {xs : List α} {i : Int} (h0 : 0 ≤ i) (h1 : i < xs.length) : ∃ w, w ∈ xs ∧ atI xs i = some w := by
  have hl : i.toNat < xs.length := by omega
  refine ⟨xs[i.toNat], List.getElem_mem hl, ?_⟩
  unfold atI ixN
  rw [if_pos h0, if_pos h1]
  exact List.getElem?_eq_getElem hl
end
section
variable {nx : CL.Env → Sto → Prop} {rt : Cv → Sto → Prop} {bk ct : CL.Env → Sto → Prop} {ex : Ex → CL.Env → Sto → Prop} {ws : CL.Env} {S : Sto} {t u : CS}
end
end CL
namespace CL
open PySem PySem.Spec PyProof.Rows L2
variable [LamT]
/-- the bounds, from the outside in -/
theorem NB.v1 {i : Int} {n : Nat} (h : -(2 ^ 64) < i ∧ i < 2 ^ 64) (hn : 64 ≤ n := by decide) : NB i n := (NB.v h).mono hn
theorem NB.add1 {i j : Int} {n : Nat} (h : NB i (n / 4)) (g : NB j (n / 4)) (hn : 4 ≤ n := by decide) : NB (i + j) n := (NB.add h g).mono (by omega)
theorem NB.sub1 {i j : Int} {n : Nat} (h : NB i (n / 4)) (g : NB j (n / 4)) (hn : 4 ≤ n := by decide) : NB (i - j) n := (NB.sub h g).mono (by omega)
theorem NB.mul1 {i j : Int} {n : Nat} (h : NB i (n / 2)) (g : NB j (n / 2)) : NB (i * j) n := (NB.mul h g).mono (by omega)
theorem NB.pow {i : Int} {a : Nat} (h : NB i a) (ha : 0 < a) : ∀ n : Nat, NB (i ^ n) (a * n + 1)
  | 0 => by show (i ^ 0).natAbs < 2 ^ (a * 0 + 1); simp
  | n + 1 => by
    have := NB.mul (NB.pow h ha n) h
    rw [← Int.pow_succ] at this
    exact this.mono (by rw [Nat.mul_succ]; omega)
theorem NB.pow1 {i : Int} {n k : Nat} (h : NB i (n / 8)) (hk : k ≤ 7 := by decide) (hn : 8 ≤ n := by decide) : NB (i ^ k) n :=
  (NB.pow h (by omega) k).mono (by
    have := Nat.mul_le_mul_left (n / 8) hk
    omega)
end CL
/-! CL13: repr of small values; comprehensions and fors that use the pot -/
namespace CL
open PySem PySem.Spec PyProof.Rows L2
variable [LamT]
mutual
def smallV : Cv → Bool
  | .non | .bl _ => true
  | .int i => decide (i.natAbs < 10 ^ 20)
  | .str x => PyData.strOk x && x.cps.toList.all fun c => decide (c < 16 ^ 8)
  | .tup xs => smallVs xs
  | .lst xs => smallVs xs
  | _ => false
def smallVs : List Cv → Bool
  | [] => true
  | x :: r => smallV x && smallVs r
end
mutual
def blk : Cv → Nat
  | .str x => x.cps.size
  | .tup xs => blks xs
  | .lst xs => blks xs
  | _ => 0
def blks : List Cv → Nat
  | [] => 0
  | x :: r => blk x + 1 + blks r
end
theorem int_small {i : Int} (h : i.natAbs < 10 ^ 20) : (PyData.shown (.int i)).length ≤ 24 := by
  have e := int_text_length_le10 (k := 20) (by decide) h
  show (Str.ofString (toString i)).length ≤ 24
  rw [PySem.ofString_length]; omega
theorem log_small {i : Int} (h : i.natAbs < 10 ^ 20) : i.natAbs.log2 < 1920 := by
  rcases Nat.eq_zero_or_pos i.natAbs with z | z
  · rw [z]; decide
  · have : i.natAbs.log2 < 67 := (Nat.log2_lt (Nat.ne_of_gt z)).mpr (Nat.lt_of_lt_of_le h (by decide))
    omega
mutual
theorem small_ok : ∀ w : Cv, smallV w = true → isD w = true ∧ showsOk w = true ∧ (py w).leavesShort 24 = true ∧ (py w).bulk = blk w
  | .non, _ => ⟨rfl, rfl, rfl, rfl⟩
  | .bl b, _ => ⟨rfl, rfl, rfl, rfl⟩
  | .int i, h => by
    have h' : i.natAbs < 10 ^ 20 := by simpa [smallV] using h
    exact ⟨rfl, by show decide _ = true; exact decide_eq_true (log_small h'), by show decide _ = true; exact decide_eq_true (int_small h'), rfl⟩
  | .str x, h => by
    have h' : PyData.strOk x = true ∧ (x.cps.toList.all fun c => decide (c < 16 ^ 8)) = true := by simpa only [smallV, Bool.and_eq_true] using h
    exact ⟨h'.1, rfl, h'.2, rfl⟩
  | .tup xs, h => by
    obtain ⟨a, b, c, d⟩ := smalls_ok xs (by simpa only [smallV] using h)
    exact ⟨by simpa only [isD] using a, by simpa only [showsOk] using b, by simpa only [py, PyData.leavesShort] using c, by simpa only [py, PyData.bulk, blk] using d⟩
  | .lst xs, h => by
    obtain ⟨a, b, c, d⟩ := smalls_ok xs (by simpa only [smallV] using h)
    exact ⟨by simpa only [isD] using a, by simpa only [showsOk] using b, by simpa only [py, PyData.leavesShort] using c, by simpa only [py, PyData.bulk, blk] using d⟩
  | .dK _, h => by simp [smallV] at h
  | .dT _, h => by simp [smallV] at h
  | .ins _ _, h => by simp [smallV] at h
  | .ref _, h => by simp [smallV] at h
  | .opq _, h => by simp [smallV] at h
  | .scr _, h => by simp [smallV] at h
  | .tupF _, h => by simp [smallV] at h
  | .exc _ _, h => by simp [smallV] at h
  | .lam _ _ _ _ _, h => by simp [smallV] at h
  | .cls _, h => by simp [smallV] at h
theorem smalls_ok : ∀ xs : List Cv, smallVs xs = true → isDs xs = true ∧ showsOks xs = true ∧ PyData.leavesShortAll 24 (pys xs) = true ∧ PyData.bulkAll (pys xs) = blks xs
  | [], _ => ⟨rfl, rfl, rfl, rfl⟩
  | x :: r, h => by
    have h' : smallV x = true ∧ smallVs r = true := by simpa only [smallVs, Bool.and_eq_true] using h
    obtain ⟨a, b, c, d⟩ := small_ok x h'.1
    obtain ⟨a2, b2, c2, d2⟩ := smalls_ok r h'.2
    exact ⟨by simp only [isDs, a, a2]; rfl, by simp only [showsOks, b, b2]; rfl, by simp only [pys, PyData.leavesShortAll, c, c2]; rfl, by simp only [pys, PyData.bulkAll, blks, d, d2]⟩
end
theorem okR_small {w : Cv} (h : smallV w = true) (hd : dep w ≤ 64) (hb : blk w ≤ 500000) : okR w := by
  obtain ⟨a, b, c, d⟩ := small_ok w h
  refine ⟨by unfold okD; rw [a, decide_eq_true hd]; rfl, b, ?_⟩
  have := PyData.shown_le_bulk 24 (by decide) (py w) c
  have e : sizeLine = 16777216 := by decide
  unfold rp
  omega
/-- small values are data that == takes -/
theorem okD_small {w : Cv} (h : smallV w = true) (hd : dep w ≤ 64) : okD w = true := by
  obtain ⟨a, _, _, _⟩ := small_ok w h
  unfold okD; rw [a, decide_eq_true hd]; rfl
theorem x_repr {S : Sto} {w : Cv} {Q : Cv → Sto → Prop} (hr : ∀ a, w ≠ .ref a) (ok : okR w) (h : Q (.str (rp w)) S) : cRepr [w] S Q := by
  have e : deref w S = some w := by
    cases w with
    | ref a => exact absurd rfl (hr a)
    | _ => rfl
  show match deref w S with | some w => okR w ∧ Q (.str (rp w)) S | none => False
  rw [e]
  exact ⟨ok, h⟩
theorem cYes_mono : MonT cYes := fun _ _ _ _ f h => f _ _ h
/-! the pot in comprehensions -/
section
variable {G : Sto → Prop} {g : CG} {te : CE} {ws : CL.Env} {Q : List Cv → Sto → Prop} {p : Addr} {S0 : Sto}
end
section
variable {α β : Type} {G : Sto → Prop} {g : CG} {tt : CT} {te : CE} {ws : CL.Env} {Q : List Cv → Sto → Prop} {S0 : Sto}
end
end CL
/-! CL14: conditions and rules as data -/
namespace CL
open PySem PySem.Spec PyProof.Rows L2
variable [LamT]
inductive Cd where
  | rg (m lo hi : Int)
  | no (c : Cd)
  | al (b : Bool) (cs : List Cd)
mutual
def enc : Cd → Cv
  | .rg m lo hi => .tup [.str "in", .int m, .int lo, .int hi]
  | .no c => .tup [.str "not", enc c]
  | .al b cs => .tup [.str (if b = true then "all" else "any"), .tup (encs cs)]
def encs : List Cd → List Cv
  | [] => []
  | c :: r => enc c :: encs r
end
theorem encs_map : ∀ cs : List Cd, encs cs = cs.map enc
  | [] => rfl
  | c :: r => by rw [encs, encs_map r]; rfl
abbrev Rg := Int × Int × Int
def eIn (r : Rg) : Cv := .tup [.str "in", .int r.1, .int r.2.1, .int r.2.2]
mutual
def ins : Cd → List Rg
  | .rg m lo hi => [(m, lo, hi)]
  | .no c => ins c
  | .al _ cs => inss cs
def inss : List Cd → List Rg
  | [] => []
  | c :: r => ins c ++ inss r
end
theorem inss_map : ∀ cs : List Cd, inss cs = cs.flatMap ins
  | [] => rfl
  | c :: r => by rw [inss, inss_map r]; rfl
mutual
def dp : Cd → Nat
  | .rg _ _ _ => 0
  | .no c => dp c + 1
  | .al _ cs => dps cs + 1
def dps : List Cd → Nat
  | [] => 0
  | c :: r => max (dp c) (dps r)
end
theorem dps_mem : ∀ {cs : List Cd} {c : Cd}, c ∈ cs → dp c ≤ dps cs
  | [], _, h => by cases h
  | d :: r, c, h => by
    rcases List.mem_cons.mp h with e | e
    · rw [e, dps]; exact Nat.le_max_left _ _
    · have := dps_mem e
      rw [dps]; omega
mutual
/-- the most parts of a condition in it -/
def wd : Cd → Nat
  | .rg _ _ _ => 0
  | .no c => wd c
  | .al _ cs => max cs.length (wds cs)
def wds : List Cd → Nat
  | [] => 0
  | c :: r => max (wd c) (wds r)
end
theorem wds_mem : ∀ {cs : List Cd} {c : Cd}, c ∈ cs → wd c ≤ wds cs
  | [], _, h => by cases h
  | d :: r, c, h => by
    rcases List.mem_cons.mp h with e | e
    · rw [e, wds]; exact Nat.le_max_left _ _
    · have := wds_mem e
      rw [wds]; omega
theorem wds_le {n : Nat} : ∀ {cs : List Cd}, (∀ c ∈ cs, wd c ≤ n) → wds cs ≤ n
  | [], _ => Nat.zero_le _
  | c :: r, h => by
    have h1 := h c List.mem_cons_self
    have h2 := wds_le fun z hz => h z (List.mem_cons_of_mem _ hz)
    rw [wds]; omega
mutual
/-- does it hold of a number -/
def hold (n : Int) : Cd → Bool
  | .rg m lo hi => decide (lo ≤ if 0 < m then n % m else n) && decide ((if 0 < m then n % m else n) ≤ hi)
  | .no c => !hold n c
  | .al b cs => if b = true then holdA n cs else holdO n cs
def holdA (n : Int) : List Cd → Bool
  | [] => true
  | c :: r => hold n c && holdA n r
def holdO (n : Int) : List Cd → Bool
  | [] => false
  | c :: r => hold n c || holdO n r
end
theorem holdA_map (n : Int) : ∀ cs : List Cd, holdA n cs = (cs.map (hold n)).all fun b => b
  | [] => rfl
  | c :: r => by rw [holdA, holdA_map n r]; rfl
theorem holdO_map (n : Int) : ∀ cs : List Cd, holdO n cs = (cs.map (hold n)).any fun b => b
  | [] => rfl
  | c :: r => by rw [holdO, holdO_map n r]; rfl
/-- the numbers in it keep to a bound -/
def okRg (r : Rg) : Prop := 0 ≤ r.1 ∧ r.1 < 5000 ∧ 0 ≤ r.2.1 ∧ r.2.1 < 5000 ∧ 0 ≤ r.2.2 ∧ r.2.2 < 5000 ∧ (r.1 = 0 ∨ r.1 = 10 ∨ r.1 = 100 ∨ r.1 = 1000) ∧ r.2.1 ≤ r.2.2 ∧ (0 < r.1 → r.2.2 < r.1)
structure Rl where
  rows : List (Str × Cd)
  last : Str
def eRow (r : Str × Cd) : Cv := .tup [.str r.1, enc r.2]
def eR (r : Rl) : Cv := .tup [.tup (r.rows.map eRow), .str r.last]
def insR (r : Rl) : List Rg := r.rows.flatMap fun x => ins x.2
def bnd (l : List Rg) : Int := match l.filterMap fun r => if r.1 = 0 then some (r.2.2 + 1) else none with | [] => 0 | ns => lmax 0 ns
def prd (l : List Rg) : Int := match l.filterMap fun r => if 0 < r.1 then some r.1 else none with | [] => 1 | ns => lmax 0 ns
def spHolds (d : Nat) : CSp := mkSp fun us S R => ∃ c n, us = [enc c, .int n] ∧ dp c < d ∧ wd c ≤ 100000 ∧ (∀ r ∈ ins c, 0 ≤ r.1) ∧ R = fun w S' => w = .bl (hold n c) ∧ S' = S
end CL
/-! CL15: more steps: iterations, methods, aggregates -/
namespace CL
open PySem PySem.Spec PyProof.Rows L2
variable [LamT]
section
variable {D : CEnds} {ws : CL.Env} {S : Sto} {t u tb : CS} {te ta : CE} {ua : CA} {g g1 : CG} {tt tt1 : CT} {ti ti1 : CI} {i j : Int} {n : Nat} {w z : Cv} {us xs ys zs : List Cv} {p : Addr} {vs vs1 : List Nat} {rm : CM} {x : Str}
def kBM (T : String) (r : CM) (ta : CA) (ws : CL.Env) (Q : Cv → Sto → Prop) : Cv → Sto → Prop := fun o S1 => tyC T o S1 ∧ ta ws S1 fun us S2 => r o us S2 Q
theorem x_bmK {Q} {T : String} (h : te ws S (kBM T rm ua ws Q)) : cBM T rm te ua ws S Q := h
theorem x_kBM {Q} (e : S p = some (.lst xs)) (h : ua ws S fun us S2 => rm (.ref p) us S2 Q) : kBM "list" rm ua ws Q (.ref p) S := ⟨by simp [tyC, e], h⟩
theorem x_append {Q : Cv → Sto → Prop} (e : S p = some (.lst xs)) (hl : xs.length < sizeLine) (h : Q .non (S.set p (.lst (xs ++ [w])))) : cAppend (.ref p) [w] S Q := ownL_to e ⟨hl, h⟩
theorem x_extendL {Q : Cv → Sto → Prop} (e : S p = some (.lst xs)) (hl : xs.length + zs.length ≤ sizeLine) (h : Q .non (S.set p (.lst (xs ++ zs)))) : cExtend (.ref p) [.lst zs] S Q := ownL_to e ⟨hl, h⟩
theorem x_maxD {Q : Cv → Sto → Prop} {ns : List Int} (e : asInts xs = some ns) (h : Q (match ns with | [] => w | ns => .int (lmax 0 ns)) S) : cMaxD [.lst xs] [w] S Q := by
  have e' : intsOf (.lst xs) S = some ns := e
  show match intsOf (.lst xs) S with | some [] => Q w S | some ns => Q (.int (lmax 0 ns)) S | none => False
  rw [e']
  cases ns <;> exact h
theorem x_maxL {Q : Cv → Sto → Prop} {ns : List Int} (e : asInts xs = some ns) (hn : ns ≠ []) (h : Q (.int (lmax 0 ns)) S) : cMax [.lst xs] S Q := by
  have e' : intsOf (.lst xs) S = some ns := e
  show match intsOf (.lst xs) S with | some ns => ns ≠ [] ∧ Q (.int (lmax 0 ns)) S | none => False
  rw [e']
  exact ⟨hn, h⟩
theorem x_minL {Q : Cv → Sto → Prop} {ns : List Int} (e : asInts xs = some ns) (hn : ns ≠ []) (h : Q (.int (lmin 0 ns)) S) : cMin [.lst xs] S Q := by
  have e' : intsOf (.lst xs) S = some ns := e
  show match intsOf (.lst xs) S with | some ns => ns ≠ [] ∧ Q (.int (lmin 0 ns)) S | none => False
  rw [e']
  exact ⟨hn, h⟩
variable {Q : Cv → Sto → Prop} {E : Ex → Sto → Prop} {d : Nat}
end
end CL
namespace CL
open PySem PySem.Spec PyProof.Rows L2
variable [LamT]
theorem pot_own {c m : Int} {b : Bool} (h0 : 0 < m) (h1 : m ≤ 10 ^ 300) : 0 ≤ c % m * (if b = true then 1 else 0) ∧ c % m * (if b = true then 1 else 0) < 10 ^ 300 := by
  have a := Int.emod_nonneg c (by omega : m ≠ 0)
  have z := Int.emod_lt_of_pos c h0
  generalize c % m = y at a z
  cases b with
  | true => rw [if_pos rfl, Int.mul_one]; exact ⟨a, Int.lt_of_lt_of_le z h1⟩
  | false => rw [if_neg (by decide), Int.mul_zero]; exact ⟨by decide, Int.pow_pos (by decide)⟩
end CL
namespace CL
variable [LamT]
theorem nb60 {n : Nat} (h : 1000 ≤ n := by decide) : NB (10 ^ Int.toNat 60) n := by
  have : NB (10 ^ Int.toNat 60) 1000 := by
    show ((10 : Int) ^ 60).natAbs < 2 ^ 1000
    have e : ((10 : Int) ^ 60).natAbs < 2 ^ 200 := by decide
    exact Nat.lt_of_lt_of_le e (pow_le2 (by omega))
  exact this.mono h
theorem p300 : (0 : Int) < (10 ^ Int.toNat 60) ^ Int.toNat 5 := Int.pow_pos (Int.pow_pos (by decide))
theorem p300le : ((10 : Int) ^ Int.toNat 60) ^ Int.toNat 5 ≤ 10 ^ 300 := by
  have : ((10 : Int) ^ 60) ^ 5 = 10 ^ 300 := Int.pow_mul.symm
  exact Int.le_of_eq this
theorem nb300 {n : Nat} {c : Int} (h : 8000 ≤ n := by decide) : NB (c % (10 ^ Int.toNat 60) ^ Int.toNat 5) n := by
  refine NB.mod p300 ?_
  exact NB.mono (NB.pow1 (n := 8000) nb60) h
end CL
namespace CL
open PySem PySem.Spec PyProof.Rows L2
variable [LamT]
end CL
namespace CL
open PySem PySem.Spec PyProof.Rows L2
variable [LamT]
end CL
namespace CL
variable [LamT]
end CL
namespace CL
open PySem PySem.Spec PyProof.Rows L2
variable [LamT]
theorem x_holds {S : Sto} {Q : Cv → Sto → Prop} {E : Ex → Sto → Prop} {d : Nat} {c : Cd} {n : Int} (h1 : dp c < d) (h2 : wd c ≤ 100000) (h3 : ∀ r ∈ ins c, 0 ≤ r.1) (h : Q (.bl (hold n c)) S) : spHolds d [enc c, .int n] S Q E := ⟨_, ⟨c, n, rfl, h1, h2, h3, rfl⟩, fun _ _ ⟨e1, e2⟩ => by rw [e1, e2]; exact h⟩
end CL
namespace CL
variable [LamT]
theorem nb10 {j : Int} {n : Nat} (hj : j.toNat ≤ 60 := by decide) (h : 1000 ≤ n := by decide) : NB (10 ^ j.toNat) n :=
  NB.mono (NB.pow (a := 4) (i := 10) (by unfold NB; decide) (by decide) j.toNat) (by omega)
end CL
/-! CL16: what the drawing defs promise; what is handed back -/
namespace CL
open PySem PySem.Spec PyProof.Rows L2
variable [LamT]
section
variable {S S' S1 : Sto} {p a : Addr} {b : Int} {w : Cv} {xs : List Cv} {Q : Cv → Sto → Prop}
/-- what is owned elsewhere stays -/
def Keep (S S' : Sto) (p : Addr) : Prop := ∀ a o, a ≠ p → S a = some o → S' a = some o
theorem Off.keep (h : Off S S' p) : Keep S S' p := fun a o n e => (h a n).trans e
theorem Keep.refl (S : Sto) (p : Addr) : Keep S S p := fun _ _ _ e => e
theorem Keep.trans (h : Keep S S1 p) (g : Keep S1 S' p) : Keep S S' p := fun a o n e => g a o n (h a o n e)
theorem Keep.new {o : Ob} (h : S a = none) : Keep S (S.set a o) p := fun x u _ e => by
  rw [Sto.set_ne (fun z => by subst z; rw [h] at e; cases e)]; exact e
theorem Keep.wr {S2 : Sto} {o : Ob} (k : Keep S S2 p) (h : S a = none) : Keep S (S2.set a o) p := fun x u n e => by
  rw [Sto.set_ne (fun z => by subst z; rw [h] at e; cases e)]; exact k x u n e
theorem Pot.some (h : Pot S p b) : ∃ o, S p = some o := by
  obtain ⟨o, s, n, e, _⟩ := h
  exact ⟨_, e⟩
theorem Pot.ne (h : Pot S p b) (n : S a = none) : a ≠ p := fun z => by
  obtain ⟨o, e⟩ := h.some
  subst z; rw [n] at e; cases e
theorem Pot.set {o : Ob} (h : Pot S p b) (n : a ≠ p) : Pot (S.set a o) p b := h.off (Sto.set_ne (fun z => n z.symm))
end
def okMs (ms : List Int) : Prop := ms ≠ [] ∧ ms.length < 1000 ∧ ∀ m ∈ ms, m = 0 ∨ m = 10 ∨ m = 100 ∨ m = 1000
def cst : Nat → Int
  | 0 => 100
  | d + 1 => 4 * cst d
theorem cst_ge : ∀ d, 100 ≤ cst d
  | 0 => by decide
  | d + 1 => by have := cst_ge d; rw [cst]; omega
def goodC (d : Nat) (c : Cd) : Prop := dp c ≤ d ∧ ((ins c).length : Int) ≤ cst d ∧ (∀ r ∈ ins c, okRg r) ∧ wd c ≤ 1000 ∧ (blk (enc c) : Int) ≤ cst d
theorem goodC.mono {d e : Nat} {c : Cd} (h : goodC d c) (l : d ≤ e) : goodC e c := by
  have : ∀ k, cst d ≤ cst (d + k) := fun k => by
    induction k with
    | zero => exact Int.le_refl _
    | succ k ih => have := cst_ge (d + k); rw [← Nat.add_assoc, cst]; omega
  have := this (e - d)
  rw [Nat.add_sub_cancel' l] at this
  exact ⟨Nat.le_trans h.1 l, Int.le_trans h.2.1 this, h.2.2.1, h.2.2.2.1, Int.le_trans h.2.2.2.2 this⟩
/-- the names of forms that are drawn -/
abbrev forms8 : List Str := ["one", "two", "few", "many", "zero", "other", "a", "lastform"]
def goodD (c : Cd) : Prop := dp c ≤ 5 ∧ (ins c).length ≤ 6400 ∧ (∀ r ∈ ins c, okRg r) ∧ wd c ≤ 1000 ∧ blk (enc c) ≤ 6400
theorem goodC.D {c : Cd} (h : goodC 3 c) : goodD c := ⟨Nat.le_trans h.1 (by decide), by
  have := h.2.1
  have e : cst 3 = 6400 := by decide
  omega, h.2.2.1, h.2.2.2.1, by
  have := h.2.2.2.2
  have e : cst 3 = 6400 := by decide
  omega⟩
def goodR (r : Rl) : Prop := r.rows.length ≤ 20 ∧ r.last ∈ forms8 ∧ ∀ x ∈ r.rows, x.1 ∈ forms8 ∧ goodD x.2
theorem goodR.ins {r : Rl} (h : goodR r) : (insR r).length ≤ 1000000 := by
  have key : ∀ l : List (Str × Cd), (∀ x ∈ l, goodD x.2) → (l.flatMap fun x => CL.ins x.2).length ≤ 6400 * l.length := by
    intro l
    induction l with
    | nil => intro _; simp
    | cons x l ih =>
      intro hx
      have h1 := (hx x List.mem_cons_self).2.1
      have h2 := ih fun y hy => hx y (List.mem_cons_of_mem _ hy)
      rw [List.flatMap_cons, List.length_append, List.length_cons]
      omega
  have := key r.rows fun x hx => (h.2.2 x hx).2
  have := h.1
  unfold insR
  omega
theorem goodR.ok {r : Rl} (h : goodR r) : ∀ x ∈ insR r, okRg x := fun x hx => by
  obtain ⟨y, hy, hx⟩ := List.mem_flatMap.mp hx
  exact (h.2.2 y hy).2.2.2.1 x hx
theorem goodR.dp {r : Rl} (h : goodR r) : ∀ x ∈ r.rows, dp x.2 < 6 := fun x hx => by
  have := (h.2.2 x hx).2.1
  omega
section
variable {S : Sto} {p : Addr} {b deep : Int} {ms : List Int} {d : Nat} {Q : Cv → Sto → Prop} {E : Ex → Sto → Prop}
end
end CL
namespace CL
variable [LamT]
theorem list_of {good : Cd → Prop} : ∀ ys : List Cv, (∀ y ∈ ys, ∃ c, y = enc c ∧ good c) → ∃ cs : List Cd, ys = cs.map enc ∧ ∀ c ∈ cs, good c
  | [], _ => ⟨[], rfl, fun _ h => (by cases h)⟩
  | y :: ys, h => by
    obtain ⟨c, e, g⟩ := h y List.mem_cons_self
    obtain ⟨cs, e2, g2⟩ := list_of ys fun z hz => h z (List.mem_cons_of_mem _ hz)
    exact ⟨c :: cs, by rw [e, e2]; rfl, fun z hz => (List.mem_cons.mp hz).elim (fun e => by rw [e]; exact g) (g2 z)⟩
theorem dps_le {n : Nat} : ∀ {cs : List Cd}, (∀ c ∈ cs, dp c ≤ n) → dps cs ≤ n
  | [], _ => Nat.zero_le _
  | c :: r, h => by
    have h1 := h c List.mem_cons_self
    have h2 := dps_le fun z hz => h z (List.mem_cons_of_mem _ hz)
    rw [dps]; omega
theorem inss_le : ∀ (cs : List Cd) (C : Int), 0 ≤ C → (∀ c ∈ cs, ((ins c).length : Int) ≤ C) → ((inss cs).length : Int) ≤ C * cs.length
  | [], C, _, _ => by simp [inss]
  | c :: r, C, h0, h => by
    have h1 := h c List.mem_cons_self
    have h2 := inss_le r C h0 fun z hz => h z (List.mem_cons_of_mem _ hz)
    rw [inss, List.length_append, List.length_cons]
    have e : C * ((r.length + 1 : Nat) : Int) = C * r.length + C := by push_cast; rw [Int.mul_add, Int.mul_one]
    rw [e]; push_cast; omega
end CL
namespace CL
variable [LamT]
theorem list_of' {α : Type} {good : α → Prop} (e : α → Cv) : ∀ ys : List Cv, (∀ y ∈ ys, ∃ c, y = e c ∧ good c) → ∃ cs : List α, ys = cs.map e ∧ ∀ c ∈ cs, good c
  | [], _ => ⟨[], rfl, fun _ h => (by cases h)⟩
  | y :: ys, h => by
    obtain ⟨c, e1, g⟩ := h y List.mem_cons_self
    obtain ⟨cs, e2, g2⟩ := list_of' e ys fun z hz => h z (List.mem_cons_of_mem _ hz)
    exact ⟨c :: cs, by rw [e1, e2]; rfl, fun z hz => (List.mem_cons.mp hz).elim (fun e => by rw [e]; exact g) (g2 z)⟩
end CL
namespace CL
variable [LamT]
theorem eraseIdx_map {α β : Type} (f : α → β) : ∀ (l : List α) (k : Nat), (l.map f).eraseIdx k = (l.eraseIdx k).map f
  | [], _ => rfl
  | _ :: _, 0 => rfl
  | x :: r, k + 1 => by simp [List.eraseIdx, eraseIdx_map f r k]
end CL
namespace CL
open PySem PySem.Spec PyProof.Rows L2
variable [LamT]
/-- what the law finds by itself -/
theorem lmax_eq {d d' : Int} {xs ys : List Int} (hx : xs ≠ []) (hy : ys ≠ []) (h1 : ∀ x ∈ xs, x ∈ ys ∨ ∃ y ∈ ys, x ≤ y) (h2 : ∀ y ∈ ys, y ∈ xs ∨ ∃ x ∈ xs, y ≤ x) : lmax d xs = lmax d' ys := by
  have a := lmax_mem (d := d) hx
  have b := lmax_mem (d := d') hy
  have p : lmax d xs ≤ lmax d' ys := by
    rcases h1 _ a with z | ⟨y, hy, z⟩
    · exact lmax_ge _ z
    · exact Int.le_trans z (lmax_ge _ hy)
  have q : lmax d' ys ≤ lmax d xs := by
    rcases h2 _ b with z | ⟨y, hy, z⟩
    · exact lmax_ge _ z
    · exact Int.le_trans z (lmax_ge _ hy)
  omega
theorem bnd_edge (l : List Rg) (ok : ∀ r ∈ l, okRg r) : lmax 0 (0 :: l.filterMap fun r => if r.1 = 0 then some (r.2.2 + 1) else none) = bnd l := by
  unfold bnd
  have pos : ∀ y ∈ l.filterMap (fun r => if r.1 = 0 then some (r.2.2 + 1) else none), 0 ≤ y := fun y hy => by
    obtain ⟨r, hr, e⟩ := List.mem_filterMap.mp hy
    have := ok r hr
    split at e
    · cases e; have := this.2.2.2.2.1; omega
    · cases e
  generalize List.filterMap _ l = ns at pos ⊢
  cases ns with
  | nil => rfl
  | cons n r =>
    refine lmax_eq (by simp) (by simp) (fun x hx => ?_) (fun y hy => .inl (List.mem_cons_of_mem _ hy))
    rcases List.mem_cons.mp hx with e | e
    · exact .inr ⟨n, List.mem_cons_self, by rw [e]; exact pos n List.mem_cons_self⟩
    · exact .inl e
theorem prd_edge (l : List Rg) (ok : ∀ r ∈ l, okRg r) : lmax 0 (1 :: l.map fun r => r.1) = prd l := by
  unfold prd
  have h1 : ∀ y ∈ l.filterMap (fun r => if 0 < r.1 then some r.1 else none), 1 ≤ y ∧ y ∈ l.map fun r => r.1 := fun y hy => by
    obtain ⟨r, hr, e⟩ := List.mem_filterMap.mp hy
    split at e
    · cases e; exact ⟨by omega, List.mem_map.mpr ⟨r, hr, rfl⟩⟩
    · cases e
  have h2 : ∀ y ∈ l.map (fun r => r.1), y ≤ 0 ∨ y ∈ l.filterMap fun r => if 0 < r.1 then some r.1 else none := fun y hy => by
    obtain ⟨r, hr, e⟩ := List.mem_map.mp hy
    by_cases z : 0 < r.1
    · exact .inr (List.mem_filterMap.mpr ⟨r, hr, by rw [if_pos z, e]⟩)
    · exact .inl (by omega)
  generalize List.filterMap _ l = ns at h1 h2 ⊢
  generalize l.map (fun r => r.1) = ms at h1 h2 ⊢
  cases ns with
  | nil =>
    show lmax 0 (1 :: ms) = 1
    have a := lmax_mem (d := 0) (ns := 1 :: ms) (by simp)
    have b := lmax_ge (d := 0) (ns := 1 :: ms) 1 List.mem_cons_self
    rcases List.mem_cons.mp a with e | e
    · exact e
    · rcases h2 _ e with z | z
      · omega
      · cases z
  | cons n r =>
    refine lmax_eq (by simp) (by simp) (fun x hx => ?_) (fun y hy => .inl (List.mem_cons_of_mem _ (h1 y hy).2))
    rcases List.mem_cons.mp hx with e | e
    · exact .inr ⟨n, List.mem_cons_self, by rw [e]; exact (h1 n List.mem_cons_self).1⟩
    · rcases h2 x e with z | z
      · exact .inr ⟨n, List.mem_cons_self, by have := (h1 n List.mem_cons_self).1; omega⟩
      · exact .inl z
theorem bnd_le (l : List Rg) (ok : ∀ r ∈ l, okRg r) : 0 ≤ bnd l ∧ bnd l ≤ 1000000 := by
  rw [← bnd_edge l ok]
  refine ⟨lmax_ge _ List.mem_cons_self, ?_⟩
  have key := lmax_mem (d := 0) (ns := 0 :: l.filterMap fun (r : Rg) => if r.1 = 0 then some (r.2.2 + 1) else none) (by simp)
  generalize lmax 0 (0 :: l.filterMap fun (r : Rg) => if r.1 = 0 then some (r.2.2 + 1) else none) = z at key ⊢
  rcases List.mem_cons.mp key with e | e
  · omega
  · obtain ⟨r, hr, e⟩ := List.mem_filterMap.mp e
    have := ok r hr
    split at e
    · have := this.2.2.2.2.2.1; injection e with e; omega
    · cases e
theorem bnd_le5 (l : List Rg) (ok : ∀ r ∈ l, okRg r) : bnd l ≤ 5000 := by
  rw [← bnd_edge l ok]
  have key := lmax_mem (d := 0) (ns := 0 :: l.filterMap fun (r : Rg) => if r.1 = 0 then some (r.2.2 + 1) else none) (by simp)
  generalize lmax 0 (0 :: l.filterMap fun (r : Rg) => if r.1 = 0 then some (r.2.2 + 1) else none) = z at key ⊢
  rcases List.mem_cons.mp key with e | e
  · omega
  · obtain ⟨r, hr, e⟩ := List.mem_filterMap.mp e
    have := ok r hr
    split at e
    · have := this.2.2.2.2.2.1; injection e with e; omega
    · cases e
/-- a condition holds alike of two numbers past all bounds whose difference all moduli divide -/
theorem hold_rg {n z m lo hi low wide k : Int} (hn : low ≤ n) (hz : low ≤ z) (e : n = z + wide * k) (h1 : m = 0 → hi < low) (h2 : 0 ≤ m) (h3 : 0 < m → m ∣ wide) : hold n (.rg m lo hi) = hold z (.rg m lo hi) := by
  by_cases hm : 0 < m
  · obtain ⟨q, hq⟩ := h3 hm
    have em : n % m = z % m := by
      rw [e, hq, Int.mul_assoc, Int.add_mul_emod_self_left]
    simp only [hold, if_pos hm, em]
  · have hm0 : m = 0 := by omega
    have := h1 hm0
    simp only [hold, if_neg hm]
    rw [decide_eq_false (show ¬ n ≤ hi by omega), decide_eq_false (show ¬ z ≤ hi by omega), Bool.and_false, Bool.and_false]
section
variable {n z low wide k : Int} (hn : low ≤ n) (hz : low ≤ z) (e : n = z + wide * k)
include hn hz e
mutual
theorem hold_round : ∀ c : Cd, (∀ r ∈ ins c, (r.1 = 0 → r.2.2 < low) ∧ 0 ≤ r.1 ∧ (0 < r.1 → r.1 ∣ wide)) → hold n c = hold z c
  | .rg m lo hi, h => by
    obtain ⟨a, b, c⟩ := h (m, lo, hi) (by simp [ins])
    exact hold_rg hn hz e a b c
  | .no c, h => by rw [hold, hold, hold_round c (by simpa only [ins] using h)]
  | .al b cs, h => by
    obtain ⟨p, q⟩ := hold_rounds cs (by simpa only [ins] using h)
    rw [hold, hold, p, q]
theorem hold_rounds : ∀ cs : List Cd, (∀ r ∈ inss cs, (r.1 = 0 → r.2.2 < low) ∧ 0 ≤ r.1 ∧ (0 < r.1 → r.1 ∣ wide)) → holdA n cs = holdA z cs ∧ holdO n cs = holdO z cs
  | [], _ => ⟨rfl, rfl⟩
  | c :: r, h => by
    rw [inss] at h
    have a := hold_round c fun x hx => h x (List.mem_append_left _ hx)
    obtain ⟨p, q⟩ := hold_rounds r fun x hx => h x (List.mem_append_right _ hx)
    exact ⟨by rw [holdA, holdA, a, p], by rw [holdO, holdO, a, q]⟩
end
end
theorem prd_le (l : List Rg) (ok : ∀ r ∈ l, okRg r) : 1 ≤ prd l ∧ prd l ≤ 1000000 := by
  rw [← prd_edge l ok]
  refine ⟨lmax_ge _ List.mem_cons_self, ?_⟩
  rcases List.mem_cons.mp (lmax_mem (d := 0) (ns := 1 :: l.map fun r => r.1) (by simp)) with e | e
  · omega
  · obtain ⟨r, hr, e⟩ := List.mem_map.mp e
    have := (ok r hr).2.1
    omega
end CL
namespace CL
open PySem PySem.Spec PyProof.Rows L2
variable [LamT]
section
variable {P : Program} {w : World} {K : Fg} {mg : Str → Option Value} {base : Heap} {k : Nat} {f : Addr} {fd : FuncData} {ps : List Str}
end
end CL
namespace CL
open PySem PySem.Spec PyProof.Rows L2
variable [LamT]
theorem small_int {i : Int} (h0 : 0 ≤ i) (h1 : i < 10000000) : smallV (.int i) = true := by
  show decide _ = true
  exact decide_eq_true (by omega)
theorem smallVs_map {α : Type} (e : α → Cv) : ∀ l : List α, (∀ a ∈ l, smallV (e a) = true) → smallVs (l.map e) = true
  | [], _ => rfl
  | a :: r, h => by
    show (smallV (e a) && smallVs (r.map e)) = true
    rw [h a List.mem_cons_self, smallVs_map e r fun b hb => h b (List.mem_cons_of_mem _ hb)]; rfl
mutual
theorem smallV_enc : ∀ c : Cd, (∀ r ∈ ins c, okRg r) → smallV (enc c) = true ∧ dep (enc c) ≤ 2 * dp c + 1
  | .rg m lo hi, h => by
    obtain ⟨a, b, c, d, e, f⟩ := h (m, lo, hi) (by simp [ins])
    refine ⟨?_, by rw [enc, dp]; exact Nat.le_of_ble_eq_true rfl⟩
    rw [enc]
    show (smallV (.str "in") && (smallV (.int m) && (smallV (.int lo) && (smallV (.int hi) && true)))) = true
    have e1 : smallV (.int m) = true := small_int a (by have : m < 5000 := b; omega)
    have e2 : smallV (.int lo) = true := small_int c (by have : lo < 5000 := d; omega)
    have e3 : smallV (.int hi) = true := small_int e (by have : hi < 5000 := f.1; omega)
    rw [e1, e2, e3]; decide +kernel
  | .no c, h => by
    obtain ⟨a, b⟩ := smallV_enc c (by simpa only [ins] using h)
    refine ⟨?_, ?_⟩
    · rw [enc]
      show (smallV (.str "not") && (smallV (enc c) && true)) = true
      rw [a]; decide +kernel
    · rw [enc, dp]
      show max (dep (.str "not")) (max (dep (enc c)) 0) + 1 ≤ _
      have : dep (.str "not") = 0 := rfl
      omega
  | .al b cs, h => by
    obtain ⟨a, z⟩ := smallV_encs cs (by simpa only [ins] using h)
    refine ⟨?_, ?_⟩
    · rw [enc]
      show (smallV (.str (if b = true then "all" else "any")) && (smallVs (encs cs) && true)) = true
      rw [a]; cases b <;> decide +kernel
    · rw [enc, dp]
      show max (dep (.str (if b = true then "all" else "any"))) (max (deps (encs cs) + 1) 0) + 1 ≤ _
      have : dep (.str (if b = true then "all" else "any")) = 0 := rfl
      omega
theorem smallV_encs : ∀ cs : List Cd, (∀ r ∈ inss cs, okRg r) → smallVs (encs cs) = true ∧ deps (encs cs) ≤ 2 * dps cs + 1
  | [], _ => ⟨rfl, Nat.zero_le _⟩
  | c :: r, h => by
    rw [inss] at h
    obtain ⟨a, b⟩ := smallV_enc c fun x hx => h x (List.mem_append_left _ hx)
    obtain ⟨a2, b2⟩ := smallV_encs r fun x hx => h x (List.mem_append_right _ hx)
    refine ⟨?_, ?_⟩
    · rw [encs]
      show (smallV (enc c) && smallVs (encs r)) = true
      rw [a, a2]; rfl
    · rw [encs, dps]
      show max (dep (enc c)) (deps (encs r)) ≤ _
      omega
end
end CL
namespace CL
variable [LamT]
theorem blks_le : ∀ (cs : List Cd) (C : Int), 0 ≤ C → (∀ c ∈ cs, (blk (enc c) : Int) ≤ C) → (blks (cs.map enc) : Int) ≤ (C + 1) * cs.length
  | [], C, _, _ => by simp [blks]
  | c :: r, C, h0, h => by
    have h1 := h c List.mem_cons_self
    have h2 := blks_le r C h0 fun z hz => h z (List.mem_cons_of_mem _ hz)
    have e : (C + 1) * ((r.length + 1 : Nat) : Int) = (C + 1) * r.length + (C + 1) := by push_cast; rw [Int.mul_add, Int.mul_one]
    rw [List.length_cons, e]
    show ((blk (enc c) + 1 + blks (r.map enc) : Nat) : Int) ≤ _
    push_cast; omega
end CL
/-! CL17: readings are monotone -/
namespace CL
open PySem PySem.Spec PyProof.Rows L2
variable [LamT]
section
variable {ta tb tc te to : CE} {ua ub : CA} {r r' : C2} {rc : CC} {rk : CCK} {rm : CM} {r1 : C1} {c c' : CT} {t u : CS} {g g1 : CG} {gs : CGs} {ti ti1 : CI} {vs vs1 : List Nat} {n m : Nat} {w : Cv} {f : Bool → Bool} {sp : CSp} {E : Ex → Sto → Prop} {T : String}
theorem mo_var : MonE (cVar n) := fun ws S Q Q' f h => by
  unfold cVar at h ⊢
  split at h <;> first | exact f _ _ h | exact h
theorem mo_c : MonE (cC w) := fun ws S Q Q' f h => f _ _ h
theorem mo_un (h : Mon1 r1) (ha : MonE ta) : MonE (cUn r1 ta) := fun ws S Q Q' f q => ha _ _ _ _ (fun x S1 q1 => h _ _ _ _ f q1) q
theorem mo_not (h : MonT c) : MonT (cNot c) := fun ws S Q Q' f q => h _ _ _ _ (fun b S1 h1 => f _ _ h1) q
theorem mo_andV (ha : MonE ta) (hb : MonE tb) : MonE (cAndV ta tb) := fun ws S Q Q' f h => ha _ _ _ _ (fun w S1 h1 => by
  cases w with
  | bl k => cases k with
    | true => exact hb _ _ _ _ f h1
    | false => exact f _ _ h1
  | _ => exact h1) h
theorem mo_if (hc : MonT c) (ha : MonE ta) (hb : MonE tb) : MonE (cIf c ta tb) := fun ws S Q Q' f h => hc _ _ _ _ (fun k S1 h1 => by
  cases k with
  | true => exact ha _ _ _ _ f h1
  | false => exact hb _ _ _ _ f h1) h
theorem mo_chain (hr : Mon2 r) (hr' : Mon2 r') (ha : MonE ta) (hb : MonE tb) (hc : MonE tc) : MonE (cChain r r' ta tb tc) := fun ws S Q Q' f h => ha _ _ _ _ (fun x S1 q1 => hb _ _ _ _ (fun y S2 q2 => hr _ _ _ _ _ (fun z S3 q3 => by
  split at q3
  · exact hc _ _ _ _ (fun u S4 q4 => hr' _ _ _ _ _ f q4) q3
  · exact f _ _ q3
  · exact q3.elim) q2) q1) h
theorem mo_nil : MonA cNil := fun ws S Q Q' f h => f _ _ h
theorem mo_cons (ha : MonE ta) (hu : MonA ua) : MonA (cCons ta ua) := fun ws S Q Q' f h => ha _ _ _ _ (fun w S1 h1 => hu _ _ _ _ (fun r S2 h2 => f _ _ h2) h1) h
theorem mo_tup (h : MonA ua) : MonE (cTup ua) := fun ws S Q Q' f q => h _ _ _ _ (fun r S1 h1 => ⟨h1.1, f _ _ h1.2⟩) q
theorem mo_lst (h : MonA ua) : MonE (cLst ua) := fun ws S Q Q' f q => h _ _ _ _ (fun r S1 h1 => ⟨h1.1, f _ _ h1.2⟩) q
theorem mo_lstO (h : MonA ua) : MonE (cLstO ua) := fun ws S Q Q' f q => h _ _ _ _ (fun r S1 h1 => ⟨h1.1, fun p hp => f _ _ (h1.2 p hp)⟩) q
theorem mo_seqI (h : MonE ta) : MonI (cSeqI ta) := fun ws S Q Q' f q => h _ _ _ _ (fun w S1 q => by
  cases w with
  | tup xs => exact f _ _ _ q
  | lst xs => exact f _ _ _ q
  | str xs => exact f _ _ _ q
  | ref a => exact ownL_imp (fun xs q => f _ _ _ q) q
  | _ => exact q) q
theorem mo_rng1 (h : MonA ua) : MonI (cRng1 ua) := fun ws S Q Q' f q => h _ _ _ _ (fun us S1 q => by
  split at q
  · exact ⟨q.1, f _ _ _ q.2⟩
  · exact q) q
theorem mo_lc (hi : MonI ti) (hg : MonG g) (ht : MonT c) (he : MonE te) : MonE (cLc ti g c te vs) := fun ws S Q Q' f h => hi _ _ _ _ (fun xs G S1 q => lcL_mono hg ht he (fun a b q => f _ _ q) xs [] S1 q) h
theorem mo_lc2 (hi : MonI ti) (hg : MonG g) (ht : MonT c) (hi1 : MonI ti1) (hg1 : MonG g1) (ht1 : MonT c') (he : MonE te) : MonE (cLc2 ti g c ti1 g1 c' te vs vs1) := fun ws S Q Q' f h => hi _ _ _ _ (fun xs G S1 q => lc2L_mono hg ht hi1 hg1 ht1 he (fun a b q => f _ _ q) xs [] S1 q) h
theorem mo_gname : MonG (cgName n) := fun w ws S Q Q' f h => f _ _ h
theorem mo_gnil : MonGs cgNil := fun w ws S Q Q' f h => ⟨h.1, f _ _ h.2⟩
theorem mo_gcons (h : MonG g) (hs : MonGs gs) : MonGs (cgCons g gs) := fun us ws S Q Q' f q => by
  cases us with
  | nil => exact q
  | cons w r => exact h _ _ _ _ _ (fun ws1 S1 q1 => hs _ _ _ _ _ f q1) q
theorem mo_gtup (hs : MonGs gs) : MonG (cgTup n gs) := fun w ws S Q Q' f q => by
  cases w with
  | tup us => exact ⟨q.1, hs _ _ _ _ _ f q.2⟩
  | _ => exact q
theorem mo_next : MonS cNext := fun D D' ws S l h => l.nx _ _ h
theorem mo_ret (h : MonE te) : MonS (cRet te) := fun D D' ws S l q => h _ _ _ _ l.rt q
theorem mo_drop (h : MonE te) : MonS (cDrop te) := fun D D' ws S l q => h _ _ _ _ (fun _ S1 q => l.nx _ _ q) q
theorem mo_ifS (hc : MonT c) (ht : MonS t) (hu : MonS u) : MonS (cIfS c t u) := fun D D' ws S l q => hc _ _ _ _ (fun b S1 h => by
  cases b with
  | true => exact ht _ _ _ _ l h
  | false => exact hu _ _ _ _ l h) q
theorem mo_for (hi : MonI ti) (hg : MonG g) (hb : MonS t) : MonS (cFor ti g t) := fun D D' ws S l q => hi _ _ _ _ (fun xs G S1 q => forL_mono hg hb l xs ws S1 q) q
theorem mo_aug (hr : Mon2 r) (he : MonE te) : MonS (cAug n te r) := fun D D' ws S l h => by
  unfold cAug at h ⊢
  split at h
  · exact he _ _ _ _ (fun y S1 q => hr _ _ _ _ _ (fun z S2 q2 => l.nx _ _ q2) q) h
  · exact h
theorem mo_setL (he : MonE te) (ho : MonE to) (hi : MonE ta) : MonS (cSetL to ta te) := fun D D' ws S l h => he _ _ _ _ (fun w S1 h1 => ho _ _ _ _ (fun x S2 h2 => hi _ _ _ _ (fun y S3 h3 => by
  split at h3
  · refine ownL_imp (fun xs q => ?_) h3
    split at q
    · exact l.nx _ _ q
    · exact q.elim
  · exact h3.elim) h2) h1) h
theorem mo_par (h : MonA ua) : MonS (cPar n m ua) := fun D D' ws S l q => h _ _ _ _ (fun us S1 q => by
  split at q
  · exact l.nx _ _ q
  · exact q) q
theorem mo_len : MonC cLen := fun us S Q Q' f h => by
  unfold cLen at h ⊢
  repeat' split at h
  all_goals first | exact h.elim | exact f _ _ h | exact ⟨h.1, f _ _ h.2⟩
theorem mo_abs : MonC cAbs := fun us S Q Q' f h => by
  unfold cAbs at h ⊢
  repeat' split at h
  all_goals first | exact h.elim | exact f _ _ h
theorem mo_int : MonC cInt := fun us S Q Q' f h => by
  unfold cInt at h ⊢
  split at h
  all_goals first | exact h.elim | exact f _ _ h
theorem mo_sum : MonC cSum := fun us S Q Q' f h => by
  unfold cSum at h ⊢
  repeat' split at h
  all_goals first | exact h.elim | exact f _ _ h
theorem mo_tuple : MonC cTupleOf := fun us S Q Q' f h => by
  unfold cTupleOf at h ⊢
  repeat' split at h
  all_goals first | exact h.elim | exact f _ _ h
theorem mo_repr : MonC cRepr := fun us S Q Q' f h => by
  unfold cRepr at h ⊢
  repeat' split at h
  all_goals first | exact h.elim | exact ⟨h.1, f _ _ h.2⟩
theorem mo_ckw (hr : MonCK rk) (ha : MonA ua) (hb : MonA ub) : MonE (cCKw rk ua ub) := fun ws S Q Q' f h => ha _ _ _ _ (fun us S1 h1 => hb _ _ _ _ (fun zs S2 h2 => hr _ _ _ _ _ f h2) h1) h
theorem mo_append : MonM cAppend := fun o us S Q Q' f h => by
  unfold cAppend at h ⊢
  split at h
  · exact ownL_imp (fun xs q => ⟨q.1, f _ _ q.2⟩) h
  · exact h.elim
theorem mo_extend : MonM cExtend := fun o us S Q Q' f h => by
  unfold cExtend at h ⊢
  split at h
  · refine ownL_imp (fun xs q => ?_) h
    split at q
    · exact ⟨q.1, f _ _ q.2⟩
    · exact q.elim
  · exact h.elim
theorem mo_popAt : MonM cPopAt := fun o us S Q Q' f h => by
  unfold cPopAt at h ⊢
  split at h
  · refine ownL_imp (fun xs q => ⟨q.1, ?_⟩) h
    have q2 := q.2
    split at q2
    · split at q2
      · exact f _ _ q2
      · exact q2.elim
    · exact q2.elim
  · exact h.elim
theorem mo_call (hs : MonSp sp) (ha : MonA ua) : MonE (cCall sp E ua) := fun ws S Q Q' f h => ha _ _ _ _ (fun us S1 q => hs _ _ _ _ _ _ f (fun _ _ z => z) q) h
end
end CL
set_option maxHeartbeats 2000000
/-! CL18: enumerate over a tuple or a list; in, not in -/
namespace CL
open PySem PySem.Spec PyProof.Rows L2
variable [LamT]
open Sem (wp)
theorem meets_enum1 {v : Value} {o : Obj} {H : Heap → Prop} (B : Begins v o H) :
    Meets (Builtin.«enumerate.__new__» ⟨[.type "enumerate", v], []⟩) (fun _ R s => H s.heap ∧
      R (.ok (.ret (.ref (s.heap.push o).objs.size))) { s with heap := (s.heap.push o).push { cls := .type "enumerate", data := .fields #[.none, .bool false, .ref s.heap.objs.size, rawInt 0, .none, .none] } }) :=
  .of_wp fun prog w A R s h => by
    obtain ⟨hp, gg, d, tk, os⟩ := s; obtain ⟨h1, h⟩ := h
    have hsub := sub_enumerate
    have q1 : ∀ {A' : Around} {E : Value → Shared → Prop} {Q : Value → Shared → Prop}, Q (.ref hp.objs.size) ⟨hp.push o, gg, d, tk, os⟩ → wpAny (model prog w) A' (pyIter v) Q E ⟨hp, gg, d, tk, os⟩ :=
      fun q => B.iter prog w _ _ ⟨hp, gg, d, tk, os⟩ _ h1 q
    wp_walk using q1
    refine wpAny_stack_any fun st => wpAny_pure ?_
    split
    · rename_i c _ _ _ _ _
      cases (c == Value.type "enumerate")
      · wp_walk using q1
        exact ⟨_, rfl, h⟩
      · wp_walk using q1
        exact ⟨_, rfl, h⟩
    · wp_walk using q1
      exact ⟨_, rfl, h⟩
section
variable {prog : Program} {w : World} {A : Around} {E : Value → Shared → Prop} {s : Shared}
theorem enum1_begins {v : Value} {o : Obj} {H : Heap → Prop} {Q : Value → Shared → Prop} (B : Begins v o H) (h1 : H s.heap)
    (h : ∀ h', IsEnum h' (s.heap.objs.size + 1) s.heap.objs.size 0 .none → h'.get? s.heap.objs.size = some o → h'.objs.size = s.heap.objs.size + 2 →
      (∀ b o, s.heap.get? b = some o → h'.get? b = some o) → Q (.ref (s.heap.objs.size + 1)) { s with heap := h' }) :
    wpAny (model prog w) A (call (.type "enumerate") [v]) Q E s := by
  refine callType_new F.called_enumerate (by decide) (F.typeCall_enumerate_1 _) (F.newCall_enumerate_1 _) (fun obj => F.args_object_init_2 obj _) F.entry_enumerate_new
    (meets_enum1 B) ⟨h1, ?_⟩
  have hz : (s.heap.push o).objs.size = s.heap.objs.size + 1 := Heap.size_push ..
  show _ ∧ _
  rw [hz]
  have he : IsEnum ((s.heap.push o).push { cls := .type "enumerate", data := .fields #[.none, .bool false, .ref s.heap.objs.size, rawInt 0, .none, .none] }) (s.heap.objs.size + 1) s.heap.objs.size 0 .none := by
    have := Heap.get?_push_size (s.heap.push o) (o := { cls := .type "enumerate", data := .fields #[.none, .bool false, .ref s.heap.objs.size, rawInt 0, .none, .none] }) rfl
    rw [hz] at this; exact this
  refine ⟨⟨_, he, rfl⟩, h _ he (Heap.get?_push_of_some _ (Heap.get?_push_size _ B.free)) (by rw [Heap.size_push, hz]) fun b o x => Heap.get?_push_of_some _ (Heap.get?_push_of_some _ x)⟩
end
/-- the tuple at a, each item in a new pair -/
def IteT (K : Fg) (a : Addr) : It :=
  ⟨fun i H => ∃ (xs : List V) (x : V), SqT K H a xs ∧ xs[i]? = some x, fun i H v H' => ∃ T x, v = .ref T ∧ H T = none ∧ H' = upd H T (.tup [.int (i : Nat), x]) ∧ ∀ xs, SqT K H a xs → xs[i]? = some x, fun i H => ∃ xs : List V, SqT K H a xs ∧ xs.length ≤ i⟩
theorem turn_enumT {P : Program} {w : World} {K : Fg} {elts : List Expr} {kk : Nat} {tpos : Pos} (a e it : Addr) :
    Turn P w K (.Tuple elts kk tpos) (IteT K a) [e, it] e (fun i h => (∃ old, IsEnum h e it ((i : Nat) : Int) old) ∧ h.IsTupleIter it a i ∧ e ≠ it ∧ a ≠ it ∧ a ≠ e) where
  mem := by simp
  obj := fun i h st b hb => by
    obtain ⟨⟨old, he⟩, ⟨o, ho, hc, hd⟩, _⟩ := st
    have e' : b = e ∨ b = it := by simpa using hb
    rcases e' with z | z
    · rw [z]; exact ⟨_, he, fun v q => nomatch q⟩
    · rw [z]; exact ⟨o, ho, fun v q => by rw [hd] at q; cases q⟩
  keep := fun i h h' st k => let ⟨⟨old, he⟩, hi, hne⟩ := st; ⟨⟨old, k e (by simp) _ he⟩, hi.at fun o q => k it (by simp) o q, hne⟩
  item := by
    intro X hP hw hK hc i pins s σ H E I hf st hg
    subst hP hw hK
    obtain ⟨⟨old, he⟩, hit, hne, ha1, ha2⟩ := st
    obtain ⟨xs, x, hq, hx⟩ := hg
    obtain ⟨its, rv, p, hz⟩ := I.tuple hq
    obtain ⟨u, hu, ru⟩ := rv.get hx
    have hel : e < s.heap.objs.size := Heap.lt_size he
    have hil : it < s.heap.objs.size := by obtain ⟨_, q, _⟩ := hit; exact Heap.lt_size q
    have D : Draws X.prog X.w X.A.in1 it [it, a] its.toArray.size (fun i v => its.toArray[i]? = some v) (fun i h => h.IsTupleIter it a i ∧ h.IsTuple a its.toArray) := Draws.tuple (show X.A.in1.handled = none from I.ok.hd hc) it a ha1 its.toArray
    have hlt : i < its.toArray.size := by
      rw [List.size_toArray]
      exact (List.getElem?_eq_some_iff.mp hu).1
    refine wpAny_pyNext_enum_itemD D he ⟨hit, p⟩ hlt hne (by simp; exact ⟨hne, fun z => ha2 z.symm⟩) fun v h' tk hv ho hit' hT hsz hk => ?_
    have ev : v = u := by
      rw [List.getElem?_toArray, hu] at hv
      exact (Option.some.inj hv).symm
    subst ev
    refine ⟨_, rfl, wpAny_letOwnedTupleGo_enum (s := { s with heap := h', toks := tk + 1 }) ho fun h'' he' sb => ?_⟩
    have hT2 : h''.get? s.heap.objs.size = some { cls := .type "tuple", data := .seq #[.int i tk, v] } := (sb.2 _ (Nat.ne_of_gt hel)).trans hT
    have new : ObjOk X.prog X.w (upd H s.heap.objs.size (.tup [.int (i : Nat), x])) h'' s.heap.objs.size (.tup [.int (i : Nat), x]) :=
      ⟨by show 2 ≤ sizeLine; decide, [.int i tk, v], .cons ⟨_, rfl⟩ (.cons ru .nil), ⟨_, hT2, rfl, _, rfl⟩⟩
    have I1 : Inv X pins σ (upd H s.heap.objs.size (.tup [.int (i : Nat), x])) { s with heap := h'', toks := tk + 1 } :=
      I.turnedNew (ch := [e, it]) (fun b ob hb q => (sb.2 b (fun z => hb (by simp [z]))).trans (hk b ob (fun z => hb (by simp [z])) (fun z => hb (by simp [z])) q)) hf (Nat.le_refl _) new
    refine ⟨.ref s.heap.objs.size, _, I1, rfl, ⟨_, x, rfl, I.hok.fresh (Nat.le_refl _), rfl, fun ys hy => by rw [I.tuple_inj hy hq]; exact hx⟩, ⟨⟨v, ?_⟩, hit'.1.at fun o q => (sb.2 it (Ne.symm hne)).trans q, hne, ha1, ha2⟩, fun b hb => ?_⟩
    · have e1 : ((i + 1 : Nat) : Int) = (i : Int) + 1 := by omega
      rw [e1]; exact he'
    · have hb' : b < s.heap.objs.size := by
        have e' : b = e ∨ b = it := by simpa using hb
        rcases e' with z | z
        · rw [z]; exact hel
        · rw [z]; exact hil
      rw [upd_ne (Nat.ne_of_lt hb')]
      exact (hf b hb).1
  done := by
    intro X hP hw hK hc i pins s σ H E I hf st hg
    subst hP hw hK
    obtain ⟨⟨old, he⟩, hit, hne, ha1, ha2⟩ := st
    obtain ⟨xs, hq, hx⟩ := hg
    obtain ⟨its, rv, p, hz⟩ := I.tuple hq
    obtain ⟨f0, f1, f2, f3, f4, f5⟩ := hf it (by simp)
    have hl := rv.length
    have D : Draws X.prog X.w X.A.in1 it [it, a] i (fun _ _ => True) (fun j h => (h.IsTupleIter it a j ∧ h.IsTuple a its.toArray) ∧ j = i) :=
      ⟨fun _ _ st => let ⟨o, ho, _⟩ := st.1.1; ⟨o, ho⟩, fun _ _ _ st hk => ⟨⟨st.1.1.at fun o e => hk it (by simp) o e, st.1.2.at fun o e => hk a (by simp) o e⟩, st.2⟩, fun j s Q E hj st hQ => absurd st.2 (Nat.ne_of_lt hj),
        fun s Q E st hE => wpAny_nextOf_tuple_end (show X.A.in1.handled = none from I.ok.hd hc) st.1.1 st.1.2 (by simp; omega) hE⟩
    exact wpAny_pyNext_enum_endD D he ⟨⟨hit, p⟩, rfl⟩ fun h' eb => ⟨rfl, I.turned (t' := s.toks) (fun b o hb q => eb b o hb q) f0 f1 f3 f4 f5⟩
  self := fun A i s Q E st h => let ⟨⟨_, he⟩, _⟩ := st; wpAny_pyIter_enum he h
/-- enumerate(x), x a list or a tuple: the pairs -/
def pairsFrom : Nat → List Cv → List Cv
  | _, [] => []
  | i, x :: r => .tup [.int (i : Nat), x] :: pairsFrom (i + 1) r
theorem pairsFrom_length : ∀ (i : Nat) (xs : List Cv), (pairsFrom i xs).length = xs.length
  | _, [] => rfl
  | i, x :: r => by rw [pairsFrom, List.length_cons, pairsFrom_length (i + 1) r, List.length_cons]
theorem pairsFrom_get : ∀ (i k : Nat) (xs : List Cv), (pairsFrom i xs)[k]? = (xs[k]?).map fun x => .tup [.int ((i + k : Nat) : Int), x]
  | _, _, [] => rfl
  | i, 0, x :: r => rfl
  | i, k + 1, x :: r => by
    rw [pairsFrom, List.getElem?_cons_succ, List.getElem?_cons_succ, pairsFrom_get (i + 1) k r]
    rw [show i + 1 + k = i + (k + 1) by omega]
def cEnumI (ta : CA) : CI := fun ws S Q => ta ws S fun us S1 => match us with
  | [.tup xs] => Q (pairsFrom 0 xs) (fun _ => True) S1
  | [.lst xs] => Q (pairsFrom 0 xs) (fun _ => True) S1
  | [.ref a] => ownL S1 a fun xs => Q (pairsFrom 0 xs) (fun S => S a = some (.lst xs)) S1
  | _ => False
section
variable {K : Fg} {Z Z' : List Addr} {S S' : Sto} {H H' : Hp}
theorem pair_ok (ok : StOk K Z S H) {T : Addr} (hT : H T = none) {i : Nat} {x : V} {w : Cv} (r : Rep K Z S H w x) : Fr S H S (upd H T (.tup [.int (i : Nat), x])) ∧ StOk K Z S (upd H T (.tup [.int (i : Nat), x])) ∧ Rep K Z S (upd H T (.tup [.int (i : Nat), x])) (.tup [.int (i : Nat), w]) (.ref T) :=
  ⟨Fr.new hT, ok.new hT, .tup (.inl upd_same) (ok.free hT) (.cons (.int _) (.cons (r.fr (Fr.new hT)) .nil))⟩
theorem walk_enumL {a : Addr} {vs : List V} {ws : List Cv} (sq : ∀ S1 H1, FrZ Z S H S1 H1 → SqL K H1 a vs) (ok : StOk K Z S H) (r : Reps K Z S H ws vs) : WalkOk K Z (Ite K a) (pairsFrom 0 ws) (fun _ => True) S H := by
  intro Z' S1 H1 _ hz f ok1 _ i
  have sq := sq S1 H1 f
  have r1 := r.frz ok f hz
  rw [pairsFrom_length]
  refine ⟨fun hi => ?_, fun hi => ⟨vs, sq, by rw [← r.length]; exact hi⟩⟩
  obtain ⟨v, hv, _⟩ := r1.get (List.getElem?_eq_getElem hi)
  refine ⟨⟨vs, v, sq, hv⟩, fun x H' hy => ?_⟩
  obtain ⟨T, y, rfl, hT, rfl, hx⟩ := hy
  obtain ⟨w, hw, rw'⟩ := r1.getV (hx vs sq)
  obtain ⟨h1, h2, h3⟩ := pair_ok ok1 hT (i := i) rw'
  exact ⟨_, by rw [pairsFrom_get, hw, Nat.zero_add]; rfl, h1, h2, h3⟩
theorem walk_enumO {a : Addr} {ws : List Cv} : WalkOk K Z (Ite K a) (pairsFrom 0 ws) (fun S => S a = some (.lst ws)) S H := by
  intro Z' S1 H1 _ hz f ok1 g i
  obtain ⟨vs, e, r1⟩ := ok1.ob a _ g
  have sq : SqL K H1 a vs := .inl (.inl e)
  rw [pairsFrom_length]
  refine ⟨fun hi => ?_, fun hi => ⟨vs, sq, by rw [← r1.length]; exact hi⟩⟩
  obtain ⟨v, hv, _⟩ := r1.get (List.getElem?_eq_getElem hi)
  refine ⟨⟨vs, v, sq, hv⟩, fun x H' hy => ?_⟩
  obtain ⟨T, y, rfl, hT, rfl, hx⟩ := hy
  obtain ⟨w, hw, rw'⟩ := r1.getV (hx vs sq)
  obtain ⟨h1, h2, h3⟩ := pair_ok ok1 hT (i := i) rw'
  exact ⟨_, by rw [pairsFrom_get, hw, Nat.zero_add]; rfl, h1, h2, h3⟩
theorem walk_enumT {a : Addr} {vs : List V} {ws : List Cv} (sq : ∀ S1 H1, FrZ Z S H S1 H1 → SqT K H1 a vs) (ok : StOk K Z S H) (r : Reps K Z S H ws vs) : WalkOk K Z (IteT K a) (pairsFrom 0 ws) (fun _ => True) S H := by
  intro Z' S1 H1 _ hz f ok1 _ i
  have sq := sq S1 H1 f
  have r1 := r.frz ok f hz
  rw [pairsFrom_length]
  refine ⟨fun hi => ?_, fun hi => ⟨vs, sq, by rw [← r.length]; exact hi⟩⟩
  obtain ⟨v, hv, _⟩ := r1.get (List.getElem?_eq_getElem hi)
  refine ⟨⟨vs, v, sq, hv⟩, fun x H' hy => ?_⟩
  obtain ⟨T, y, rfl, hT, rfl, hx⟩ := hy
  obtain ⟨w, hw, rw'⟩ := r1.getV (hx vs sq)
  obtain ⟨h1, h2, h3⟩ := pair_ok ok1 hT (i := i) rw'
  exact ⟨_, by rw [pairsFrom_get, hw, Nat.zero_add]; rfl, h1, h2, h3⟩
end
section
variable {X : Cx} {e : Expr} {p pos tpos : Pos} {elts : List Expr} {kk : Nat}
theorem pi_enum2 {ta : TA} (hg : Gl X "enumerate") (hm : X.mg "enumerate" = none) (ha : PA X [e] ta) (hs : starEach [e] X.env = [(false, eval e X.env)] := by rfl) :
    PI X (.Tuple elts kk tpos) (.Call (.Name "enumerate" p) [e] [] pos) (fun σ H R => ta σ H fun vs H1 => (∃ a xs, vs = [.ref a] ∧ SqL X.K H1 a xs ∧ R (Ite X.K a) H1) ∨ ∃ a xs, vs = [.ref a] ∧ SqT X.K H1 a xs ∧ R (IteT X.K a) H1) := by
  refine ⟨fun pins s σ H R I h => ?_⟩
  refine Call_ (ld_blt I hg hm boot_enumerate (PyProof.Rows.callWith_type1 (thn (ha.run pos pins s σ H _ I h) fun us s1 ⟨vs, H1, I1, r1, q1⟩ => ?_) hs rfl))
  rcases q1 with ⟨a, xs, ex, hq, q⟩ | ⟨a, xs, ex, hq, q⟩
  · subst ex
    cases r1 with
    | cons r rr =>
      cases rr
      cases r
      obtain ⟨its, rv, p', hz⟩ := I1.list hq
      refine call_enumerate_list p'.isList fun h' he hit hsz hk => wpAny_pyIter_enum he ?_
      have I2 : Inv X pins σ H1 { s1 with heap := h' } := I1.kept (t' := s1.toks) hk
      refine ⟨s1.heap.objs.size + 1, [s1.heap.objs.size + 1, s1.heap.objs.size], _, _, H1, rfl, I2, turn_enum a (s1.heap.objs.size + 1) s1.heap.objs.size, ⟨⟨.none, he⟩, hit, Nat.succ_ne_self _⟩, fun b hb => ?_, q⟩
      have e' : b = s1.heap.objs.size + 1 ∨ b = s1.heap.objs.size := by simpa using hb
      have hle : s1.heap.objs.size ≤ b := by
        rcases e' with z | z
        · rw [z]; exact Nat.le_add_right _ _
        · rw [z]; exact Nat.le_refl _
      exact I1.fpOk hle (I1.hok.fresh hle)
  · subst ex
    cases r1 with
    | cons r rr =>
      cases rr
      cases r
      obtain ⟨its, rv, p', hz⟩ := I1.tuple hq
      have hal : a < s1.heap.objs.size := by obtain ⟨_, q, _⟩ := id p'; exact Heap.lt_size q
      refine enum1_begins (begins_tuple a its.toArray) p' fun h' he hit hsz hk => wpAny_pyIter_enum he ?_
      have I2 : Inv X pins σ H1 { s1 with heap := h' } := I1.kept (t' := s1.toks) hk
      refine ⟨s1.heap.objs.size + 1, [s1.heap.objs.size + 1, s1.heap.objs.size], _, _, H1, rfl, I2, turn_enumT a (s1.heap.objs.size + 1) s1.heap.objs.size, ⟨⟨.none, he⟩, ⟨_, hit, rfl, rfl⟩, Nat.succ_ne_self _, Nat.ne_of_lt hal, Nat.ne_of_lt (Nat.lt_succ_of_lt hal)⟩, fun b hb => ?_, q⟩
      have e' : b = s1.heap.objs.size + 1 ∨ b = s1.heap.objs.size := by simpa using hb
      have hle : s1.heap.objs.size ≤ b := by
        rcases e' with z | z
        · rw [z]; exact Nat.le_add_right _ _
        · rw [z]; exact Nat.le_refl _
      exact I1.fpOk hle (I1.hok.fresh hle)
theorem mo_enumI {ta : CA} (h : MonA ta) : MonI (cEnumI ta) := fun ws S Q Q' f q => h _ _ _ _ (fun us S1 q => by
  split at q
  · exact f _ _ _ q
  · exact f _ _ _ q
  · exact ownL_imp (fun xs q => f _ _ _ q) q
  · exact q) q
theorem si_enum {ta : CA} (hg : Gl X "enumerate") (hm : X.mg "enumerate" = none) (ha : SA X [e] ta) (hs : starEach [e] X.env = [(false, eval e X.env)] := by rfl) : SI X (.Tuple elts kk tpos) (.Call (.Name "enumerate" p) [e] [] pos) (cEnumI ta) := by
  refine ⟨mo_enumI ha.mono, (pi_enum2 hg hm ha.ok hs).imp fun σ H R h => ?_⟩
  obtain ⟨Z, S, ws, ok, re, h⟩ := h
  refine liftA_of ha.mono ok re h fun us S1 vs H1 f1 ok1 r1 q1 => ?_
  split at q1
  · rename_i xs
    cases r1 with
    | cons r1 rr =>
      cases rr
      cases r1 with
      | tup hr n rr => exact .inr ⟨_, _, rfl, .inl hr.rd, q1 _ H1 f1 ok1 (walk_enumT (fun S2 H2 f => .inl (Rd.frz ok1 f rfl hr.rd n).1) ok1 rr)⟩
      | tupK hr rr => exact .inr ⟨_, _, rfl, hr.2 H1, q1 _ H1 f1 ok1 (walk_enumT (fun S2 H2 f => hr.2 H2) ok1 rr)⟩
  · rename_i xs
    cases r1 with
    | cons r1 rr =>
      cases rr
      cases r1 with
      | lst hh n z rr => exact .inl ⟨_, _, rfl, .inl (.inl hh), q1 _ H1 f1 ok1 (walk_enumL (fun S2 H2 f => .inl (.inl (f.keep _ _ z hh n).1)) ok1 rr)⟩
  · rename_i a
    cases r1 with
    | cons r1 rr =>
      cases rr
      cases r1
      obtain ⟨xs, e, q1⟩ := ownL_of q1
      obtain ⟨vs, hh, rr⟩ := ok1.ob _ _ e
      exact .inl ⟨_, _, rfl, .inl (.inl hh), q1 _ H1 f1 ok1 walk_enumO⟩
  · exact q1.elim
end
end CL
namespace CL
open PySem PySem.Spec PyProof.Rows L2
variable [LamT]
/-! ### in, not in: flat values -/
def flatC : Cv → Bool
  | .non | .bl _ | .int _ | .str _ => true
  | _ => false
theorem rep_flat {K : Fg} {Z : List Addr} {S : Sto} {H : Hp} {w : Cv} {v : V} (r : Rep K Z S H w v) (f : flatC w = true) : flatV v = true := by
  cases r <;> first | rfl | (simp [flatC] at f)
theorem reps_flat {K : Fg} {Z : List Addr} {S : Sto} {H : Hp} : ∀ {ws : List Cv} {vs : List V}, Reps K Z S H ws vs → ws.all flatC = true → vs.all flatV = true
  | _, _, .nil, _ => rfl
  | _, _, .cons a r, f => by
    rw [List.all_cons, Bool.and_eq_true] at f ⊢
    exact ⟨rep_flat a f.1, reps_flat r f.2⟩
theorem rep_eqV {K : Fg} {Z : List Addr} {S : Sto} {H : Hp} {w u : Cv} {v x : V} (r : Rep K Z S H w v) (q : Rep K Z S H u x) (f : flatC w = true) (g : flatC u = true) : eqV v x = ceq w u := by
  cases r <;> first | (simp [flatC] at f; done) | (cases q <;> first | (simp [flatC] at g; done) | rfl)
theorem reps_inV {K : Fg} {Z : List Addr} {S : Sto} {H : Hp} {u : Cv} {x : V} (q : Rep K Z S H u x) (g : flatC u = true) : ∀ {ws : List Cv} {vs : List V}, Reps K Z S H ws vs → ws.all flatC = true → inV x vs = ws.any fun y => ceq y u
  | _, _, .nil, _ => rfl
  | _, _, .cons a r, f => by
    rw [List.all_cons, Bool.and_eq_true] at f
    have := reps_inV q g r f.2
    unfold inV at this ⊢
    rw [List.any_cons, List.any_cons, this, rep_eqV a q f.1 g]
def cInB (ng : Bool) : C2 := fun a b S Q => match deref b S with
  | some b => (match seqOf b with
    | some xs => (flatC a = true ∧ xs.all flatC = true) ∧ Q (.bl (if ng = true then !(xs.any fun y => ceq y a) else xs.any fun y => ceq y a)) S
    | none => False)
  | none => False
abbrev cIn : C2 := cInB false
abbrev cNotIn : C2 := cInB true
theorem cInB_mono {ng : Bool} : Mon2 (cInB ng) := fun a b S Q Q' f h => by
  unfold cInB at h ⊢
  split at h
  · split at h
    · exact ⟨h.1, f _ _ h.2⟩
    · exact h
  · exact h
section
variable {X : Cx}
theorem in_ok {f : Value → Value → Sem Value} {ng : Bool} (h1 : OpR X f (rIn X.K ng)) : S2 X f (cInB ng) := by
  refine ⟨fun a b S Q Q' f h => ?_, fun pins s σ H x y v u Q I rx ry q => ?_⟩
  · unfold cInB at h ⊢
    split at h
    · split at h
      · exact ⟨h.1, f _ _ h.2⟩
      · exact h
    · exact h
  · obtain ⟨Z, S, a, b, ok, ra, rb, q⟩ := q
    unfold cInB at q
    split at q
    · rename_i b' eb
      split at q
      · rename_i xs ex
        obtain ⟨p, vs, rfl, hs, rr⟩ := (deref_ok ok rb eb).seq ex
        refine h1 pins s σ H _ _ v u Q I rx ry ⟨p, vs, rfl, hs, rep_flat ra q.1.1, reps_flat rr q.1.2, ?_⟩
        rw [reps_inV ra q.1.1 rr q.1.2]
        exact q.2 _ H (Fr.refl S H) ok (.bl _)
      · exact q.elim
    · exact q.elim
theorem o_in : S2 X (compareOp .In) cIn := in_ok op_in_seq
theorem o_notIn : S2 X (compareOp .NotIn) cNotIn := in_ok op_notIn_seq
end
section
variable {S : Sto} {a : Cv} {xs : List Cv} {ng : Bool} {Q : Cv → Sto → Prop} {ws : CL.Env} {ua : CA}
theorem mo_notV {te : CE} (h : MonE te) : MonE (cNotV te) := fun ws S Q Q' f q => h _ _ _ _ (fun w S1 h1 => by
  cases w with
  | bl b => exact f _ _ h1
  | _ => exact h1) q
end
end CL
set_option maxHeartbeats 1000000
/-! CL19: slices -/
namespace CL
open PySem PySem.Spec PyProof.Rows L2
variable [LamT]
abbrev CO := CL.Env → Sto → (Option Int → Sto → Prop) → Prop
def MonO (t : CO) : Prop := ∀ ws S (Q Q' : Option Int → Sto → Prop), (∀ o S', Q o S' → Q' o S') → t ws S Q → t ws S Q'
def liftO (K : Fg) (t : CO) : TO := fun σ H Q => ∃ Z S ws, StOk K Z S H ∧ RepSt K Z S H σ ws ∧ t ws S fun o S' => ∀ H', Fr S H S' H' → StOk K Z S' H' → Q o H'
structure SO (X : Cx) (e : Option Expr) (t : CO) : Prop where
  mono : MonO t
  ok : PO X e (liftO X.K t)
theorem _root_.L2.PO.imp {X : Cx} {e : Option Expr} {t t' : TO} (h : PO X e t) (f : ∀ σ H Q, t' σ H Q → t σ H Q) : PO X e t' := ⟨fun pins s σ H Q I q => h.run pins s σ H Q I (f σ H Q q)⟩
def cNoPart : CO := fun _ S Q => Q none S
def cPart (t : CE) : CO := fun ws S Q => t ws S fun w S1 => match w with | .int i => Q (some i) S1 | _ => False
theorem mo_noPart : MonO cNoPart := fun _ _ _ _ f h => f _ _ h
theorem mo_part {t : CE} (h : MonE t) : MonO (cPart t) := fun ws S Q Q' f q => h _ _ _ _ (fun w S1 q1 => by
  cases w with
  | int i => exact f _ _ q1
  | _ => exact q1) q
section
variable {X : Cx} {e : Expr} {te : CE} {lo hi : Option Expr} {tl th : CO} {pos p2 : Pos}
theorem so_none : SO X none cNoPart := ⟨mo_noPart, po_none.imp fun σ H Q h => by
  obtain ⟨Z, S, ws, ok, re, h⟩ := h
  exact h H (Fr.refl S H) ok⟩
theorem so_some (he : SE X e te) : SO X (some e) (cPart te) := ⟨mo_part he.mono, (po_some he.ok).imp fun σ H Q h => by
  obtain ⟨Z, S, ws, ok, re, h⟩ := h
  refine liftE_of he.mono ok re h fun w S1 v H1 f1 ok1 r1 q1 => ?_
  cases w with
  | int i => cases r1; exact ⟨i, rfl, q1 H1 f1 ok1⟩
  | _ => exact q1.elim⟩
/-- the items of xs[lo:hi] -/
def cutC (xs : List Cv) (lo hi : Option Int) : List Cv := (xs.drop (HT.sIx xs.length 0 lo)).take (HT.sIx xs.length xs.length hi - HT.sIx xs.length 0 lo)
theorem reps_cut {K : Fg} {Z : List Addr} {S : Sto} {H : Hp} {ws : List Cv} {vs : List V} (r : Reps K Z S H ws vs) (lo hi : Option Int) : Reps K Z S H (cutC ws lo hi) (cutV vs lo hi) := by
  unfold cutC cutV
  rw [r.length]
  exact (r.drop _).take _
abbrev CSl := Cv → Option Int → Option Int → Sto → (Cv → Sto → Prop) → Prop
def cCut : CSl := fun a lo hi S Q => match a with
  | .str z => z.length ≤ sizeLine ∧ Q (.str (cutS z lo hi)) S
  | .tup xs => Q (.tup (cutC xs lo hi)) S
  | .lst xs => Q (.lst (cutC xs lo hi)) S
  | .ref p => ownL S p fun xs => Q (.lst (cutC xs lo hi)) S
  | _ => False
def MonSl (r : CSl) : Prop := ∀ a lo hi S (Q Q' : Cv → Sto → Prop), (∀ w S', Q w S' → Q' w S') → r a lo hi S Q → r a lo hi S Q'
theorem cCut_mono : MonSl cCut := fun a lo hi S Q Q' f h => by
  unfold cCut at h ⊢
  split at h
  · exact ⟨h.1, f _ _ h.2⟩
  · exact f _ _ h
  · exact f _ _ h
  · exact ownL_imp (fun xs q => f _ _ q) h
  · exact h
def cSl (r : CSl) (te : CE) (tl th : CO) : CE := fun ws S Q => te ws S fun x S1 => tl ws S1 fun l S2 => th ws S2 fun u S3 => r x l u S3 Q
theorem mo_sl {r : CSl} (hr : MonSl r) (he : MonE te) (hl : MonO tl) (hu : MonO th) : MonE (cSl r te tl th) := fun ws S Q Q' f h => he _ _ _ _ (fun x S1 q1 => hl _ _ _ _ (fun l S2 q2 => hu _ _ _ _ (fun u S3 q3 => hr _ _ _ _ _ _ f q3) q2) q1) h
theorem liftO_of {K : Fg} {t : CO} (m : MonO t) {Z : List Addr} {S : Sto} {H : Hp} {σ : L2.St} {ws : CL.Env} {Q : Option Int → Hp → Prop} {R : Option Int → Sto → Prop} (ok : StOk K Z S H) (re : RepSt K Z S H σ ws) (h : t ws S R)
    (q : ∀ o S' H', Fr S H S' H' → StOk K Z S' H' → R o S' → Q o H') : liftO K t σ H Q := ⟨Z, S, ws, ok, re, m _ _ _ _ (fun o S' r H' f ok' => q o S' H' f ok' r) h⟩
theorem cut_whole {xs : List Cv} {lo hi : Option Int} (h : HT.sIx xs.length 0 lo = 0 ∧ HT.sIx xs.length xs.length hi = xs.length) : cutC xs lo hi = xs := by
  unfold cutC
  rw [h.1, h.2]; simp
theorem cCut_ok : SlR X (fun x lo hi H Q => ∃ Z S a, StOk X.K Z S H ∧ Rep X.K Z S H a x ∧ cCut a lo hi S fun w S' => ∀ v H', Fr S H S' H' → StOk X.K Z S' H' → Rep X.K Z S' H' w v → Q v H') := by
  intro pins s σ H x v vl vu lo hi sl Q I rx hs pl pu h
  obtain ⟨Z, S, a, ok, ra, q⟩ := h
  unfold cCut at q
  have tup : ∀ {p : Addr} {vs : List V} {xs : List Cv}, x = .ref p → SqT X.K H p vs → Rep X.K Z S H (.tup xs) (.ref p) → Reps X.K Z S H xs vs → (∀ v H', Fr S H S H' → StOk X.K Z S H' → Rep X.K Z S H' (.tup (cutC xs lo hi)) v → Q v H') →
      ∃ T id, typeLookup (.type T) "__getitem__" = pure (some (.builtin id)) ∧ s.TypeIs v T ∧ wpAny (model X.prog X.w) X.A (getItem v (.ref sl)) (EP X pins σ Q) X.xe s := by
    rintro p vs xs rfl hT rT rr q
    refine sl_tupA pins s σ H _ v vl vu lo hi sl Q I rx hs pl pu ⟨p, vs, rfl, hT, fun hw => ?_, fun hw p' hp => ?_⟩
    · rw [← rr.length] at hw
      refine q _ H (Fr.refl S H) ok ?_
      rw [cut_whole hw]; exact rT
    · exact q _ _ (Fr.new hp) (ok.new hp) (.tup (.inl upd_same) (ok.free hp) ((reps_cut rr lo hi).fr (Fr.new hp)))
  have lst : ∀ {p : Addr} {vs : List V} {xs : List Cv}, x = .ref p → SqL X.K H p vs → Reps X.K Z S H xs vs → (∀ v H', Fr S H S H' → StOk X.K Z S H' → Rep X.K Z S H' (.lst (cutC xs lo hi)) v → Q v H') →
      ∃ T id, typeLookup (.type T) "__getitem__" = pure (some (.builtin id)) ∧ s.TypeIs v T ∧ wpAny (model X.prog X.w) X.A (getItem v (.ref sl)) (EP X pins σ Q) X.xe s := by
    rintro p vs xs rfl hL rr q
    exact sl_list pins s σ H _ v vl vu lo hi sl Q I rx hs pl pu ⟨p, vs, rfl, hL, fun p' hp => q _ _ (Fr.new hp) (ok.new hp) (.lst upd_same (ok.free hp) (ok.notZ hp) ((reps_cut rr lo hi).fr (Fr.new hp)))⟩
  split at q
  · cases ra
    exact sl_str pins s σ H _ v vl vu lo hi sl Q I rx hs pl pu ⟨_, rfl, q.1, q.2 _ H (Fr.refl S H) ok (.str _)⟩
  · cases ra with
    | tup hr n rr => exact tup rfl (.inl hr.rd) (.tup hr n rr) rr (fun v H' => q v H')
    | tupK hr rr => exact tup rfl (hr.2 H) (.tupK hr rr) rr (fun v H' => q v H')
  · cases ra with
    | lst hh n z rr => exact lst rfl (.inl (.inl hh)) rr (fun v H' => q v H')
  · cases ra
    obtain ⟨xs, e, q⟩ := ownL_of q
    obtain ⟨vs, hh, rr⟩ := ok.ob _ _ e
    exact lst rfl (.inl (.inl hh)) rr (fun v H' => q v H')
  · exact q.elim
/-- e[lo:hi] -/
theorem s_slice (he : SE X e te) (hl : SO X lo tl) (hu : SO X hi th) : SE X (.Subscript e (.Slice lo hi none p2) pos) (cSl cCut te tl th) :=
  ⟨mo_sl cCut_mono he.mono hl.mono hu.mono, (pe_slice cCut_ok he.ok hl.ok hu.ok).imp fun σ H Q h => by
    obtain ⟨Z, S, ws, ok, re, h⟩ := h
    refine liftE_of he.mono ok re h fun x S1 v1 H1 f1 ok1 r1 q1 => ?_
    refine liftO_of hl.mono ok1 (re.fr f1) q1 fun l S2 H2 f2 ok2 q2 => ?_
    refine liftO_of hu.mono ok2 ((re.fr f1).fr f2) q2 fun u S3 H3 f3 ok3 q3 => ?_
    exact ⟨Z, S3, x, ok3, (r1.fr f2).fr f3, cCut_mono _ _ _ _ _ _ (fun w S' g v H' a b c => g v H' (((f1.trans f2).trans f3).trans a) b c) q3⟩⟩
end
section
variable {S : Sto} {ws : CL.Env} {te : CE} {tl th : CO} {xs : List Cv} {lo hi : Option Int} {i : Int} {Q : Cv → Sto → Prop} {p : Addr}
end
end CL
/-! CL20: a list times an int; list(x) -/
namespace CL
open PySem PySem.Spec PyProof.Rows L2
variable [LamT]
section
variable {X : Cx}
/-- list(x), a new list that nobody writes -/
def cListOf : CC := fun us S Q => match us with
  | [w] => (match deref w S with | some w => (match seqOf w with | some xs => Q (.lst xs) S | none => False) | none => False)
  | _ => False
theorem mo_listOf : MonC cListOf := fun us S Q Q' f h => by
  unfold cListOf at h ⊢
  repeat' split at h
  all_goals first | exact h.elim | exact f _ _ h
theorem b_list : SC X (.type "list") cListOf := sc_of mo_listOf fun pins s σ H xs us Q Z S ws I rv ok re q => by
  unfold cListOf at q
  split at q
  · cases re with
    | cons a b =>
      cases b
      split at q
      · rename_i w ew
        split at q
        · rename_i ys ey
          obtain ⟨p, vs, rfl, hs, rr⟩ := (deref_ok ok a ew).seq ey
          exact call_list_of pins s σ H _ us Q I rv ⟨p, vs, rfl, hs, fun l hl => q _ _ (Fr.new hl) (ok.new hl) (.lst upd_same (ok.free hl) (ok.notZ hl) (rr.fr (Fr.new hl)))⟩
        · exact q.elim
      · exact q.elim
  · exact q.elim
end
end CL
namespace CL
open PySem PySem.Spec PyProof.Rows L2
variable [LamT]
section
variable {X : Cx}
/-- a list (not a tuple) times an int -/
def cRepL : C2 := fun a b S Q => match b with
  | .int k => (match deref a S with
    | some (.lst xs) => (-(2 ^ 63) ≤ k ∧ k < 2 ^ 63 ∧ xs.length * k.toNat ≤ sizeLine) ∧ Q (.lst (List.replicate k.toNat xs).flatten) S
    | _ => False)
  | _ => False
theorem cRepL_mono : Mon2 cRepL := fun a b S Q Q' f h => by
  unfold cRepL at h ⊢
  split at h
  · split at h
    · exact ⟨h.1, f _ _ h.2⟩
    · exact h
  · exact h
theorem reps_rep {K : Fg} {Z : List Addr} {S : Sto} {H : Hp} {ws : List Cv} {vs : List V} (r : Reps K Z S H ws vs) : ∀ n : Nat, Reps K Z S H (List.replicate n ws).flatten (List.replicate n vs).flatten
  | 0 => .nil
  | n + 1 => by rw [List.replicate_succ, List.replicate_succ, List.flatten_cons, List.flatten_cons]; exact r.app (reps_rep r n)
theorem o_repL : S2 X (binaryOp .Mult) cRepL := ⟨cRepL_mono, fun pins s σ H x y v u Q I rx ry q => by
  obtain ⟨Z, S, a, b, ok, ra, rb, q⟩ := q
  unfold cRepL at q
  split at q
  · rename_i k
    cases rb
    split at q
    · rename_i xs ea
      obtain ⟨p, vs, rfl, hh, rr⟩ := RepD.lstH (deref_ok ok ra ea)
      refine op_rep pins s σ H _ _ v u Q I rx ry ⟨p, k, vs, rfl, rfl, hh, q.1.1, q.1.2.1, by rw [← rr.length]; exact q.1.2.2, fun p' hp => ?_⟩
      exact q.2 _ _ (Fr.new hp) (ok.new hp) (.lst upd_same (ok.free hp) (ok.notZ hp) ((reps_rep rr _).fr (Fr.new hp)))
    · exact q.elim
  · exact q.elim⟩
end
end CL
/-! ML1: readings that compute: from slots to an answer -/
namespace CL
open PySem PySem.Spec PyProof.Rows L2
variable [LamT]
/-- a slot: nothing, a value, an object of the def's own -/
inductive Sl where
  | no | pl (v : Cv) | ow (v : Cv)
abbrev MEnv := List Sl
abbrev ME := MEnv → Option Cv
abbrev MT := MEnv → Option Bool
abbrev MA := MEnv → Option (List Cv)
abbrev MG := Cv → MEnv → Option MEnv
abbrev MGs := List Cv → MEnv → Option MEnv
abbrev MO := MEnv → Option (Option Int)
inductive Rz where
  | nx (gs : MEnv) | rt (v : Cv) | bk (gs : MEnv) | ct (gs : MEnv) | ex (x : Ex)
abbrev MS := MEnv → Option Rz
def obv : Ob → Option Cv
  | .lst xs => some (.lst xs)
  | .dK xs => some (.dK xs)
  | .dT xs => some (.dT xs)
  | .ins q fs => some (.ins q fs)
  | .dL _ _ _ => none
structure View (S0 S : Sto) (gs : MEnv) (ws : CL.Env) : Prop where
  len : ws.length = gs.length
  pl : ∀ (i : Nat) (v : Cv), gs[i]? = some (.pl v) → ws[i]? = some (some v)
  ow : ∀ (i : Nat) (v : Cv), gs[i]? = some (.ow v) → ∃ p o, ws[i]? = some (some (.ref p)) ∧ S p = some o ∧ obv o = some v ∧ S0 p = none
  dj : ∀ (i j : Nat) (u v : Cv) (p : Addr), i ≠ j → gs[i]? = some (.ow u) → gs[j]? = some (.ow v) → ws[i]? = some (some (.ref p)) → ws[j]? = some (some (.ref p)) → False
  base : ∀ a o, S0 a = some o → S a = some o
theorem View.upd {S0 S : Sto} {gs gs' : MEnv} {ws ws' : CL.Env} (h : View S0 S gs ws) (hl : ws'.length = gs'.length)
    (hh : ∀ (i : Nat) (s : Sl), gs'[i]? = some s → s = .no ∨ (∃ v, s = .pl v ∧ ws'[i]? = some (some v)) ∨ (gs[i]? = some s ∧ ws'[i]? = ws[i]?)) : View S0 S gs' ws' where
  len := hl
  pl := fun i v e => by
    rcases hh i _ e with z | ⟨u, z, y⟩ | ⟨z, y⟩
    · cases z
    · cases z; exact y
    · rw [y]; exact h.pl i v z
  ow := fun i v e => by
    rcases hh i _ e with z | ⟨u, z, y⟩ | ⟨z, y⟩
    · cases z
    · cases z
    · rw [y]; exact h.ow i v z
  dj := fun i j u v p n e1 e2 a b => by
    rcases hh i _ e1 with z | ⟨u, z, y⟩ | ⟨z, y⟩
    · cases z
    · cases z
    · rcases hh j _ e2 with z' | ⟨u', z', y'⟩ | ⟨z', y'⟩
      · cases z'
      · cases z'
      · exact h.dj i j u v p n z z' (by rw [← y]; exact a) (by rw [← y']; exact b)
  base := h.base
theorem View.set {S0 S : Sto} {gs : MEnv} {ws : CL.Env} (h : View S0 S gs ws) (i : Nat) (v : Cv) : View S0 S (gs.set i (.pl v)) (ws.set i (some v)) := by
  refine h.upd (by simp [h.len]) fun j s e => ?_
  by_cases q : i = j
  · subst q
    have hi : i < gs.length := by
      have := (List.getElem?_eq_some_iff.mp e).1
      simpa using this
    rw [List.getElem?_set_self hi] at e
    cases e
    exact .inr (.inl ⟨v, rfl, by rw [List.getElem?_set_self (by rw [h.len]; exact hi)]⟩)
  · rw [List.getElem?_set_ne q] at e
    exact .inr (.inr ⟨e, List.getElem?_set_ne q⟩)
theorem View.no {S0 S : Sto} {gs : MEnv} {ws : CL.Env} (h : View S0 S gs ws) (i : Nat) (o : Option Cv) : View S0 S (gs.set i .no) (ws.set i o) := by
  refine h.upd (by simp [h.len]) fun j s e => ?_
  by_cases q : i = j
  · subst q
    have hi : i < gs.length := by
      have := (List.getElem?_eq_some_iff.mp e).1
      simpa using this
    rw [List.getElem?_set_self hi] at e
    cases e
    exact .inl rfl
  · rw [List.getElem?_set_ne q] at e
    exact .inr (.inr ⟨e, List.getElem?_set_ne q⟩)
theorem View.no1 {S0 S : Sto} {gs : MEnv} {ws : CL.Env} (h : View S0 S gs ws) (i : Nat) : View S0 S (gs.set i .no) ws := by
  refine h.upd (by simp [h.len]) fun j s e => ?_
  by_cases q : i = j
  · subst q
    have hi : i < gs.length := by
      have := (List.getElem?_eq_some_iff.mp e).1
      simpa using this
    rw [List.getElem?_set_self hi] at e
    cases e
    exact .inl rfl
  · rw [List.getElem?_set_ne q] at e
    exact .inr (.inr ⟨e, rfl⟩)
def mwipe (gs : MEnv) : List Nat → MEnv
  | [] => gs
  | v :: vs => (mwipe gs vs).set v .no
theorem View.wipe {S0 S : Sto} {gs : MEnv} {ws : CL.Env} (h : View S0 S gs ws) : ∀ vs, View S0 S (mwipe gs vs) (cwipe ws vs)
  | [] => h
  | v :: vs => (h.wipe vs).no v none
theorem View.wipe1 {S0 S : Sto} {gs : MEnv} {ws : CL.Env} (h : View S0 S gs ws) : ∀ vs, View S0 S (mwipe gs vs) ws
  | [] => h
  | v :: vs => (h.wipe1 vs).no1 v
/-! ### expressions -/
structure Ev (te : CE) (φ : ME) : Prop where
  mono : MonE te
  ok : ∀ {S0 S gs ws Q v}, View S0 S gs ws → φ gs = some v → Q v S → te ws S Q
structure EvT (te : CT) (φ : MT) : Prop where
  mono : MonT te
  ok : ∀ {S0 S gs ws Q v}, View S0 S gs ws → φ gs = some v → Q v S → te ws S Q
structure EvA (te : CA) (φ : MA) : Prop where
  mono : MonA te
  ok : ∀ {S0 S gs ws Q v}, View S0 S gs ws → φ gs = some v → Q v S → te ws S Q
structure EvO (te : CO) (φ : MO) : Prop where
  mono : MonO te
  ok : ∀ {S0 S gs ws Q v}, View S0 S gs ws → φ gs = some v → Q v S → te ws S Q
structure EvI (te : CI) (φ : MA) : Prop where
  mono : MonI te
  ok : ∀ {S0 S gs ws Q v}, View S0 S gs ws → φ gs = some v → Q v (fun _ => True) S → te ws S Q
structure EvG (g : CG) (γ : MG) : Prop where
  mono : MonG g
  ok : ∀ {S0 S gs ws Q gs' w}, View S0 S gs ws → γ w gs = some gs' → (∀ ws', View S0 S gs' ws' → Q ws' S) → g w ws S Q
structure EvGs (g : CGs) (γ : MGs) : Prop where
  mono : MonGs g
  ok : ∀ {S0 S gs ws Q gs' w}, View S0 S gs ws → γ w gs = some gs' → (∀ ws', View S0 S gs' ws' → Q ws' S) → g w ws S Q
structure E1 (r : C1) (f : Cv → Option Cv) : Prop where
  mono : Mon1 r
  ok : ∀ {a S Q v}, f a = some v → Q v S → r a S Q
structure E2 (r : C2) (f : Cv → Cv → Option Cv) : Prop where
  mono : Mon2 r
  ok : ∀ {a b S Q v}, f a b = some v → Q v S → r a b S Q
structure EC (r : CC) (f : List Cv → Option Cv) : Prop where
  mono : MonC r
  ok : ∀ {us S Q v}, f us = some v → Q v S → r us S Q
structure ECK (r : CCK) (f : List Cv → List Cv → Option Cv) : Prop where
  mono : MonCK r
  ok : ∀ {us zs S Q v}, f us zs = some v → Q v S → r us zs S Q
structure ESl (r : CSl) (f : Cv → Option Int → Option Int → Option Cv) : Prop where
  mono : MonSl r
  ok : ∀ {a l h S Q v}, f a l h = some v → Q v S → r a l h S Q
def mVar (i : Nat) : ME := fun gs => match gs[i]? with | some (.pl v) => some v | _ => none
def mC (v : Cv) : ME := fun _ => some v
def mOp (f : Cv → Cv → Option Cv) (a b : ME) : ME := fun gs => (a gs).bind fun x => (b gs).bind fun y => f x y
def mUn (f : Cv → Option Cv) (a : ME) : ME := fun gs => (a gs).bind f
def fB : Cv → Option Bool
  | .bl b => some b
  | _ => none
def mB (a : ME) : MT := fun gs => (a gs).bind fB
def mAnd (a b : MT) : MT := fun gs => (a gs).bind fun x => if x = true then b gs else some false
def mOr (a b : MT) : MT := fun gs => (a gs).bind fun x => if x = true then some true else b gs
def mNot (a : MT) : MT := fun gs => (a gs).map fun b => !b
def mAndV (a b : ME) : ME := fun gs => ((a gs).bind fB).bind fun x => if x = true then b gs else some (.bl false)
def mOrV (a b : ME) : ME := fun gs => ((a gs).bind fB).bind fun x => if x = true then some (.bl true) else b gs
def mNotV (a : ME) : ME := fun gs => ((a gs).bind fB).map fun b => .bl (!b)
def mIf (c : MT) (a b : ME) : ME := fun gs => (c gs).bind fun x => if x = true then a gs else b gs
def mChain (f g : Cv → Cv → Option Cv) (a b c : ME) : ME := fun gs => (a gs).bind fun x => (b gs).bind fun y => ((f x y).bind fB).bind fun z => if z = true then (c gs).bind fun u => g y u else some (.bl false)
def mNil : MA := fun _ => some []
def mCons (a : ME) (u : MA) : MA := fun gs => (a gs).bind fun x => (u gs).map fun r => x :: r
abbrev lenOk (n : Nat) : Bool := decide (n ≤ 1000000)
def fTup (r : List Cv) : Option Cv := if lenOk r.length = true then some (.tup r) else none
def fLst (r : List Cv) : Option Cv := if lenOk r.length = true then some (.lst r) else none
def mTup (u : MA) : ME := fun gs => (u gs).bind fTup
def mLst (u : MA) : ME := fun gs => (u gs).bind fLst
def mCB (f : List Cv → Option Cv) (u : MA) : ME := fun gs => (u gs).bind f
def mCKw (f : List Cv → List Cv → Option Cv) (u z : MA) : ME := fun gs => (u gs).bind fun x => (z gs).bind fun y => f x y
def mNoPart : MO := fun _ => some none
def mPart (a : ME) : MO := fun gs => (a gs).bind fun | .int i => some (some i) | _ => none
def mSl (f : Cv → Option Int → Option Int → Option Cv) (a : ME) (l h : MO) : ME := fun gs => (a gs).bind fun x => (l gs).bind fun y => (h gs).bind fun z => f x y z
def mgName (i : Nat) : MG := fun w gs => some (gs.set i (.pl w))
def mgNil : MGs := fun us gs => match us with | [] => some gs | _ => none
def mgCons (g : MG) (gr : MGs) : MGs := fun us gs => match us with | [] => none | w :: r => (g w gs).bind fun gs1 => gr r gs1
def mgTup (n : Nat) (g : MGs) : MG := fun w gs => match w with | .tup us => if us.length = n then g us gs else none | _ => none
theorem bind_some {α β : Type} {x : Option α} {f : α → Option β} {v : β} (h : x.bind f = some v) : ∃ a, x = some a ∧ f a = some v := by
  cases x with
  | none => cases h
  | some a => exact ⟨a, rfl, h⟩
theorem map_some' {α β : Type} {x : Option α} {f : α → β} {v : β} (h : x.map f = some v) : ∃ a, x = some a ∧ f a = v := by
  cases x with
  | none => cases h
  | some a => exact ⟨a, rfl, Option.some.inj h⟩
theorem ite_some {α : Type} {c : Prop} [Decidable c] {x : α} {v : α} (h : (if c then some x else none) = some v) : c ∧ x = v := by
  by_cases q : c
  · rw [if_pos q] at h; exact ⟨q, Option.some.inj h⟩
  · rw [if_neg q] at h; cases h
theorem fB_some {v : Cv} {b : Bool} (h : fB v = some b) : v = .bl b := by
  cases v <;> simp [fB] at h
  subst h; rfl
theorem sz_of {n : Nat} (h : lenOk n = true) : n ≤ sizeLine := Nat.le_trans (of_decide_eq_true h) (by decide)
section
variable {ta tb tc te : CE} {ua ub : CA} {c c' : CT} {a b d : ME} {u z : MA} {x y : MT} {r r' : C2} {f f' : Cv → Cv → Option Cv}
theorem ev_var {i : Nat} : Ev (cVar i) (mVar i) := ⟨mo_var, fun V e q => by
  unfold mVar at e
  split at e
  · rename_i v h
    cases e
    unfold cVar
    rw [V.pl _ _ h]; exact q
  · cases e⟩
theorem ev_c {w : Cv} : Ev (cC w) (mC w) := ⟨mo_c, fun V e q => by cases e; exact q⟩
theorem ev_op (h : E2 r f) (ha : Ev ta a) (hb : Ev tb b) : Ev (cOp r ta tb) (mOp f a b) := ⟨cOp_mono h.mono ha.mono hb.mono, fun V e q => by
  obtain ⟨v1, e1, e⟩ := bind_some e
  obtain ⟨v2, e2, e⟩ := bind_some e
  exact ha.ok V e1 (hb.ok V e2 (h.ok e q))⟩
theorem ev_un {r : C1} {f : Cv → Option Cv} (h : E1 r f) (ha : Ev ta a) : Ev (cUn r ta) (mUn f a) := ⟨mo_un h.mono ha.mono, fun V e q => by
  obtain ⟨v1, e1, e⟩ := bind_some e
  exact ha.ok V e1 (h.ok e q)⟩
theorem et_b (ha : Ev ta a) : EvT (cB ta) (mB a) := ⟨cB_mono ha.mono, fun V e q => by
  obtain ⟨v1, e1, e⟩ := bind_some e
  cases fB_some e
  exact ha.ok V e1 q⟩
theorem et_and (ha : EvT c x) (hb : EvT c' y) : EvT (cAnd c c') (mAnd x y) := ⟨cAnd_mono ha.mono hb.mono, fun V e q => by
  obtain ⟨v1, e1, e⟩ := bind_some e
  refine ha.ok V e1 ?_
  cases v1 with
  | true => rw [if_pos rfl] at e ⊢; exact hb.ok V e q
  | false => rw [if_neg (by decide)] at e ⊢; cases e; exact q⟩
theorem et_not (ha : EvT c x) : EvT (cNot c) (mNot x) := ⟨mo_not ha.mono, fun V e q => by
  obtain ⟨v1, e1, e⟩ := map_some' e
  subst e
  exact ha.ok V e1 q⟩
theorem ev_andV (ha : Ev ta a) (hb : Ev tb b) : Ev (cAndV ta tb) (mAndV a b) := ⟨mo_andV ha.mono hb.mono, fun V e q => by
  obtain ⟨v1, e1, e⟩ := bind_some e
  obtain ⟨v0, e0, e1⟩ := bind_some e1
  cases fB_some e1
  refine ha.ok V e0 ?_
  cases v1 with
  | true => rw [if_pos rfl] at e; exact hb.ok V e q
  | false => rw [if_neg (by decide)] at e; cases e; exact q⟩
theorem ev_notV (ha : Ev ta a) : Ev (cNotV ta) (mNotV a) := ⟨mo_notV ha.mono, fun V e q => by
  obtain ⟨v1, e1, e⟩ := map_some' e
  obtain ⟨v0, e0, e1⟩ := bind_some e1
  cases fB_some e1
  subst e
  exact ha.ok V e0 q⟩
theorem ev_if (hc : EvT c x) (ha : Ev ta a) (hb : Ev tb b) : Ev (cIf c ta tb) (mIf x a b) := ⟨mo_if hc.mono ha.mono hb.mono, fun V e q => by
  obtain ⟨v1, e1, e⟩ := bind_some e
  refine hc.ok V e1 ?_
  cases v1 with
  | true => rw [if_pos rfl] at e ⊢; exact ha.ok V e q
  | false => rw [if_neg (by decide)] at e ⊢; exact hb.ok V e q⟩
theorem ev_chain (h : E2 r f) (h' : E2 r' f') (ha : Ev ta a) (hb : Ev tb b) (hc : Ev tc d) : Ev (cChain r r' ta tb tc) (mChain f f' a b d) := ⟨mo_chain h.mono h'.mono ha.mono hb.mono hc.mono, fun V e q => by
  obtain ⟨v1, e1, e⟩ := bind_some e
  obtain ⟨v2, e2, e⟩ := bind_some e
  obtain ⟨k, e3, e⟩ := bind_some e
  obtain ⟨v3, e3, e4⟩ := bind_some e3
  cases fB_some e4
  refine ha.ok V e1 (hb.ok V e2 (h.ok e3 ?_))
  cases k with
  | true =>
    rw [if_pos rfl] at e
    obtain ⟨v4, e4, e⟩ := bind_some e
    exact hc.ok V e4 (h'.ok e q)
  | false => rw [if_neg (by decide)] at e; cases e; exact q⟩
theorem ea_nil : EvA cNil mNil := ⟨mo_nil, fun V e q => by cases e; exact q⟩
theorem ea_cons (ha : Ev ta a) (hu : EvA ua u) : EvA (cCons ta ua) (mCons a u) := ⟨mo_cons ha.mono hu.mono, fun V e q => by
  obtain ⟨v1, e1, e⟩ := bind_some e
  obtain ⟨v2, e2, e⟩ := map_some' e
  subst e
  exact ha.ok V e1 (hu.ok V e2 q)⟩
theorem ev_tup (hu : EvA ua u) : Ev (cTup ua) (mTup u) := ⟨mo_tup hu.mono, fun V e q => by
  obtain ⟨v1, e1, e⟩ := bind_some e
  obtain ⟨h1, e⟩ := ite_some e
  subst e
  exact hu.ok V e1 ⟨sz_of h1, q⟩⟩
theorem ev_lst (hu : EvA ua u) : Ev (cLst ua) (mLst u) := ⟨mo_lst hu.mono, fun V e q => by
  obtain ⟨v1, e1, e⟩ := bind_some e
  obtain ⟨h1, e⟩ := ite_some e
  subst e
  exact hu.ok V e1 ⟨sz_of h1, q⟩⟩
theorem ev_cb {rc : CC} {f : List Cv → Option Cv} (h : EC rc f) (hu : EvA ua u) : Ev (cCB rc ua) (mCB f u) := ⟨cCB_mono h.mono hu.mono, fun V e q => by
  obtain ⟨v1, e1, e⟩ := bind_some e
  exact hu.ok V e1 (h.ok e q)⟩
theorem ev_ckw {rk : CCK} {f : List Cv → List Cv → Option Cv} (h : ECK rk f) (hu : EvA ua u) (hz : EvA ub z) : Ev (cCKw rk ua ub) (mCKw f u z) := ⟨mo_ckw h.mono hu.mono hz.mono, fun V e q => by
  obtain ⟨v1, e1, e⟩ := bind_some e
  obtain ⟨v2, e2, e⟩ := bind_some e
  exact hu.ok V e1 (hz.ok V e2 (h.ok e q))⟩
theorem eo_none : EvO cNoPart mNoPart := ⟨mo_noPart, fun V e q => by cases e; exact q⟩
theorem eo_some (ha : Ev ta a) : EvO (cPart ta) (mPart a) := ⟨mo_part ha.mono, fun V e q => by
  obtain ⟨v1, e1, e⟩ := bind_some e
  cases v1 <;> first | (cases e; exact ha.ok V e1 q) | cases e⟩
theorem ev_sl {rs : CSl} {f : Cv → Option Int → Option Int → Option Cv} {tl th : CO} {l h : MO} (hs : ESl rs f) (ha : Ev ta a) (hl : EvO tl l) (hh : EvO th h) : Ev (cSl rs ta tl th) (mSl f a l h) := ⟨mo_sl hs.mono ha.mono hl.mono hh.mono, fun V e q => by
  obtain ⟨v1, e1, e⟩ := bind_some e
  obtain ⟨v2, e2, e⟩ := bind_some e
  obtain ⟨v3, e3, e⟩ := bind_some e
  exact ha.ok V e1 (hl.ok V e2 (hh.ok V e3 (hs.ok e q)))⟩
theorem eg_name {i : Nat} : EvG (cgName i) (mgName i) := ⟨mo_gname, fun V e q => by
  cases e
  exact q _ (V.set _ _)⟩
theorem eg_nil : EvGs cgNil mgNil := ⟨mo_gnil, fun V e q => by
  unfold mgNil at e
  split at e
  · cases e; exact ⟨rfl, q _ V⟩
  · cases e⟩
theorem eg_cons {g : CG} {gr : CGs} {m : MG} {mr : MGs} (hg : EvG g m) (hr : EvGs gr mr) : EvGs (cgCons g gr) (mgCons m mr) := ⟨mo_gcons hg.mono hr.mono, fun V e q => by
  unfold mgCons at e
  split at e
  · cases e
  · obtain ⟨v1, e1, e⟩ := bind_some e
    exact hg.ok V e1 fun ws' V' => hr.ok V' e q⟩
theorem eg_tup {g : CGs} {m : MGs} {n : Nat} (hg : EvGs g m) : EvG (cgTup n g) (mgTup n m) := ⟨mo_gtup hg.mono, fun V e q => by
  unfold mgTup at e
  split at e
  · split at e
    · exact ⟨by assumption, hg.ok V e q⟩
    · cases e
  · cases e⟩
end
/-! ### what is walked, comprehensions -/
def fSeq : Cv → Option (List Cv)
  | .tup xs => some xs
  | .lst xs => some xs
  | .str x => some (signs x)
  | _ => none
def mSeqI (a : ME) : MA := fun gs => (a gs).bind fSeq
def rngOk (j : Int) : Bool := decide (-1000000000000000 ≤ j ∧ j ≤ 1000000000000000)
def fRng1 : List Cv → Option (List Cv)
  | [.int j] => if rngOk j = true then some (iota 0 j.toNat) else none
  | _ => none
def fRng2 : List Cv → Option (List Cv)
  | [.int i, .int j] => if rngOk i = true ∧ rngOk j = true then some (iota i (j - i).toNat) else none
  | _ => none
def mRng1 (u : MA) : MA := fun gs => (u gs).bind fRng1
def mRng2 (u : MA) : MA := fun gs => (u gs).bind fRng2
def fEnum : List Cv → Option (List Cv)
  | [.tup xs] => some (pairsFrom 0 xs)
  | [.lst xs] => some (pairsFrom 0 xs)
  | _ => none
def mEnumI (u : MA) : MA := fun gs => (u gs).bind fEnum
def mYes : MT := fun _ => some true
def mLcL (g : MG) (tt : MT) (te : ME) (gs : MEnv) : List Cv → Option (List Cv)
  | [] => some []
  | x :: r => (g x gs).bind fun gs1 => (tt gs1).bind fun b => if b = true then (te gs1).bind fun y => (mLcL g tt te gs r).map fun ys => y :: ys else mLcL g tt te gs r
def mLc (ti : MA) (g : MG) (tt : MT) (te : ME) (vs : List Nat) : ME := fun gs => (ti gs).bind fun xs => (mLcL g tt te (mwipe gs vs) xs).bind fLst
def mLc2L (g : MG) (tt : MT) (ti1 : MA) (g1 : MG) (tt1 : MT) (te : ME) (vs1 : List Nat) (gs : MEnv) : List Cv → Option (List Cv)
  | [] => some []
  | x :: r => (g x gs).bind fun gs1 => (tt gs1).bind fun b => if b = true then
      (ti1 gs1).bind fun ys => (mLcL g1 tt1 te (mwipe gs1 vs1) ys).bind fun zs => (mLc2L g tt ti1 g1 tt1 te vs1 gs r).map fun rs => zs ++ rs
    else mLc2L g tt ti1 g1 tt1 te vs1 gs r
def mLc2 (ti : MA) (g : MG) (tt : MT) (ti1 : MA) (g1 : MG) (tt1 : MT) (te : ME) (vs vs1 : List Nat) : ME := fun gs => (ti gs).bind fun xs => (mLc2L g tt ti1 g1 tt1 te vs1 (mwipe gs vs) xs).bind fLst
section
variable {ti ti1 : CI} {g g1 : CG} {tt tt1 : CT} {te : CE} {mi mi1 : MA} {mg mg1 : MG} {mt mt1 : MT} {me : ME} {ua : CA} {u : MA} {vs vs1 : List Nat}
theorem ei_seq {a : ME} (h : Ev te a) : EvI (cSeqI te) (mSeqI a) := ⟨mo_seqI h.mono, fun V e q => by
  obtain ⟨v1, e1, e⟩ := bind_some e
  refine h.ok V e1 ?_
  cases v1 <;> first | (cases e; exact q) | cases e⟩
theorem rng_of {j : Int} (h : rngOk j = true) : -(2 ^ 62) ≤ j ∧ j < 2 ^ 62 := by
  have := of_decide_eq_true h
  omega
theorem ei_rng1 (h : EvA ua u) : EvI (cRng1 ua) (mRng1 u) := ⟨mo_rng1 h.mono, fun V e q => by
  obtain ⟨v1, e1, e⟩ := bind_some e
  refine h.ok V e1 ?_
  unfold fRng1 at e
  split at e
  · obtain ⟨h1, e⟩ := ite_some e
    subst e
    exact ⟨rng_of h1, q⟩
  · cases e⟩
theorem ei_enum (h : EvA ua u) : EvI (cEnumI ua) (mEnumI u) := ⟨mo_enumI h.mono, fun V e q => by
  obtain ⟨v1, e1, e⟩ := bind_some e
  refine h.ok V e1 ?_
  unfold fEnum at e
  split at e <;> first | (cases e; exact q) | cases e⟩
theorem et_yes : EvT cYes mYes := ⟨cYes_mono, fun V e q => by cases e; exact q⟩
theorem lcL_m (hg : EvG g mg) (ht : EvT tt mt) (he : Ev te me) {S0 S : Sto} {gs : MEnv} {ws : CL.Env} (V : View S0 S gs ws) {Q : List Cv → Sto → Prop} : ∀ {xs ys acc : List Cv}, mLcL mg mt me gs xs = some ys → acc.length + ys.length ≤ sizeLine → Q (acc ++ ys) S →
    lcL (fun _ => True) g tt te ws Q xs acc S
  | [], ys, acc, e, hl, q => by
    cases e
    rw [List.append_nil] at q
    exact ⟨True.intro, q⟩
  | x :: r, ys, acc, e, hl, q => by
    obtain ⟨gs1, e1, e⟩ := bind_some e
    obtain ⟨b, e2, e⟩ := bind_some e
    refine ⟨True.intro, hg.ok V e1 fun ws1 V1 => ht.ok V1 e2 ?_⟩
    cases b with
    | true =>
      rw [if_pos rfl] at e ⊢
      obtain ⟨y, e3, e⟩ := bind_some e
      obtain ⟨zs, e4, e⟩ := map_some' e
      subst e
      rw [List.length_cons] at hl
      exact he.ok V1 e3 ⟨by omega, lcL_m hg ht he V e4 (by rw [List.length_append, List.length_singleton]; omega) (by rw [List.append_assoc]; exact q)⟩
    | false =>
      rw [if_neg (by decide)] at e ⊢
      exact lcL_m hg ht he V e hl q
theorem ev_lc (hi : EvI ti mi) (hg : EvG g mg) (ht : EvT tt mt) (he : Ev te me) : Ev (cLc ti g tt te vs) (mLc mi mg mt me vs) := ⟨mo_lc hi.mono hg.mono ht.mono he.mono, fun V e q => by
  obtain ⟨xs, e1, e⟩ := bind_some e
  obtain ⟨ys, e2, e⟩ := bind_some e
  obtain ⟨h1, e⟩ := ite_some e
  subst e
  exact hi.ok V e1 (lcL_m hg ht he (V.wipe vs) e2 (by simpa using sz_of h1) q)⟩
theorem lc2L_m (hg : EvG g mg) (ht : EvT tt mt) (hi1 : EvI ti1 mi1) (hg1 : EvG g1 mg1) (ht1 : EvT tt1 mt1) (he : Ev te me) {S0 S : Sto} {gs : MEnv} {ws : CL.Env} (V : View S0 S gs ws) {Q : List Cv → Sto → Prop} : ∀ {xs ys acc : List Cv}, mLc2L mg mt mi1 mg1 mt1 me vs1 gs xs = some ys → acc.length + ys.length ≤ sizeLine → Q (acc ++ ys) S →
    lc2L (fun _ => True) g tt ti1 g1 tt1 te vs1 ws Q xs acc S
  | [], ys, acc, e, hl, q => by
    cases e
    rw [List.append_nil] at q
    exact ⟨True.intro, q⟩
  | x :: r, ys, acc, e, hl, q => by
    obtain ⟨gs1, e1, e⟩ := bind_some e
    obtain ⟨b, e2, e⟩ := bind_some e
    refine ⟨True.intro, hg.ok V e1 fun ws1 V1 => ht.ok V1 e2 ?_⟩
    cases b with
    | true =>
      rw [if_pos rfl] at e ⊢
      obtain ⟨y, e3, e⟩ := bind_some e
      obtain ⟨zs, e4, e⟩ := bind_some e
      obtain ⟨rs, e5, e⟩ := map_some' e
      subst e
      rw [List.length_append] at hl
      refine hi1.ok V1 e3 (lcL_m hg1 ht1 he (V1.wipe vs1) e4 (by omega) ?_)
      exact lc2L_m hg ht hi1 hg1 ht1 he V e5 (by rw [List.length_append]; omega) (by rw [List.append_assoc]; exact q)
    | false =>
      rw [if_neg (by decide)] at e ⊢
      exact lc2L_m hg ht hi1 hg1 ht1 he V e hl q
theorem ev_lc2 (hi : EvI ti mi) (hg : EvG g mg) (ht : EvT tt mt) (hi1 : EvI ti1 mi1) (hg1 : EvG g1 mg1) (ht1 : EvT tt1 mt1) (he : Ev te me) : Ev (cLc2 ti g tt ti1 g1 tt1 te vs vs1) (mLc2 mi mg mt mi1 mg1 mt1 me vs vs1) := ⟨mo_lc2 hi.mono hg.mono ht.mono hi1.mono hg1.mono ht1.mono he.mono, fun V e q => by
  obtain ⟨xs, e1, e⟩ := bind_some e
  obtain ⟨ys, e2, e⟩ := bind_some e
  obtain ⟨h1, e⟩ := ite_some e
  subst e
  exact hi.ok V e1 (lc2L_m hg ht hi1 hg1 ht1 he (V.wipe vs) e2 (by simpa using sz_of h1) q)⟩
end
/-! ### calls of defs that compute -/
def spM (n : Nat) (m : List Cv → Option Cv) : CSp := fun us S Q _ => us.length = n ∧ ∃ v, m us = some v ∧ Q v S
theorem spM_mono {n : Nat} {m : List Cv → Option Cv} : MonSp (spM n m) := fun us S Q Q' E E' f g ⟨l, v, e, q⟩ => ⟨l, v, e, f _ _ q⟩
theorem x_m {n : Nat} {m : List Cv → Option Cv} {us : List Cv} {v : Cv} {S : Sto} {Q : Cv → Sto → Prop} {E : Ex → Sto → Prop} (e : m us = some v) (h : Q v S) (l : us.length = n := by rfl) : spM n m us S Q E := ⟨l, v, e, h⟩
def arg (n : Nat) (m : List Cv → Option Cv) (us : List Cv) : Option Cv := if us.length = n then m us else none
theorem ev_call {n : Nat} {m : List Cv → Option Cv} {ua : CA} {u : MA} {E} (hu : EvA ua u) : Ev (cCall (spM n m) E ua) (mCB (arg n m) u) := ⟨mo_call spM_mono hu.mono, fun V e q => by
  obtain ⟨us, e1, e⟩ := bind_some e
  unfold arg at e
  split at e
  · exact hu.ok V e1 ⟨by assumption, _, e, q⟩
  · cases e⟩
/-! ### statements -/
def OutC (S0 : Sto) (D : CEnds) : Rz → Prop
  | .nx gs => ∀ S ws, View S0 S gs ws → D.nx ws S
  | .rt v => ∀ S, (∀ a o, S0 a = some o → S a = some o) → D.rt v S
  | .bk gs => ∀ S ws, View S0 S gs ws → D.bk ws S
  | .ct gs => ∀ S ws, View S0 S gs ws → D.ct ws S
  | .ex x => ∀ S ws, (∀ a o, S0 a = some o → S a = some o) → D.ex x ws S
structure EvS (t : CS) (φ : MS) : Prop where
  mono : MonS t
  ok : ∀ {S0 S gs ws D r}, View S0 S gs ws → φ gs = some r → OutC S0 D r → t D ws S
def mNext : MS := fun gs => some (.nx gs)
def mSeq (a b : MS) : MS := fun gs => (a gs).bind fun | .nx gs' => b gs' | r => some r
def mAsg (a : ME) (g : MG) : MS := fun gs => (a gs).bind fun v => (g v gs).map .nx
def mDrop (a : ME) : MS := fun gs => (a gs).map fun _ => .nx gs
def mRet (a : ME) : MS := fun gs => (a gs).map .rt
def mRetN : MS := fun _ => some (.rt .non)
def mIfS (c : MT) (a b : MS) : MS := fun gs => (c gs).bind fun x => if x = true then a gs else b gs
def mBreak : MS := fun gs => some (.bk gs)
def mCont : MS := fun gs => some (.ct gs)
def mForL (g : MG) (b : MS) (vs : List Nat) : List Cv → MEnv → Option Rz
  | [], gs => some (.nx gs)
  | x :: r, gs => (g x gs).bind fun gs1 => (b gs1).bind fun
    | .nx gs2 => mForL g b vs r (mwipe gs2 vs)
    | .ct gs2 => mForL g b vs r (mwipe gs2 vs)
    | .bk gs2 => some (.nx (mwipe gs2 vs))
    | .rt v => some (.rt v)
    | .ex x => some (.ex x)
def mFor (ti : MA) (g : MG) (b : MS) (vs : List Nat) : MS := fun gs => (ti gs).bind fun xs => mForL g b vs xs (mwipe gs vs)
def mWhile (c : MT) (b : MS) (vs : List Nat) : Nat → MS
  | 0, _ => none
  | n + 1, gs => (c gs).bind fun x => if x = true then (b gs).bind fun
      | .nx gs2 => mWhile c b vs n (mwipe gs2 vs)
      | .ct gs2 => mWhile c b vs n (mwipe gs2 vs)
      | .bk gs2 => some (.nx (mwipe gs2 vs))
      | .rt v => some (.rt v)
      | .ex x => some (.ex x)
    else some (.nx gs)
def mAug (i : Nat) (a : ME) (f : Cv → Cv → Option Cv) : MS := fun gs => match gs[i]? with
  | some (.pl x) => (a gs).bind fun y => (f x y).map fun z => .nx (gs.set i (.pl z))
  | _ => none
def mPar (i j : Nat) (u : MA) : MS := fun gs => (u gs).bind fun | [x, y] => some (.nx ((gs.set i (.pl x)).set j (.pl y))) | _ => none
def mPar3 (i j l : Nat) (u : MA) : MS := fun gs => (u gs).bind fun | [x, y, z] => some (.nx (((gs.set i (.pl x)).set j (.pl y)).set l (.pl z))) | _ => none
section
variable {t t' : CS} {m m' : MS} {te : CE} {a : ME} {g : CG} {mg : MG} {c : CT} {mc : MT} {ti : CI} {mi : MA} {vs : List Nat}
theorem es_next : EvS cNext mNext := ⟨mo_next, fun V e q => by cases e; exact q _ _ V⟩
theorem es_seq (h : EvS t m) (h' : EvS t' m') : EvS (cSeq t t') (mSeq m m') := ⟨cSeq_mono h.mono h'.mono, fun {S0 S gs ws D r} V e q => by
  obtain ⟨r1, e1, e⟩ := bind_some e
  refine h.ok (D := { D with nx := t' D }) V e1 ?_
  cases r1 with
  | nx gs1 => exact fun S1 ws1 V1 => h'.ok V1 e q
  | rt v => cases e; exact q
  | bk gs1 => cases e; exact q
  | ct gs1 => cases e; exact q
  | ex x => cases e; exact q⟩
theorem es_asg (h : Ev te a) (hg : EvG g mg) : EvS (cAsg te g) (mAsg a mg) := ⟨cAsg_mono h.mono hg.mono, fun V e q => by
  obtain ⟨v, e1, e⟩ := bind_some e
  obtain ⟨gs1, e2, e⟩ := map_some' e
  subst e
  exact h.ok V e1 (hg.ok V e2 fun ws' V' => q _ _ V')⟩
theorem es_ret (h : Ev te a) : EvS (cRet te) (mRet a) := ⟨mo_ret h.mono, fun V e q => by
  obtain ⟨v, e1, e⟩ := map_some' e
  subst e
  exact h.ok V e1 (q _ V.base)⟩
theorem es_if (hc : EvT c mc) (h : EvS t m) (h' : EvS t' m') : EvS (cIfS c t t') (mIfS mc m m') := ⟨mo_ifS hc.mono h.mono h'.mono, fun V e q => by
  obtain ⟨b, e1, e⟩ := bind_some e
  refine hc.ok V e1 ?_
  cases b with
  | true => rw [if_pos rfl] at e ⊢; exact h.ok V e q
  | false => rw [if_neg (by decide)] at e ⊢; exact h'.ok V e q⟩
theorem forL_m (hg : EvG g mg) (h : EvS t m) {D : CEnds} {S0 : Sto} : ∀ {xs : List Cv} {S gs ws r}, View S0 S gs ws → mForL mg m vs xs gs = some r → OutC S0 D r → forL (fun _ => True) g t D xs ws S
  | [], S, gs, ws, r, V, e, q => by
    cases e
    exact ⟨True.intro, q _ _ V⟩
  | x :: xs, S, gs, ws, r, V, e, q => by
    obtain ⟨gs1, e1, e⟩ := bind_some e
    obtain ⟨r1, e2, e⟩ := bind_some e
    refine ⟨True.intro, hg.ok V e1 fun ws1 V1 => h.ok (D := { D with nx := fun ws2 S2 => forL (fun _ => True) g t D xs ws2 S2, ct := fun ws2 S2 => forL (fun _ => True) g t D xs ws2 S2, bk := D.nx }) V1 e2 ?_⟩
    cases r1 with
    | nx gs2 => exact fun S2 ws2 V2 => forL_m hg h (V2.wipe1 vs) e q
    | ct gs2 => exact fun S2 ws2 V2 => forL_m hg h (V2.wipe1 vs) e q
    | bk gs2 => cases e; exact fun S2 ws2 V2 => q _ _ (V2.wipe1 vs)
    | rt v => cases e; exact q
    | ex x => cases e; exact q
theorem es_for (hi : EvI ti mi) (hg : EvG g mg) (h : EvS t m) : EvS (cFor ti g t) (mFor mi mg m vs) := ⟨mo_for hi.mono hg.mono h.mono, fun V e q => by
  obtain ⟨xs, e1, e⟩ := bind_some e
  exact hi.ok V e1 (forL_m hg h (V.wipe1 vs) e q)⟩
theorem es_aug {i : Nat} {r : C2} {f : Cv → Cv → Option Cv} (hr : E2 r f) (h : Ev te a) : EvS (cAug i te r) (mAug i a f) := ⟨mo_aug hr.mono h.mono, fun V e q => by
  unfold mAug at e
  split at e
  · rename_i x hx
    obtain ⟨y, e1, e⟩ := bind_some e
    obtain ⟨z, e2, e⟩ := map_some' e
    subst e
    unfold cAug
    rw [V.pl _ _ hx]
    exact h.ok V e1 (hr.ok e2 (q _ _ (V.set _ _)))
  · cases e⟩
theorem mo_par3 {i j l : Nat} {ua : CA} (h : MonA ua) : MonS (cPar3 i j l ua) := fun D D' ws S le q => h _ _ _ _ (fun us S1 q => by
  split at q
  · exact le.nx _ _ q
  · exact q) q
end
def mstart (N : List Str) (us : List Cv) : MEnv := us.map Sl.pl ++ List.replicate (N.length - us.length) .no
def outM (φ : MS) (gs : MEnv) : Option Cv := (φ gs).bind fun | .rt v => some v | .nx _ => some .non | _ => none
theorem view_start {S : Sto} {N : List Str} {us : List Cv} : View S S (mstart N us) (cstart N us) := by
  have key : ∀ (i : Nat) (s : Sl), (mstart N us)[i]? = some s → (∃ v, s = .pl v ∧ (cstart N us)[i]? = some (some v)) ∨ s = .no := fun i s e => by
    unfold mstart at e
    by_cases h : i < us.length
    · rw [List.getElem?_append_left (by simpa using h), List.getElem?_map, List.getElem?_eq_getElem h] at e
      cases e
      refine .inl ⟨_, rfl, ?_⟩
      unfold cstart
      rw [List.getElem?_append_left (by simpa using h), List.getElem?_map, List.getElem?_eq_getElem h]; rfl
    · rw [List.getElem?_append_right (by simpa using h), List.getElem?_replicate] at e
      split at e
      · cases e; exact .inr rfl
      · cases e
  refine ⟨by unfold mstart cstart; simp, fun i v e => ?_, fun i v e => ?_, fun i j u v p _ e => ?_, fun _ _ h => h⟩
  · rcases key i _ e with ⟨u, z, y⟩ | z
    · cases z; exact y
    · cases z
  · rcases key i _ e with ⟨u, z, y⟩ | z <;> cases z
  · rcases key i _ e with ⟨u, z, y⟩ | z <;> cases z
theorem PL.ofEv {N ps : List Str} {t : CS} {φ : MS} (h : EvS t φ) : PL N ps (spM ps.length fun us => outM φ (mstart N us)) t :=
  ⟨spM_mono, fun us S Q E ⟨l, _⟩ => l, fun us S Q E ⟨l, v, e, q⟩ => by
    obtain ⟨r, e1, e⟩ := bind_some e
    refine h.ok view_start e1 ?_
    cases r with
    | nx gs => cases e; exact fun S' ws' V => ⟨S, _, V.base, .inl rfl, q⟩
    | rt v => cases e; exact fun S' b => ⟨S, _, b, .inl rfl, q⟩
    | bk gs => cases e
    | ct gs => cases e
    | ex x => cases e⟩
end CL
/-! ML2: the operations by functions -/
namespace CL
open PySem PySem.Spec PyProof.Rows L2
variable [LamT]
/-- modest numbers: below 2 ** 8000 -/
def bigN : Nat := 2 ^ 8000
def mdOk (i : Int) : Bool := decide (i.natAbs < bigN)
theorem md_of {i : Int} (h : mdOk i = true) : i.natAbs < 2 ^ 8000 := of_decide_eq_true h
theorem mdOk_nb {i : Int} (h : NB i 8000) : mdOk i = true := decide_eq_true h
def fI (g : Int → Int → Cv) : Cv → Cv → Option Cv
  | .int i, .int j => some (g i j)
  | _, _ => none
theorem e2_i {g : Int → Int → Cv} : E2 (cI2 (fun _ _ => True) g) (fI g) := ⟨cI2_mono, fun {a b S Q v} e q => by
  unfold fI at e
  split at e
  · cases e; exact ⟨True.intro, q⟩
  · cases e⟩
def fIC (C : Int → Int → Bool) (g : Int → Int → Cv) : Cv → Cv → Option Cv
  | .int i, .int j => if C i j = true then some (g i j) else none
  | _, _ => none
theorem e2_ic {P : Int → Int → Prop} {C : Int → Int → Bool} {g : Int → Int → Cv} (h : ∀ i j, C i j = true → P i j) : E2 (cI2 P g) (fIC C g) := ⟨cI2_mono, fun {a b S Q v} e q => by
  unfold fIC at e
  split at e
  · obtain ⟨h1, e⟩ := ite_some e
    subst e; exact ⟨h _ _ h1, q⟩
  · cases e⟩
abbrev fSub := fI fun i j => .int (i - j)
abbrev fLt := fI fun i j => .bl (decide (i < j))
abbrev fLe := fI fun i j => .bl (decide (i ≤ j))
abbrev fGt := fI fun i j => .bl (decide (j < i))
abbrev fGe := fI fun i j => .bl (decide (j ≤ i))
def mulC (i j : Int) : Bool := mdOk i && mdOk j
def divC (_ j : Int) : Bool := decide (0 < j) && mdOk j
def modC (_ j : Int) : Bool := decide (0 < j)
def powC (i j : Int) : Bool := mdOk i && decide (0 ≤ j ∧ j ≤ 60)
abbrev fMul := fIC mulC fun i j => .int (i * j)
abbrev fFd := fIC divC fun i j => .int (i / j)
abbrev fMod := fIC modC fun i j => .int (i % j)
abbrev fPow := fIC powC fun i j => .int (i ^ j.toNat)
theorem e2_sub : E2 cSub fSub := e2_i
theorem e2_lt : E2 cLt fLt := e2_i
theorem e2_le : E2 cLe fLe := e2_i
theorem e2_gt : E2 cGt fGt := e2_i
theorem e2_ge : E2 cGe fGe := e2_i
theorem e2_mul : E2 cMul fMul := e2_ic fun i j h => by
  obtain ⟨a, b⟩ := Bool.and_eq_true_iff.mp h
  exact mulW_of 8000 8000 (md_of a) (md_of b)
theorem e2_fd : E2 cFd fFd := e2_ic fun i j h => by
  obtain ⟨a, b⟩ := Bool.and_eq_true_iff.mp h
  exact divW_nb (a := 8000) (md_of b) (of_decide_eq_true a) (by decide)
theorem e2_mod : E2 cMod fMod := e2_ic fun i j h => of_decide_eq_true h
theorem e2_pow : E2 cPow fPow := e2_ic fun i j h => by
  obtain ⟨a, b⟩ := Bool.and_eq_true_iff.mp h
  have b := of_decide_eq_true b
  exact cpw_of 8000 (md_of a) (by decide) b.1 (by omega)
def fAdd : Cv → Cv → Option Cv
  | .int i, .int j => some (.int (i + j))
  | .str x, .str y => if lenOk (x.length + y.length) = true then some (.str (x ++ y)) else none
  | .tup xs, .tup ys => if lenOk (xs.length + ys.length) = true then some (.tup (xs ++ ys)) else none
  | .lst xs, .lst ys => if lenOk (xs.length + ys.length) = true then some (.lst (xs ++ ys)) else none
  | _, _ => none
theorem e2_add : E2 cAdd fAdd := ⟨cAdd_mono, fun {a b S Q v} e q => by
  unfold fAdd at e
  split at e
  · cases e; exact q
  · obtain ⟨h1, e⟩ := ite_some e; subst e; exact ⟨sz_of h1, q⟩
  · obtain ⟨h1, e⟩ := ite_some e; subst e; exact ⟨sz_of h1, q⟩
  · obtain ⟨h1, e⟩ := ite_some e; subst e; exact ⟨sz_of h1, q⟩
  · cases e⟩
/-- data that == compares -/
def fEqB (g : Bool → Bool) : Cv → Cv → Option Cv
  | .str x, .str y => some (.bl (g (decide (x = y))))
  | .int i, .int j => some (.bl (g (decide (i = j))))
  | a, b => if okD a = true ∧ okD b = true then some (.bl (g (ceq a b))) else none
theorem okD_der {a : Cv} {S : Sto} (h : okD a = true) : deref a S = some a := by
  cases a <;> first | rfl | (exact absurd h (by simp [okD, isD]))
theorem e2_eqB {g : Bool → Bool} : E2 (cEqB g) (fEqB g) := ⟨cEqB_mono, fun {a b S Q v} e q => by
  unfold fEqB at e
  split at e
  · cases e; exact q
  · cases e; exact q
  · rename_i n1 n2
    obtain ⟨⟨h1, h2⟩, e⟩ := ite_some e
    subst e
    unfold cEqB
    split
    · exact absurd rfl (n1 _ _ rfl)
    · exact absurd rfl (n2 _ _ rfl)
    · rw [okD_der h1, okD_der h2]
      exact ⟨⟨h1, h2⟩, q⟩⟩
abbrev fEq := fEqB fun b => b
abbrev fNe := fEqB fun b => !b
def fIsN (g : Bool → Bool) : Cv → Cv → Option Cv
  | .opq _, _ => none
  | .cls _, _ => none
  | .non, .non => some (.bl (g true))
  | _, .non => some (.bl (g false))
  | _, _ => none
def fIx : Cv → Cv → Option Cv
  | .str z, .int i => if lenOk z.length = true then (atI z.cps.toList i).map fun c => .str ⟨#[c]⟩ else none
  | .tup xs, .int i => atI xs i
  | .lst xs, .int i => atI xs i
  | .scr xs, .int i => atI xs i
  | _, _ => none
theorem e2_ix : E2 cIx fIx := ⟨cIx_mono, fun {a b S Q v} e q => by
  unfold fIx at e
  split at e
  · rename_i z i
    split at e
    · obtain ⟨c, h1, e⟩ := map_some' e
      subst e
      refine ⟨sz_of (by assumption), ?_⟩
      show match atI z.cps.toList i with | some c => Q (.str ⟨#[c]⟩) S | none => False
      rw [h1]; exact q
    · cases e
  · exact x_ixT e q
  · exact x_ixL e q
  · exact x_ixS e q
  · cases e⟩
def fInB (ng : Bool) (a b : Cv) : Option Cv := match b with
  | .lst xs => if flatC a = true ∧ xs.all flatC = true then some (.bl (if ng = true then !(xs.any fun y => ceq y a) else xs.any fun y => ceq y a)) else none
  | .tup xs => if flatC a = true ∧ xs.all flatC = true then some (.bl (if ng = true then !(xs.any fun y => ceq y a) else xs.any fun y => ceq y a)) else none
  | _ => none
theorem e2_inB {ng : Bool} : E2 (cInB ng) (fInB ng) := ⟨cInB_mono, fun {a b S Q v} e q => by
  unfold fInB at e
  split at e
  · obtain ⟨h, e⟩ := ite_some e; subst e; exact ⟨h, q⟩
  · obtain ⟨h, e⟩ := ite_some e; subst e; exact ⟨h, q⟩
  · cases e⟩
abbrev fIn := fInB false
abbrev fNotIn := fInB true
def fNeg : Cv → Option Cv
  | .int i => some (.int (-i))
  | _ => none
def fCut : Cv → Option Int → Option Int → Option Cv
  | .str z, lo, hi => if lenOk z.length = true then some (.str (cutS z lo hi)) else none
  | .tup xs, lo, hi => some (.tup (cutC xs lo hi))
  | .lst xs, lo, hi => some (.lst (cutC xs lo hi))
  | _, _, _ => none
theorem esl_cut : ESl cCut fCut := ⟨cCut_mono, fun {a l h S Q v} e q => by
  unfold fCut at e
  split at e
  · obtain ⟨h1, e⟩ := ite_some e; subst e; exact ⟨sz_of h1, q⟩
  · cases e; exact q
  · cases e; exact q
  · cases e⟩
/-! ### built-ins -/
def fLen : List Cv → Option Cv
  | [.str z] => if lenOk z.length = true then some (.int z.length) else none
  | [.tup xs] => some (.int xs.length)
  | [.lst xs] => some (.int xs.length)
  | [.scr xs] => some (.int xs.length)
  | _ => none
theorem ec_len : EC cLen fLen := ⟨mo_len, fun {us S Q v} e q => by
  unfold fLen at e
  split at e
  · obtain ⟨h1, e⟩ := ite_some e; subst e; exact ⟨sz_of h1, q⟩
  · cases e; exact q
  · cases e; exact q
  · cases e; exact q
  · cases e⟩
def fAbs : List Cv → Option Cv
  | [.int i] => some (.int i.natAbs)
  | _ => none
theorem ec_abs : EC cAbs fAbs := ⟨mo_abs, fun {us S Q v} e q => by
  unfold fAbs at e
  split at e
  · cases e; exact q
  · cases e⟩
def fInt : List Cv → Option Cv
  | [.int i] => some (.int i)
  | [.bl b] => some (.int (if b = true then 1 else 0))
  | _ => none
theorem ec_int : EC cInt fInt := ⟨mo_int, fun {us S Q v} e q => by
  unfold fInt at e
  split at e
  · cases e; exact q
  · cases e; exact q
  · cases e⟩
def fMaxL (g : List Int → Int) : List Cv → Option Cv
  | xs => (asInts xs).bind fun ns => if ns = [] then none else some (.int (g ns))
def fMax : List Cv → Option Cv
  | [.int i, .int j] => some (.int (max i j))
  | [.lst xs] => fMaxL (lmax 0) xs
  | _ => none
def fMin : List Cv → Option Cv
  | [.int i, .int j] => some (.int (min i j))
  | [.lst xs] => fMaxL (lmin 0) xs
  | _ => none
theorem maxL_some {g : List Int → Int} {xs : List Cv} {v : Cv} (e : fMaxL g xs = some v) : ∃ ns, asInts xs = some ns ∧ ns ≠ [] ∧ v = .int (g ns) := by
  obtain ⟨ns, h, e⟩ := bind_some e
  by_cases z : ns = []
  · rw [if_pos z] at e; cases e
  · rw [if_neg z] at e; cases e; exact ⟨ns, h, z, rfl⟩
theorem ec_max : EC cMax fMax := ⟨cMax_mono, fun {us S Q v} e q => by
  unfold fMax at e
  split at e
  · cases e; exact q
  · obtain ⟨ns, h, n, rfl⟩ := maxL_some e
    exact x_maxL h n q
  · cases e⟩
theorem ec_min : EC cMin fMin := ⟨cMin_mono, fun {us S Q v} e q => by
  unfold fMin at e
  split at e
  · cases e; exact q
  · obtain ⟨ns, h, n, rfl⟩ := maxL_some e
    exact x_minL h n q
  · cases e⟩
def fMaxD (us zs : List Cv) : Option Cv := match us, zs with
  | [.lst xs], [d] => (asInts xs).map fun ns => match ns with | [] => d | ns => .int (lmax 0 ns)
  | _, _ => none
def fMinD (us zs : List Cv) : Option Cv := match us, zs with
  | [.lst xs], [d] => (asInts xs).map fun ns => match ns with | [] => d | ns => .int (lmin 0 ns)
  | _, _ => none
theorem eck_max : ECK cMaxD fMaxD := ⟨cMaxD_mono, fun {us zs S Q v} e q => by
  unfold fMaxD at e
  split at e
  · obtain ⟨ns, h, e⟩ := map_some' e
    subst e
    cases ns with
    | nil => exact x_maxD h q
    | cons n ns => exact x_maxD h q
  · cases e⟩
def fSum : List Cv → Option Cv
  | [.lst xs] => (asInts xs).map fun ns => .int ns.sum
  | _ => none
theorem ec_sum : EC cSum fSum := ⟨mo_sum, fun {us S Q v} e q => by
  unfold fSum at e
  split at e
  · rename_i xs
    obtain ⟨ns, h, e⟩ := map_some' e
    subst e
    have e' : intsOf (.lst xs) S = some ns := h
    show match intsOf (.lst xs) S with | some ns => Q (.int ns.sum) S | none => False
    rw [e']; exact q
  · cases e⟩
def fBools (g : List Bool → Bool) : List Cv → Option Cv
  | [.lst xs] => (asBools xs).map fun bs => .bl (g bs)
  | _ => none
theorem ec_bools {g : List Bool → Bool} : EC (cBools g) (fBools g) := ⟨cBools_mono, fun {us S Q v} e q => by
  unfold fBools at e
  split at e
  · rename_i xs
    obtain ⟨ns, h, e⟩ := map_some' e
    subst e
    have e' : boolsOf (.lst xs) S = some ns := h
    show match boolsOf (.lst xs) S with | some ns => Q (.bl (g ns)) S | none => False
    rw [e']; exact q
  · cases e⟩
abbrev fAll := fBools fun bs => bs.all fun b => b
abbrev fAny := fBools fun bs => bs.any fun b => b
def fTupleOf : List Cv → Option Cv
  | [.lst xs] => some (.tup xs)
  | [.tup xs] => some (.tup xs)
  | _ => none
theorem ec_tuple : EC cTupleOf fTupleOf := ⟨mo_tuple, fun {us S Q v} e q => by
  unfold fTupleOf at e
  split at e
  · cases e; exact q
  · cases e; exact q
  · cases e⟩
def fListOf : List Cv → Option Cv
  | [.lst xs] => some (.lst xs)
  | [.tup xs] => some (.lst xs)
  | _ => none
theorem ec_list : EC cListOf fListOf := ⟨mo_listOf, fun {us S Q v} e q => by
  unfold fListOf at e
  split at e
  · cases e; exact q
  · cases e; exact q
  · cases e⟩
/-- what repr is asked of: shallow, small data -/
def rOk (w : Cv) : Bool := smallV w && decide (dep w ≤ 64) && decide (blk w ≤ 500000)
def fRepr : List Cv → Option Cv
  | [w] => if rOk w = true then some (.str (rp w)) else none
  | _ => none
theorem rOk_ref {w : Cv} (h : rOk w = true) : ∀ a, w ≠ .ref a := fun a e => by
  subst e
  simp [rOk, smallV] at h
theorem ec_repr : EC cRepr fRepr := ⟨mo_repr, fun {us S Q v} e q => by
  unfold fRepr at e
  split at e
  · obtain ⟨h1, e⟩ := ite_some e
    subst e
    have h2 := h1
    unfold rOk at h1
    rw [Bool.and_eq_true, Bool.and_eq_true] at h1
    exact x_repr (rOk_ref h2) (okR_small h1.1.1 (of_decide_eq_true h1.1.2) (of_decide_eq_true h1.2)) q
  · cases e⟩
def fRepL : Cv → Cv → Option Cv
  | .lst xs, .int k => if (decide (-1000000 ≤ k ∧ k ≤ 1000000) && lenOk (xs.length * k.toNat)) = true then some (.lst (List.replicate k.toNat xs).flatten) else none
  | _, _ => none
theorem e2_repL : E2 cRepL fRepL := ⟨cRepL_mono, fun {a b S Q v} e q => by
  unfold fRepL at e
  split at e
  · obtain ⟨h1, e⟩ := ite_some e
    subst e
    rw [Bool.and_eq_true] at h1
    have := of_decide_eq_true h1.1
    exact ⟨⟨by omega, by omega, sz_of h1.2⟩, q⟩
  · cases e⟩
end CL
/-! ML3: objects of the def's own: made, filled, frozen, read -/
namespace CL
open PySem PySem.Spec PyProof.Rows L2
variable [LamT]
def Sto.del (S : Sto) (p : Addr) : Sto := fun b => if b = p then none else S b
theorem Sto.del_same {S : Sto} {p : Addr} : S.del p p = none := by simp [Sto.del]
theorem Sto.del_ne {S : Sto} {p b : Addr} (h : b ≠ p) : S.del p b = S b := by simp [Sto.del, h]
theorem Sto.del_sub {S : Sto} {p : Addr} : ∀ a o, S.del p a = some o → S a = some o := fun a o e => by
  by_cases h : a = p
  · subst h; rw [Sto.del_same] at e; cases e
  · rwa [Sto.del_ne h] at e
mutual
/-- trees of tuples: no list, no dict in them -/
def ttv : Cv → Bool
  | .non | .bl _ | .int _ | .str _ => true
  | .tup xs => ttvs xs
  | _ => false
def ttvs : List Cv → Bool
  | [] => true
  | x :: r => ttv x && ttvs r
end
section
variable {K : Fg} {Z : List Addr} {S : Sto} {H : Hp}
theorem RepOb.noTup {a : Addr} {o : Ob} {vs : List V} (h : RepOb K Z S H a o) (r : Rd H a (.tup vs)) : False := by
  have key : ∀ u, H a = some u → plainO u = true → False := fun u e p => by
    rcases r with r | ⟨x, r⟩ <;> (rw [r] at e; cases e; cases p)
  cases o with
  | lst ws => obtain ⟨vs, h1, _⟩ := h; exact key _ h1 rfl
  | dK ws => obtain ⟨vs, h1, _⟩ := h; exact key _ h1 rfl
  | dT ws => obtain ⟨vs, h1, _⟩ := h; exact key _ h1 rfl
  | ins q fs => obtain ⟨vs, ⟨C, dx, h1, hq⟩, _⟩ := h; exact key _ h1 rfl
  | dL C dx fs => obtain ⟨vs, h1, _⟩ := h; rcases r with r | ⟨x, r⟩ <;> (rw [r] at h1; cases h1)
mutual
theorem Rep.tt {S' : Sto} (ok : StOk K Z S' H) : ∀ {w : Cv} {v : V}, ttv w = true → Rep K Z S H w v → Rep K Z S' H w v
  | _, _, _, .non => .non
  | _, _, _, .bl b => .bl b
  | _, _, _, .int i => .int i
  | _, _, _, .str x => .str x
  | _, _, h, .tup (a := a) hr n r => .tup hr (by
      cases e : S' a with
      | none => rfl
      | some o => exact ((ok.ob a o e).noTup hr.rd).elim) (Reps.tt ok h r)
  | _, _, h, .tupK hr r => .tupK hr (Reps.tt ok h r)
  | _, _, h, .lst _ _ _ _ => by cases h
  | _, _, h, .scr _ _ _ => by cases h
  | _, _, h, .tupF _ _ _ _ => by cases h
  | _, _, h, .scrK _ _ => by cases h
  | _, _, h, .dK _ _ _ _ _ => by cases h
  | _, _, h, .dT _ _ _ _ _ => by cases h
  | _, _, h, .ins _ _ _ _ _ _ => by cases h
  | _, _, h, .ref _ => by cases h
  | _, _, h, .opq _ => by cases h
  | _, _, h, .exc _ _ _ _ _ _ _ _ _ => by cases h
  | _, _, h, .excN _ _ _ _ => by cases h
  | _, _, h, .lam _ _ _ => by cases h
  | _, _, h, .cls _ => by cases h
theorem Reps.tt {S' : Sto} (ok : StOk K Z S' H) : ∀ {ws : List Cv} {vs : List V}, ttvs ws = true → Reps K Z S H ws vs → Reps K Z S' H ws vs
  | _, _, _, .nil => .nil
  | _, _, h, .cons a r => .cons (Rep.tt ok (Bool.and_eq_true_iff.mp h).1 a) (Reps.tt ok (Bool.and_eq_true_iff.mp h).2 r)
end
/-- an owned object as a frozen value -/
theorem RepOb.frz {p : Addr} {o : Ob} {v : Cv} {S' : Sto} (ok : StOk K Z S H) (e : S p = some o) (ev : obv o = some v) (hs : ∀ a o, S' a = some o → S a = some o) (n : S' p = none) : Rep K Z S' H v (.ref p) := by
  have nz : p ∉ Z := fun z => by rw [(ok.hid p z).1] at e; cases e
  have h := ok.ob p o e
  cases o with
  | lst ws => cases ev; obtain ⟨vs, h1, h2⟩ := h; exact .lst h1 n nz (h2.less hs)
  | dK ws => cases ev; obtain ⟨vs, h1, h3, h2⟩ := h; exact .dK h1 n nz h3 (h2.less hs)
  | dT ws => cases ev; obtain ⟨vs, h1, h3, h2⟩ := h; exact .dT h1 n nz h3 (h2.less hs)
  | ins q ws => cases ev; obtain ⟨vs, ⟨C, dx, h1, hq⟩, h3, h2⟩ := h; exact .ins h1 n nz hq h3 (h2.less hs)
  | dL C dx fs => cases ev
end
/-- from here on the object in slot i is only read -/
def cFrz (i : Nat) (u : CS) : CS := fun D ws S => ∃ p o v, ws[i]? = some (some (.ref p)) ∧ S p = some o ∧ obv o = some v ∧ u D (ws.set i (some v)) (S.del p)
theorem mo_frz {i : Nat} {u : CS} (h : MonS u) : MonS (cFrz i u) := fun D D' ws S l ⟨p, o, v, a, b, c, q⟩ => ⟨p, o, v, a, b, c, h _ _ _ _ l q⟩
theorem RepSt.less {K : Fg} {Z : List Addr} {S S' : Sto} {H : Hp} {σ : L2.St} {ws : CL.Env} (hs : ∀ a o, S' a = some o → S a = some o) (r : RepSt K Z S H σ ws) : RepSt K Z S' H σ ws :=
  ⟨r.1, fun i w e => let ⟨v, a, b⟩ := r.2 i w e; ⟨v, a, b.less hs⟩⟩
theorem ss_frz {X : Cx} {rest : List Stmt} {u : CS} (i : Nat) (h : SSs X rest u) : SSs X rest (cFrz i u) := ⟨mo_frz h.mono, h.ok.imp fun D σ H q => by
  obtain ⟨Z, S, ws, ok, re, p, o, v, e1, e2, e3, q⟩ := q
  have fr : ∀ {S' H'}, Fr (S.del p) H S' H' → Fr S H S' H' := fun f => ⟨fun a o h n nt => f.keep a o h (by
    by_cases z : a = p
    · rw [z]; exact Sto.del_same
    · rw [Sto.del_ne z]; exact n) nt, f.dom⟩
  refine ⟨Z, S.del p, ws.set i (some v), ok.less Sto.del_sub, ?_, h.mono (liftD X.K (WofX X) Z S H D) (liftD X.K (WofX X) Z (S.del p) H D) _ _ ⟨fun _ _ h σ' H' a b c => h σ' H' (fr a) b c, fun _ _ h σ' H' a b c => h σ' H' (fr a) b c, fun _ _ h σ' H' a b c => h σ' H' (fr a) b c, fun _ _ h σ' H' a b c => h σ' H' (fr a) b c, fun _ _ _ h σ' H' a b c => h σ' H' (fr a) b c⟩ q⟩
  obtain ⟨x, h1, h2⟩ := re.2 i _ e1
  cases h2
  have r1 := re.less (Sto.del_sub (S := S) (p := p))
  have r2 := RepOb.frz ok e2 e3 (Sto.del_sub (p := p)) Sto.del_same
  refine ⟨by rw [List.length_set]; exact r1.1, fun j w ew => ?_⟩
  by_cases z : i = j
  · subst z
    have hl : i < ws.length := (List.getElem?_eq_some_iff.mp e1).1
    rw [List.getElem?_set_self hl] at ew
    cases ew
    exact ⟨_, h1, r2⟩
  · rw [List.getElem?_set_ne z] at ew
    exact r1.2 j w ew⟩
def FrzE (S : Sto) (ws ws' : CL.Env) : Prop := ws'.length = ws.length ∧ ∀ (i : Nat) (w : Cv), ws'[i]? = some (some w) → ws[i]? = some (some w) ∨ ∃ p o, ws[i]? = some (some (.ref p)) ∧ S p = some o ∧ obv o = some w
/-- an expression that reads objects of the def's own: they are frozen while it runs -/
def cRead (te : CE) : CE := fun ws S Q => ∃ ws', FrzE S ws ws' ∧ te ws' S0 fun w S1 => S1 = S0 ∧ ttv w = true ∧ Q w S
def cReadT (te : CT) : CT := fun ws S Q => ∃ ws', FrzE S ws ws' ∧ te ws' S0 fun b S1 => S1 = S0 ∧ Q b S
theorem mo_bor {te : CE} (h : MonE te) : MonE (cRead te) := fun ws S Q Q' f ⟨ws', a, q⟩ => ⟨ws', a, h _ _ _ _ (fun w S1 ⟨x, y, z⟩ => ⟨x, y, f _ _ z⟩) q⟩
theorem mo_borT {te : CT} (h : MonT te) : MonT (cReadT te) := fun ws S Q Q' f ⟨ws', a, q⟩ => ⟨ws', a, h _ _ _ _ (fun w S1 ⟨x, z⟩ => ⟨x, f _ _ z⟩) q⟩
section
variable {K : Fg} {Z : List Addr} {S : Sto} {H H' : Hp} {σ : L2.St} {ws ws' : CL.Env}
theorem s0_sub : ∀ a o, S0 a = some o → S a = some o := fun a o e => by cases e
theorem FrzE.rep (ok : StOk K Z S H) (re : RepSt K Z S H σ ws) (f : FrzE S ws ws') : RepSt K Z S0 H σ ws' := by
  refine ⟨re.1.trans f.1.symm, fun i w e => ?_⟩
  rcases f.2 i w e with h | ⟨p, o, e1, e2, e3⟩
  · obtain ⟨v, h1, h2⟩ := re.2 i w h
    exact ⟨v, h1, h2.less s0_sub⟩
  · obtain ⟨v, h1, h2⟩ := re.2 i _ e1
    cases h2
    exact ⟨_, h1, RepOb.frz ok e2 e3 s0_sub rfl⟩
theorem Fr.bor (f : Fr S0 H S0 H') : Fr S H S H' := ⟨fun a o h n nt => ⟨(f.keep a o h rfl nt).1, n⟩, f.dom⟩
theorem StOk.bor (ok : StOk K Z S H) (f : Fr S0 H S0 H') (ok' : StOk K Z S0 H') : StOk K Z S H' := ⟨fun a o e => by
  obtain ⟨u, hu⟩ := (ok.ob a o e).there
  exact (ok.ob a o e).fr f.bor ((f.keep a u hu rfl (noTab.nt ((ok.ob a o e).noT u hu))).1.trans hu.symm), fun a z => by
  obtain ⟨n, u, e, p⟩ := ok.hid a z
  exact ⟨n, u, (f.keep a u e rfl (plainO.nt p)).1, p⟩, ok'.tab⟩
end
theorem s_bor {X : Cx} {e : Expr} {te : CE} (h : SE X e te) : SE X e (cRead te) := ⟨mo_bor h.mono, h.ok.imp fun σ H Q q => by
  obtain ⟨Z, S, ws, ok, re, ws', fz, q⟩ := q
  refine ⟨Z, S0, ws', ok.less s0_sub, fz.rep ok re, h.mono _ _ _ _ (fun w S1 ⟨e1, e2, q⟩ v H' f ok' r => ?_) q⟩
  subst e1
  exact q v H' f.bor (ok.bor f ok') (Rep.tt (ok.bor f ok') e2 r)⟩
theorem st_bor {X : Cx} {e : Expr} {te : CT} (h : ST X e te) : ST X e (cReadT te) := ⟨mo_borT h.mono, h.ok.imp fun σ H Q q => by
  obtain ⟨Z, S, ws, ok, re, ws', fz, q⟩ := q
  refine ⟨Z, S0, ws', ok.less s0_sub, fz.rep ok re, h.mono _ _ _ _ (fun w S1 ⟨e1, q⟩ H' f ok' => ?_) q⟩
  subst e1
  exact q H' f.bor (ok.bor f ok')⟩
/-! ### computed -/
def thaw : Sl → Sl
  | .ow v => .pl v
  | s => s
def mBor (a : ME) : ME := fun gs => (a (gs.map thaw)).bind fun v => if ttv v = true then some v else none
def mBorT (a : MT) : MT := fun gs => a (gs.map thaw)
def unsl : Sl → Option Cv
  | .no => none
  | .pl v => some v
  | .ow v => some v
theorem view_bor {B S : Sto} {gs : MEnv} {ws : CL.Env} (V : View B S gs ws) : FrzE S ws (gs.map unsl) ∧ View S0 S0 (gs.map thaw) (gs.map unsl) := by
  refine ⟨⟨by rw [List.length_map, V.len], fun i w e => ?_⟩, ⟨by rw [List.length_map, List.length_map], fun i v e => ?_, fun i v e => ?_, fun i j u v p _ e => ?_, fun _ _ h => h⟩⟩
  · rw [List.getElem?_map] at e
    cases h : gs[i]? with
    | none => rw [h] at e; cases e
    | some s =>
      rw [h] at e
      cases s with
      | no => cases e
      | pl v => cases e; exact .inl (V.pl _ _ h)
      | ow v =>
        cases e
        obtain ⟨p, o, e1, e2, e3, _⟩ := V.ow _ _ h
        exact .inr ⟨p, o, e1, e2, e3⟩
  · rw [List.getElem?_map] at e ⊢
    cases h : gs[i]? with
    | none => rw [h] at e; cases e
    | some s =>
      rw [h] at e
      cases s <;> cases e <;> rfl
  · rw [List.getElem?_map] at e
    cases h : gs[i]? with
    | none => rw [h] at e; cases e
    | some s => rw [h] at e; cases s <;> cases e
  · rw [List.getElem?_map] at e
    cases h : gs[i]? with
    | none => rw [h] at e; cases e
    | some s => rw [h] at e; cases s <;> cases e
theorem ev_bor {te : CE} {a : ME} (h : Ev te a) : Ev (cRead te) (mBor a) := ⟨mo_bor h.mono, fun V e q => by
  obtain ⟨v, e1, e⟩ := bind_some e
  obtain ⟨h1, e⟩ := ite_some e
  subst e
  obtain ⟨f, V'⟩ := view_bor V
  exact ⟨_, f, h.ok V' e1 ⟨rfl, h1, q⟩⟩⟩
theorem et_bor {te : CT} {a : MT} (h : EvT te a) : EvT (cReadT te) (mBorT a) := ⟨mo_borT h.mono, fun V e q => by
  obtain ⟨f, V'⟩ := view_bor V
  exact ⟨_, f, h.ok V' e ⟨rfl, q⟩⟩⟩
def mFrz (i : Nat) (b : MS) : MS := fun gs => match gs[i]? with | some (.ow v) => b (gs.set i (.pl v)) | _ => none
theorem es_frz {i : Nat} {t : CS} {m : MS} (h : EvS t m) : EvS (cFrz i t) (mFrz i m) := ⟨mo_frz h.mono, fun {B S gs ws D r} V e q => by
  unfold mFrz at e
  split at e
  · rename_i v hv
    obtain ⟨p, o, e1, e2, e3, e4⟩ := V.ow _ _ hv
    refine ⟨p, o, v, e1, e2, e3, h.ok ?_ e q⟩
    have hi : i < gs.length := (List.getElem?_eq_some_iff.mp hv).1
    refine ⟨by simp [V.len], fun j u eu => ?_, fun j u eu => ?_, fun j k u u' x n eu eu' a b => ?_, fun a o ea => ?_⟩
    · by_cases z : i = j
      · subst z
        rw [List.getElem?_set_self hi] at eu; cases eu
        rw [List.getElem?_set_self (by rw [V.len]; exact hi)]
      · rw [List.getElem?_set_ne z] at eu ⊢; exact V.pl _ _ eu
    · by_cases z : i = j
      · subst z
        rw [List.getElem?_set_self hi] at eu; cases eu
      · rw [List.getElem?_set_ne z] at eu ⊢
        obtain ⟨p', o', f1, f2, f3, f4⟩ := V.ow _ _ eu
        refine ⟨p', o', f1, ?_, f3, f4⟩
        rw [Sto.del_ne]; exact f2
        intro y; subst y
        exact V.dj i j _ _ _ z hv eu e1 f1
    · by_cases z : i = j
      · subst z; rw [List.getElem?_set_self hi] at eu; cases eu
      · by_cases z' : i = k
        · subst z'; rw [List.getElem?_set_self hi] at eu'; cases eu'
        · rw [List.getElem?_set_ne z] at eu a
          rw [List.getElem?_set_ne z'] at eu' b
          exact V.dj j k _ _ _ n eu eu' a b
    · have : a ≠ p := fun y => by subst y; rw [e4] at ea; cases ea
      rw [Sto.del_ne this]; exact V.base _ _ ea
  · cases e⟩
/-- a new object -/
structure EvN (te : CE) (φ : ME) : Prop where
  mono : MonE te
  ok : ∀ {B S gs ws Q v}, View B S gs ws → φ gs = some v → (∀ p o, S p = none → obv o = some v → Q (.ref p) (S.set p o)) → te ws S Q
theorem en_lst {ua : CA} {u : MA} (hu : EvA ua u) : EvN (cLstO ua) (mLst u) := ⟨mo_lstO hu.mono, fun V e q => by
  obtain ⟨v1, e1, e⟩ := bind_some e
  obtain ⟨h1, e⟩ := ite_some e
  subst e
  exact hu.ok V e1 ⟨sz_of h1, fun p hp => q p _ hp rfl⟩⟩
/-- the slot i takes a new object -/
theorem View.own {B S : Sto} {gs : MEnv} {ws : CL.Env} (V : View B S gs ws) {p : Addr} {o : Ob} {v : Cv} (i : Nat) (hp : S p = none) (ho : obv o = some v) : View B (S.set p o) (gs.set i (.ow v)) (ws.set i (some (.ref p))) := by
  have np : ∀ a u, S a = some u → a ≠ p := fun a u e z => by subst z; rw [hp] at e; cases e
  have hi : ∀ {s}, (gs.set i (.ow v))[i]? = some s → i < gs.length := fun {s} e => by
    have := (List.getElem?_eq_some_iff.mp e).1
    simpa using this
  refine ⟨by simp [V.len], fun j u eu => ?_, fun j u eu => ?_, fun j k u u' x n eu eu' a b => ?_, fun a o ea => ?_⟩
  · by_cases z : i = j
    · subst z
      rw [List.getElem?_set_self (hi eu)] at eu; cases eu
    · rw [List.getElem?_set_ne z] at eu ⊢; exact V.pl _ _ eu
  · by_cases z : i = j
    · subst z
      have hl := hi eu
      rw [List.getElem?_set_self hl] at eu; cases eu
      refine ⟨p, o, by rw [List.getElem?_set_self (by rw [V.len]; exact hl)], Sto.set_same, ho, ?_⟩
      cases e : B p with
      | none => rfl
      | some u => rw [V.base _ _ e] at hp; cases hp
    · rw [List.getElem?_set_ne z] at eu ⊢
      obtain ⟨p', o', f1, f2, f3, f4⟩ := V.ow _ _ eu
      exact ⟨p', o', f1, by rw [Sto.set_ne (np _ _ f2)]; exact f2, f3, f4⟩
  · by_cases z : i = j
    · subst z
      have hl := hi eu
      have z' : i ≠ k := n
      rw [List.getElem?_set_self (by rw [V.len]; exact hl)] at a
      rw [List.getElem?_set_ne z'] at eu' b
      cases a
      obtain ⟨p', o', f1, f2, f3, f4⟩ := V.ow _ _ eu'
      rw [b] at f1
      cases f1
      exact np _ _ f2 rfl
    · by_cases z' : i = k
      · subst z'
        have hl := hi eu'
        rw [List.getElem?_set_self (by rw [V.len]; exact hl)] at b
        rw [List.getElem?_set_ne z] at eu a
        cases b
        obtain ⟨p', o', f1, f2, f3, f4⟩ := V.ow _ _ eu
        rw [a] at f1
        cases f1
        exact np _ _ f2 rfl
      · rw [List.getElem?_set_ne z] at eu a
        rw [List.getElem?_set_ne z'] at eu' b
        exact V.dj j k _ _ _ n eu eu' a b
  · have h := V.base _ _ ea
    rw [Sto.set_ne (np _ _ h)]; exact h
def mAsgN (a : ME) (i : Nat) : MS := fun gs => (a gs).map fun v => .nx (gs.set i (.ow v))
theorem es_asgN {te : CE} {a : ME} {i : Nat} (h : EvN te a) : EvS (cAsg te (cgName i)) (mAsgN a i) := ⟨cAsg_mono h.mono mo_gname, fun V e q => by
  obtain ⟨v, e1, e⟩ := map_some' e
  subst e
  exact h.ok V e1 fun p o hp ho => q _ _ (V.own i hp ho)⟩
/-- the object in slot i changes -/
theorem View.chg {B S : Sto} {gs : MEnv} {ws : CL.Env} (V : View B S gs ws) {p : Addr} {o' : Ob} {v v' : Cv} {i : Nat} (hv : gs[i]? = some (.ow v)) (hw : ws[i]? = some (some (.ref p))) (ho : obv o' = some v') : View B (S.set p o') (gs.set i (.ow v')) ws := by
  have hi : i < gs.length := (List.getElem?_eq_some_iff.mp hv).1
  obtain ⟨p0, o0, g1, g2, g3, g4⟩ := V.ow _ _ hv
  rw [hw] at g1
  cases g1
  refine ⟨by simp [V.len], fun j u eu => ?_, fun j u eu => ?_, fun j k u u' x n eu eu' a b => ?_, fun a o ea => ?_⟩
  · by_cases z : i = j
    · subst z
      rw [List.getElem?_set_self hi] at eu; cases eu
    · rw [List.getElem?_set_ne z] at eu; exact V.pl _ _ eu
  · by_cases z : i = j
    · subst z
      rw [List.getElem?_set_self hi] at eu; cases eu
      exact ⟨p, o', hw, Sto.set_same, ho, g4⟩
    · rw [List.getElem?_set_ne z] at eu
      obtain ⟨p', o', f1, f2, f3, f4⟩ := V.ow _ _ eu
      refine ⟨p', o', f1, ?_, f3, f4⟩
      rw [Sto.set_ne]; exact f2
      intro y; subst y
      exact V.dj i j _ _ _ z hv eu hw f1
  · have up : ∀ (j : Nat) (u : Cv), (gs.set i (.ow v'))[j]? = some (.ow u) → ∃ u, gs[j]? = some (.ow u) := fun j u eu => by
      by_cases z : i = j
      · subst z; exact ⟨_, hv⟩
      · rw [List.getElem?_set_ne z] at eu; exact ⟨_, eu⟩
    obtain ⟨_, eu⟩ := up _ _ eu
    obtain ⟨_, eu'⟩ := up _ _ eu'
    exact V.dj j k _ _ _ n eu eu' a b
  · have : a ≠ p := fun y => by subst y; rw [g4] at ea; cases ea
    rw [Sto.set_ne this]; exact V.base _ _ ea
theorem obv_lst {o : Ob} {xs : List Cv} (h : obv o = some (.lst xs)) : o = .lst xs := by
  cases o <;> simp [obv] at h
  rw [h]
def mAppend (i : Nat) (a : ME) : MS := fun gs => match gs[i]? with
  | some (.ow (.lst xs)) => (a gs).bind fun v => if decide (xs.length < 1000000) = true then some (.nx (gs.set i (.ow (.lst (xs ++ [v]))))) else none
  | _ => none
theorem es_append {te : CE} {a : ME} {i : Nat} (h : Ev te a) : EvS (cDrop (cBM "list" cAppend (cVar i) (cCons te cNil))) (mAppend i a) := ⟨mo_drop (cBM_mono mo_append mo_var (mo_cons h.mono mo_nil)), fun V e q => by
  unfold mAppend at e
  split at e
  · rename_i xs hx
    obtain ⟨v, e1, e⟩ := bind_some e
    obtain ⟨h1, e⟩ := ite_some e
    subst e
    obtain ⟨p, o, f1, f2, f3, f4⟩ := V.ow _ _ hx
    cases obv_lst f3
    refine x_drop (x_bmK (x_var f1 (x_kBM f2 (x_ccons (h.ok V e1 (x_cnil ?_))))))
    refine x_append f2 (Nat.lt_of_lt_of_le (of_decide_eq_true h1) (by decide)) ?_
    exact q _ _ (V.chg hx f1 rfl)
  · cases e⟩
def mExtend (i : Nat) (a : ME) : MS := fun gs => match gs[i]? with
  | some (.ow (.lst xs)) => (a gs).bind fun v => match v with | .lst zs => if lenOk (xs.length + zs.length) = true then some (.nx (gs.set i (.ow (.lst (xs ++ zs))))) else none | _ => none
  | _ => none
theorem es_extend {te : CE} {a : ME} {i : Nat} (h : Ev te a) : EvS (cDrop (cBM "list" cExtend (cVar i) (cCons te cNil))) (mExtend i a) := ⟨mo_drop (cBM_mono mo_extend mo_var (mo_cons h.mono mo_nil)), fun V e q => by
  unfold mExtend at e
  split at e
  · rename_i xs hx
    obtain ⟨v, e1, e⟩ := bind_some e
    split at e
    · obtain ⟨h1, e⟩ := ite_some e
      subst e
      obtain ⟨p, o, f1, f2, f3, f4⟩ := V.ow _ _ hx
      cases obv_lst f3
      refine x_drop (x_bmK (x_var f1 (x_kBM f2 (x_ccons (h.ok V e1 (x_cnil ?_))))))
      refine x_extendL f2 (sz_of h1) ?_
      exact q _ _ (V.chg hx f1 rfl)
    · cases e
  · cases e⟩
def mSetL (i : Nat) (k a : ME) : MS := fun gs => match gs[i]? with
  | some (.ow (.lst xs)) => (a gs).bind fun v => (k gs).bind fun n => match n with | .int n => (match ixN xs.length n with | some j => some (.nx (gs.set i (.ow (.lst (xs.set j v))))) | none => none) | _ => none
  | _ => none
end CL
/-! ML4: parallel stores with new objects; laws of the computed readings -/
namespace CL
open PySem PySem.Spec PyProof.Rows L2
variable [LamT]
abbrev MAo := MEnv → Option (List Sl)
inductive Alloc : Sto → Sto → List Sl → List Cv → Prop
  | nil {S : Sto} : Alloc S S [] []
  | pl {S S' : Sto} {v : Cv} {ss : List Sl} {us : List Cv} : Alloc S S' ss us → Alloc S S' (.pl v :: ss) (v :: us)
  | ow {S S' : Sto} {v : Cv} {ss : List Sl} {us : List Cv} {p : Addr} {o : Ob} : S p = none → obv o = some v → Alloc (S.set p o) S' ss us → Alloc S S' (.ow v :: ss) (.ref p :: us)
theorem View.ext {B S : Sto} {gs : MEnv} {ws : CL.Env} (V : View B S gs ws) {p : Addr} {o : Ob} (hp : S p = none) : View B (S.set p o) gs ws := by
  have np : ∀ a u, S a = some u → a ≠ p := fun a u e z => by subst z; rw [hp] at e; cases e
  refine ⟨V.len, V.pl, fun j u eu => ?_, V.dj, fun a u ea => ?_⟩
  · obtain ⟨p', o', f1, f2, f3, f4⟩ := V.ow _ _ eu
    exact ⟨p', o', f1, by rw [Sto.set_ne (np _ _ f2)]; exact f2, f3, f4⟩
  · have h := V.base _ _ ea
    rw [Sto.set_ne (np _ _ h)]; exact h
structure EvAo (te : CA) (φ : MAo) : Prop where
  mono : MonA te
  ok : ∀ {B S gs ws Q ss}, View B S gs ws → φ gs = some ss → (∀ S' us, Alloc S S' ss us → Q us S') → te ws S Q
def moNil : MAo := fun _ => some []
def moP (a : ME) (u : MAo) : MAo := fun gs => (a gs).bind fun x => (u gs).map fun r => .pl x :: r
def moN (a : ME) (u : MAo) : MAo := fun gs => (a gs).bind fun x => (u gs).map fun r => .ow x :: r
theorem ao_nil : EvAo cNil moNil := ⟨mo_nil, fun V e q => by cases e; exact q _ _ .nil⟩
theorem ao_p {te : CE} {a : ME} {ua : CA} {u : MAo} (h : Ev te a) (hu : EvAo ua u) : EvAo (cCons te ua) (moP a u) := ⟨mo_cons h.mono hu.mono, fun V e q => by
  obtain ⟨v, e1, e⟩ := bind_some e
  obtain ⟨r, e2, e⟩ := map_some' e
  subst e
  exact h.ok V e1 (hu.ok V e2 fun S' us al => q _ _ (.pl al))⟩
theorem ao_n {te : CE} {a : ME} {ua : CA} {u : MAo} (h : EvN te a) (hu : EvAo ua u) : EvAo (cCons te ua) (moN a u) := ⟨mo_cons h.mono hu.mono, fun V e q => by
  obtain ⟨v, e1, e⟩ := bind_some e
  obtain ⟨r, e2, e⟩ := map_some' e
  subst e
  exact h.ok V e1 fun p o hp ho => hu.ok (V.ext hp) e2 fun S' us al => q _ _ (.ow hp ho al)⟩
theorem View.alloc1 {B S S' : Sto} {gs : MEnv} {ws : CL.Env} {s : Sl} {u : Cv} {ss : List Sl} {us : List Cv} (V : View B S gs ws) (i : Nat) (h : Alloc S S' (s :: ss) (u :: us)) : ∃ S1, View B S1 (gs.set i s) (ws.set i (some u)) ∧ Alloc S1 S' ss us := by
  cases h with
  | pl h => exact ⟨_, V.set i _, h⟩
  | ow hp ho h => exact ⟨_, V.own i hp ho, h⟩
def mParO (i j : Nat) (u : MAo) : MS := fun gs => (u gs).bind fun | [x, y] => some (.nx ((gs.set i x).set j y)) | _ => none
def mParO3 (i j l : Nat) (u : MAo) : MS := fun gs => (u gs).bind fun | [x, y, z] => some (.nx (((gs.set i x).set j y).set l z)) | _ => none
theorem es_parO {i j : Nat} {ua : CA} {u : MAo} (h : EvAo ua u) : EvS (cPar i j ua) (mParO i j u) := ⟨mo_par h.mono, fun {B S gs ws D r} V e q => by
  obtain ⟨ss, e1, e⟩ := bind_some e
  refine h.ok V e1 fun S' us al => ?_
  split at e
  · cases e
    have l : ∃ a b, us = [a, b] := by
      cases al with
      | pl al => cases al with
        | pl al => cases al; exact ⟨_, _, rfl⟩
        | ow _ _ al => cases al; exact ⟨_, _, rfl⟩
      | ow _ _ al => cases al with
        | pl al => cases al; exact ⟨_, _, rfl⟩
        | ow _ _ al => cases al; exact ⟨_, _, rfl⟩
    obtain ⟨a, b, rfl⟩ := l
    obtain ⟨S1, V1, al⟩ := V.alloc1 i al
    obtain ⟨S2, V2, al⟩ := V1.alloc1 j al
    cases al
    exact q _ _ V2
  · cases e⟩
theorem Alloc.len {S S' : Sto} {ss : List Sl} {us : List Cv} (h : Alloc S S' ss us) : us.length = ss.length := by
  induction h with
  | nil => rfl
  | pl _ ih => simp [ih]
  | ow _ _ _ ih => simp [ih]
theorem es_parO3 {i j l : Nat} {ua : CA} {u : MAo} (h : EvAo ua u) : EvS (cPar3 i j l ua) (mParO3 i j l u) := ⟨mo_par3 h.mono, fun {B S gs ws D r} V e q => by
  obtain ⟨ss, e1, e⟩ := bind_some e
  refine h.ok V e1 fun S' us al => ?_
  split at e
  · cases e
    have hl := al.len
    match us, hl with
    | [a, b, c], _ =>
      obtain ⟨S1, V1, al⟩ := V.alloc1 i al
      obtain ⟨S2, V2, al⟩ := V1.alloc1 j al
      obtain ⟨S3, V3, al⟩ := V2.alloc1 l al
      cases al
      exact q _ _ V3
  · cases e⟩
/-! ### laws -/
theorem mLcL_cons {g : MG} {tt : MT} {te : ME} {gs : MEnv} {x : Cv} {r : List Cv} : mLcL g tt te gs (x :: r) = (g x gs).bind fun gs1 => (tt gs1).bind fun b => if b = true then (te gs1).bind fun y => (mLcL g tt te gs r).map fun ys => y :: ys else mLcL g tt te gs r := rfl
/-- a comprehension without a test -/
theorem mLcL_map {α : Type} {g : MG} {te : ME} {gs : MEnv} (e f : α → Cv) : ∀ {as : List α}, (∀ a ∈ as, (g (e a) gs).bind te = some (f a)) → mLcL g mYes te gs (as.map e) = some (as.map f)
  | [], _ => rfl
  | a :: r, h => by
    have ha := h a List.mem_cons_self
    rw [List.map_cons, mLcL_cons, mLcL_map e f fun b hb => h b (List.mem_cons_of_mem _ hb)]
    obtain ⟨gs1, e1, e2⟩ := bind_some ha
    simp [e1, mYes, e2]
/-- .. with a test -/
theorem mLcL_filter {α : Type} {g : MG} {tt : MT} {te : ME} {gs : MEnv} (e : α → Cv) (p : α → Bool) (f : α → Cv) : ∀ {as : List α}, (∀ a ∈ as, ∃ gs1, g (e a) gs = some gs1 ∧ tt gs1 = some (p a) ∧ (p a = true → te gs1 = some (f a))) → mLcL g tt te gs (as.map e) = some ((as.filter p).map f)
  | [], _ => rfl
  | a :: r, h => by
    obtain ⟨gs1, e1, e2, e3⟩ := h a List.mem_cons_self
    rw [List.map_cons, mLcL_cons, mLcL_filter e p f fun b hb => h b (List.mem_cons_of_mem _ hb), e1, Option.bind_some, e2, Option.bind_some, List.filter_cons]
    cases hp : p a with
    | true => rw [if_pos rfl, if_pos rfl, e3 hp]; rfl
    | false => rw [if_neg (by decide), if_neg (by decide)]
theorem mLc2L_cons {g g1 : MG} {tt tt1 : MT} {ti1 : MA} {te : ME} {vs1 : List Nat} {gs : MEnv} {x : Cv} {r : List Cv} : mLc2L g tt ti1 g1 tt1 te vs1 gs (x :: r) = (g x gs).bind fun gs1 => (tt gs1).bind fun b => if b = true then
      (ti1 gs1).bind fun ys => (mLcL g1 tt1 te (mwipe gs1 vs1) ys).bind fun zs => (mLc2L g tt ti1 g1 tt1 te vs1 gs r).map fun rs => zs ++ rs
    else mLc2L g tt ti1 g1 tt1 te vs1 gs r := rfl
theorem mLc2L_map {α : Type} {g g1 : MG} {tt1 : MT} {ti1 : MA} {te : ME} {vs1 : List Nat} {gs : MEnv} (e : α → Cv) (f : α → List Cv) : ∀ {as : List α}, (∀ a ∈ as, ((g (e a) gs).bind fun gs1 => (ti1 gs1).bind fun ys => mLcL g1 tt1 te (mwipe gs1 vs1) ys) = some (f a)) → mLc2L g mYes ti1 g1 tt1 te vs1 gs (as.map e) = some (as.flatMap f)
  | [], _ => rfl
  | a :: r, h => by
    have ha := h a List.mem_cons_self
    rw [List.map_cons, mLc2L_cons, mLc2L_map e f fun b hb => h b (List.mem_cons_of_mem _ hb)]
    obtain ⟨gs1, e1, e2⟩ := bind_some ha
    obtain ⟨ys, e3, e4⟩ := bind_some e2
    simp [e1, mYes, e3, e4]
theorem fLst_ok {xs : List Cv} (h : xs.length ≤ 1000000) : fLst xs = some (.lst xs) := if_pos (decide_eq_true h)
theorem mForL_cons {g : MG} {b : MS} {vs : List Nat} {x : Cv} {r : List Cv} {gs : MEnv} : mForL g b vs (x :: r) gs = (g x gs).bind fun gs1 => (b gs1).bind fun
    | .nx gs2 => mForL g b vs r (mwipe gs2 vs)
    | .ct gs2 => mForL g b vs r (mwipe gs2 vs)
    | .bk gs2 => some (.nx (mwipe gs2 vs))
    | .rt v => some (.rt v)
    | .ex x => some (.ex x) := rfl
theorem mWhile_succ {c : MT} {b : MS} {vs : List Nat} {n : Nat} {gs : MEnv} : mWhile c b vs (n + 1) gs = (c gs).bind fun x => if x = true then (b gs).bind fun
      | .nx gs2 => mWhile c b vs n (mwipe gs2 vs)
      | .ct gs2 => mWhile c b vs n (mwipe gs2 vs)
      | .bk gs2 => some (.nx (mwipe gs2 vs))
      | .rt v => some (.rt v)
      | .ex x => some (.ex x)
    else some (.nx gs) := rfl
theorem iota_map (n : Nat) (i : Int) : iota i n = (List.range n).map fun (k : Nat) => Cv.int (i + k) := rfl
end CL
/-! ML5: computed readings, step by step -/
namespace CL
open PySem PySem.Spec PyProof.Rows L2
variable [LamT]
def mIte {α : Type} (x : Option Bool) (a b : MEnv → Option α) (gs : MEnv) : Option α := x.bind fun c => if c = true then a gs else b gs
section
variable {α : Type} {a b : MEnv → Option α} {gs gs' : MEnv} {s : Sl} {x y z : ME} {t u : MT} {p q : MS} {f g : Cv → Cv → Option Cv} {v w : Cv} {i j k n : Nat} {k l : Int} {xs ys : List Cv} {U : MA} {c : Bool} {G : MG} {Gs : MGs} {vs : List Nat} {r : Rz}
theorem ite_t : mIte (some true) a b gs = a gs := rfl
theorem ite_f : mIte (some false) a b gs = b gs := rfl
theorem ite_n : mIte (some (!c)) a b gs = mIte (some c) b a gs := by cases c <;> rfl
theorem q_var0 : mVar 0 (.pl v :: gs) = some v := rfl
theorem q_varS : mVar (n + 1) (s :: gs) = mVar n gs := rfl
theorem q_c : mC v gs = some v := rfl
theorem q_op : mOp f x y gs = (x gs).bind fun a => (y gs).bind fun b => f a b := rfl
theorem q_un {h : Cv → Option Cv} : mUn h x gs = (x gs).bind h := rfl
theorem q_b : mB x gs = (x gs).bind fB := rfl
theorem q_fB : fB (.bl c) = some c := rfl
theorem q_and : mAnd t u gs = mIte (t gs) u (fun _ => some false) gs := rfl
theorem q_or : mOr t u gs = mIte (t gs) (fun _ => some true) u gs := rfl
theorem q_not : mNot t gs = (t gs).map fun b => !b := rfl
theorem q_andV : mAndV x y gs = mIte ((x gs).bind fB) y (fun _ => some (.bl false)) gs := rfl
theorem q_orV : mOrV x y gs = mIte ((x gs).bind fB) (fun _ => some (.bl true)) y gs := rfl
theorem q_notV : mNotV x gs = ((x gs).bind fB).map fun b => .bl (!b) := rfl
theorem q_if : mIf t x y gs = mIte (t gs) x y gs := rfl
theorem q_chain : mChain f g x y z gs = (x gs).bind fun a => (y gs).bind fun b => mIte ((f a b).bind fB) (fun gs => (z gs).bind fun u => g b u) (fun _ => some (.bl false)) gs := rfl
theorem q_nil : mNil gs = some [] := rfl
theorem q_cons : mCons x U gs = (x gs).bind fun a => (U gs).map fun r => a :: r := rfl
theorem q_tup : mTup U gs = (U gs).bind fTup := rfl
theorem q_lst : mLst U gs = (U gs).bind fLst := rfl
theorem q_cb {h : List Cv → Option Cv} : mCB h U gs = (U gs).bind h := rfl
theorem q_ckw {h : List Cv → List Cv → Option Cv} {V : MA} : mCKw h U V gs = (U gs).bind fun a => (V gs).bind fun b => h a b := rfl
theorem q_noPart : mNoPart gs = some none := rfl
def fPart : Cv → Option (Option Int)
  | .int i => some (some i)
  | _ => none
theorem q_part : mPart x gs = (x gs).bind fPart := rfl
theorem q_fPart : fPart (.int k) = some (some k) := rfl
theorem q_sl {h : Cv → Option Int → Option Int → Option Cv} {A B : MO} : mSl h x A B gs = (x gs).bind fun a => (A gs).bind fun l => (B gs).bind fun u => h a l u := rfl
theorem q_gname : mgName n v gs = some (gs.set n (.pl v)) := rfl
theorem q_gnil : mgNil [] gs = some gs := rfl
theorem q_gcons : mgCons G Gs (v :: xs) gs = (G v gs).bind fun gs1 => Gs xs gs1 := rfl
theorem q_gtup2 {x1 x2 : Cv} : mgTup 2 Gs (.tup [x1, x2]) gs = Gs [x1, x2] gs := rfl
theorem q_gtup3 {x1 x2 x3 : Cv} : mgTup 3 Gs (.tup [x1, x2, x3]) gs = Gs [x1, x2, x3] gs := rfl
theorem q_gtup4 {x1 x2 x3 x4 : Cv} : mgTup 4 Gs (.tup [x1, x2, x3, x4]) gs = Gs [x1, x2, x3, x4] gs := rfl
theorem q_seqI : mSeqI x gs = (x gs).bind fSeq := rfl
theorem q_fSeqT : fSeq (.tup xs) = some xs := rfl
theorem q_fSeqL : fSeq (.lst xs) = some xs := rfl
theorem q_fSeqS {z : Str} : fSeq (.str z) = some (signs z) := rfl
theorem q_rng1 : mRng1 U gs = (U gs).bind fRng1 := rfl
theorem q_rng2 : mRng2 U gs = (U gs).bind fRng2 := rfl
theorem q_enumI : mEnumI U gs = (U gs).bind fEnum := rfl
theorem q_fEnumT : fEnum [.tup xs] = some (pairsFrom 0 xs) := rfl
theorem q_fEnumL : fEnum [.lst xs] = some (pairsFrom 0 xs) := rfl
theorem q_arg0 {m : List Cv → Option Cv} : arg 0 m [] = m [] := rfl
theorem q_arg1 {m : List Cv → Option Cv} {x1 : Cv} : arg 1 m [x1] = m [x1] := rfl
theorem q_arg2 {m : List Cv → Option Cv} {x1 x2 : Cv} : arg 2 m [x1, x2] = m [x1, x2] := rfl
theorem q_arg3 {m : List Cv → Option Cv} {x1 x2 x3 : Cv} : arg 3 m [x1, x2, x3] = m [x1, x2, x3] := rfl
theorem q_arg4 {m : List Cv → Option Cv} {x1 x2 x3 x4 : Cv} : arg 4 m [x1, x2, x3, x4] = m [x1, x2, x3, x4] := rfl
theorem q_arg5 {m : List Cv → Option Cv} {x1 x2 x3 x4 x5 : Cv} : arg 5 m [x1, x2, x3, x4, x5] = m [x1, x2, x3, x4, x5] := rfl
theorem q_next : mNext gs = some (.nx gs) := rfl
def mThen (q : MS) : Rz → Option Rz
  | .nx gs' => q gs'
  | r => some r
theorem q_seq : mSeq p q (s :: gs) = (p (s :: gs)).bind (mThen q) := by
  unfold mSeq
  congr 1
theorem q_thenN : mThen q (.nx gs) = q gs := rfl
theorem q_thenR : mThen q (.rt v) = some (.rt v) := rfl
theorem q_thenB : mThen q (.bk gs) = some (.bk gs) := rfl
theorem q_thenC : mThen q (.ct gs) = some (.ct gs) := rfl
theorem q_asg : mAsg x G gs = (x gs).bind fun v => (G v gs).map .nx := rfl
theorem q_drop : mDrop x gs = (x gs).map fun _ => .nx gs := rfl
theorem q_ret : mRet x gs = (x gs).map .rt := rfl
theorem q_retN : mRetN gs = some (.rt .non) := rfl
theorem q_ifS : mIfS t p q gs = mIte (t gs) p q gs := rfl
theorem q_break : mBreak gs = some (.bk gs) := rfl
theorem q_cont : mCont gs = some (.ct gs) := rfl
theorem q_for : mFor U G p vs gs = (U gs).bind fun xs => mForL G p vs xs (mwipe gs vs) := rfl
def mLoop (G : MG) (b : MS) (vs : List Nat) (r : List Cv) : Rz → Option Rz
  | .nx gs2 => mForL G b vs r (mwipe gs2 vs)
  | .ct gs2 => mForL G b vs r (mwipe gs2 vs)
  | .bk gs2 => some (.nx (mwipe gs2 vs))
  | .rt v => some (.rt v)
  | .ex x => some (.ex x)
theorem q_forL0 : mForL G p vs [] gs = some (.nx gs) := rfl
theorem q_forL : mForL G p vs (v :: xs) gs = (G v gs).bind fun gs1 => (p gs1).bind (mLoop G p vs xs) := by
  rw [mForL_cons]
  congr 1
theorem q_loopN : mLoop G p vs xs (.nx gs) = mForL G p vs xs (mwipe gs vs) := rfl
theorem q_loopC : mLoop G p vs xs (.ct gs) = mForL G p vs xs (mwipe gs vs) := rfl
theorem q_loopB : mLoop G p vs xs (.bk gs) = some (.nx (mwipe gs vs)) := rfl
theorem q_loopR : mLoop G p vs xs (.rt v) = some (.rt v) := rfl
def mLoopW (t : MT) (b : MS) (vs : List Nat) (n : Nat) : Rz → Option Rz
  | .nx gs2 => mWhile t b vs n (mwipe gs2 vs)
  | .ct gs2 => mWhile t b vs n (mwipe gs2 vs)
  | .bk gs2 => some (.nx (mwipe gs2 vs))
  | .rt v => some (.rt v)
  | .ex x => some (.ex x)
theorem q_while : mWhile t p vs (n + 1) gs = mIte (t gs) (fun gs => (p gs).bind (mLoopW t p vs n)) (fun gs => some (.nx gs)) gs := by
  show mWhile t p vs (n + 1) gs = (t gs).bind fun x => if x = true then (p gs).bind (mLoopW t p vs n) else some (.nx gs)
  rw [mWhile_succ]
  congr 1
theorem q_loopWN : mLoopW t p vs n (.nx gs) = mWhile t p vs n (mwipe gs vs) := rfl
theorem q_loopWC : mLoopW t p vs n (.ct gs) = mWhile t p vs n (mwipe gs vs) := rfl
theorem q_loopWB : mLoopW t p vs n (.bk gs) = some (.nx (mwipe gs vs)) := rfl
theorem q_loopWR : mLoopW t p vs n (.rt v) = some (.rt v) := rfl
def slP : Option Sl → Option Cv
  | some (.pl v) => some v
  | _ => none
def slO : Option Sl → Option Cv
  | some (.ow v) => some v
  | _ => none
theorem q_slP : slP (some (.pl v)) = some v := rfl
theorem q_slO : slO (some (.ow v)) = some v := rfl
theorem q_aug : mAug n x f gs = (slP gs[n]?).bind fun v => (x gs).bind fun y => (f v y).map fun z => .nx (gs.set n (.pl z)) := by
  unfold mAug
  cases gs[n]? with
  | none => rfl
  | some s => cases s <;> rfl
def f2 (k : Cv → Cv → Option Rz) : List Cv → Option Rz
  | [a, b] => k a b
  | _ => none
def f3 (k : Cv → Cv → Cv → Option Rz) : List Cv → Option Rz
  | [a, b, c] => k a b c
  | _ => none
theorem q_f2 {k : Cv → Cv → Option Rz} : f2 k [v, w] = k v w := rfl
theorem q_f3 {k : Cv → Cv → Cv → Option Rz} {u : Cv} : f3 k [v, w, u] = k v w u := rfl
theorem q_par : mPar i j U gs = (U gs).bind (f2 fun x y => some (.nx ((gs.set i (.pl x)).set j (.pl y)))) := by
  unfold mPar; congr 1
theorem q_par3 : mPar3 i j n U gs = (U gs).bind (f3 fun x y z => some (.nx (((gs.set i (.pl x)).set j (.pl y)).set n (.pl z)))) := by
  unfold mPar3; congr 1
def g2 (k : Sl → Sl → Option Rz) : List Sl → Option Rz
  | [a, b] => k a b
  | _ => none
def g3 (k : Sl → Sl → Sl → Option Rz) : List Sl → Option Rz
  | [a, b, c] => k a b c
  | _ => none
theorem q_g2 {k : Sl → Sl → Option Rz} {s1 s2 : Sl} : g2 k [s1, s2] = k s1 s2 := rfl
theorem q_g3 {k : Sl → Sl → Sl → Option Rz} {s1 s2 s3 : Sl} : g3 k [s1, s2, s3] = k s1 s2 s3 := rfl
theorem q_parO {V : MAo} : mParO i j V gs = (V gs).bind (g2 fun x y => some (.nx ((gs.set i x).set j y))) := by
  unfold mParO; congr 1
theorem q_parO3 {V : MAo} : mParO3 i j n V gs = (V gs).bind (g3 fun x y z => some (.nx (((gs.set i x).set j y).set n z))) := by
  unfold mParO3; congr 1
theorem q_oNil : moNil gs = some [] := rfl
theorem q_oP {V : MAo} : moP x V gs = (x gs).bind fun a => (V gs).map fun r => .pl a :: r := rfl
theorem q_oN {V : MAo} : moN x V gs = (x gs).bind fun a => (V gs).map fun r => .ow a :: r := rfl
theorem q_asgN : mAsgN x n gs = (x gs).map fun v => .nx (gs.set n (.ow v)) := rfl
theorem q_frz : mFrz n p gs = (slO gs[n]?).bind fun v => p (gs.set n (.pl v)) := by
  unfold mFrz
  cases gs[n]? with
  | none => rfl
  | some s => cases s <;> rfl
def fTt (v : Cv) : Option Cv := if ttv v = true then some v else none
theorem q_bor : mBor x gs = (x (gs.map thaw)).bind fTt := rfl
theorem q_borT : mBorT t gs = t (gs.map thaw) := rfl
theorem q_thO : thaw (.ow v) = .pl v := rfl
theorem q_thP : thaw (.pl v) = .pl v := rfl
theorem q_thN : thaw .no = .no := rfl
theorem fTt_ok (h : ttv v = true) : fTt v = some v := if_pos h
theorem q_ttI : fTt (.int k) = some (.int k) := rfl
theorem q_ttB : fTt (.bl c) = some (.bl c) := rfl
theorem q_ttS {z : Str} : fTt (.str z) = some (.str z) := rfl
def fApp (v : Cv) : Cv → Option Cv
  | .lst xs => if decide (xs.length < 1000000) = true then some (.lst (xs ++ [v])) else none
  | _ => none
def lstOnly : Cv → Option Cv
  | .lst xs => some (.lst xs)
  | _ => none
theorem q_append : mAppend n x gs = (slO gs[n]?).bind fun o => (lstOnly o).bind fun o => (x gs).bind fun v => (fApp v o).map fun o => .nx (gs.set n (.ow o)) := by
  unfold mAppend
  cases gs[n]? with
  | none => rfl
  | some s => cases s with
    | no => rfl
    | pl v => rfl
    | ow v => cases v <;> first | rfl | skip
              show (x gs).bind _ = (x gs).bind _
              congr 1; funext v
              show (if _ then _ else _) = Option.map _ (if _ then _ else _)
              split <;> rfl
theorem q_lstOnly : lstOnly (.lst xs) = some (.lst xs) := rfl
theorem q_fApp (h : xs.length < 1000000) : fApp v (.lst xs) = some (.lst (xs ++ [v])) := if_pos (decide_eq_true h)
def fExt : Cv → Cv → Option Cv
  | .lst zs, .lst xs => if lenOk (xs.length + zs.length) = true then some (.lst (xs ++ zs)) else none
  | _, _ => none
theorem q_extend : mExtend n x gs = (slO gs[n]?).bind fun o => (lstOnly o).bind fun o => (x gs).bind fun v => (fExt v o).map fun o => .nx (gs.set n (.ow o)) := by
  unfold mExtend
  cases gs[n]? with
  | none => rfl
  | some s => cases s with
    | no => rfl
    | pl v => rfl
    | ow v => cases v <;> first | rfl | skip
              show (x gs).bind _ = (x gs).bind _
              congr 1; funext v
              cases v <;> first | rfl | skip
              show (if _ then _ else _) = Option.map _ (if _ then _ else _)
              split <;> rfl
theorem q_fExt (h : xs.length + ys.length ≤ 1000000) : fExt (.lst ys) (.lst xs) = some (.lst (xs ++ ys)) := if_pos (decide_eq_true h)
theorem q_lc {te : ME} : mLc U G t te vs gs = (U gs).bind fun xs => (mLcL G t te (mwipe gs vs) xs).bind fLst := rfl
theorem q_lc2 {te : ME} {U1 : MA} {G1 : MG} {t1 : MT} {vs1 : List Nat} : mLc2 U G t U1 G1 t1 te vs vs1 gs = (U gs).bind fun xs => (mLc2L G t U1 G1 t1 te vs1 (mwipe gs vs) xs).bind fLst := rfl
theorem q_wipe0 : mwipe gs [] = gs := rfl
theorem q_wipe : mwipe gs (n :: vs) = (mwipe gs vs).set n .no := rfl
-- operations on constructors
theorem q_fI {h : Int → Int → Cv} : fI h (.int k) (.int l) = some (h k l) := rfl
theorem q_fIC {C : Int → Int → Bool} {h : Int → Int → Cv} (e : C k l = true) : fIC C h (.int k) (.int l) = some (h k l) := if_pos e
theorem q_mod (e : 0 < l) : fMod (.int k) (.int l) = some (.int (k % l)) := q_fIC (decide_eq_true e)
theorem q_addI : fAdd (.int k) (.int l) = some (.int (k + l)) := rfl
theorem q_addL (h : xs.length + ys.length ≤ 1000000) : fAdd (.lst xs) (.lst ys) = some (.lst (xs ++ ys)) := if_pos (decide_eq_true h)
theorem q_addT (h : xs.length + ys.length ≤ 1000000) : fAdd (.tup xs) (.tup ys) = some (.tup (xs ++ ys)) := if_pos (decide_eq_true h)
theorem q_eqI {h : Bool → Bool} : fEqB h (.int k) (.int l) = some (.bl (h (decide (k = l)))) := rfl
theorem q_eqS {h : Bool → Bool} {z z' : Str} : fEqB h (.str z) (.str z') = some (.bl (h (decide (z = z')))) := rfl
theorem q_eqD {h : Bool → Bool} (n1 : ∀ z z', v = .str z → w = .str z' → False) (n2 : ∀ z z', v = .int z → w = .int z' → False) (h1 : okD v = true) (h2 : okD w = true) : fEqB h v w = some (.bl (h (ceq v w))) := by
  unfold fEqB
  split
  · exact (n1 _ _ rfl rfl).elim
  · exact (n2 _ _ rfl rfl).elim
  · exact if_pos ⟨h1, h2⟩
theorem q_isNN {h : Bool → Bool} : fIsN h .non .non = some (.bl (h true)) := rfl
theorem q_isNI {h : Bool → Bool} : fIsN h (.int k) .non = some (.bl (h false)) := rfl
theorem q_isNT {h : Bool → Bool} : fIsN h (.tup xs) .non = some (.bl (h false)) := rfl
theorem q_isNS {h : Bool → Bool} {z : Str} : fIsN h (.str z) .non = some (.bl (h false)) := rfl
theorem q_isNB {h : Bool → Bool} : fIsN h (.bl c) .non = some (.bl (h false)) := rfl
theorem q_ixT : fIx (.tup xs) (.int k) = atI xs k := rfl
theorem q_ixL : fIx (.lst xs) (.int k) = atI xs k := rfl
theorem q_at0 : atI (v :: xs) (0 : Int) = some v := atI_nat (j := 0) rfl
theorem q_at1 {x1 : Cv} : atI (x1 :: v :: xs) (1 : Int) = some v := atI_nat (j := 1) rfl
theorem q_at2 {x1 x2 : Cv} : atI (x1 :: x2 :: v :: xs) (2 : Int) = some v := atI_nat (j := 2) rfl
theorem q_at3 {x1 x2 x3 : Cv} : atI (x1 :: x2 :: x3 :: v :: xs) (3 : Int) = some v := atI_nat (j := 3) rfl
theorem q_inL {ng : Bool} (h1 : flatC v = true) (h2 : xs.all flatC = true) : fInB ng v (.lst xs) = some (.bl (if ng = true then !(xs.any fun y => ceq y v) else xs.any fun y => ceq y v)) := if_pos ⟨h1, h2⟩
theorem q_neg : fNeg (.int k) = some (.int (-k)) := rfl
theorem q_cutT {lo hi : Option Int} : fCut (.tup xs) lo hi = some (.tup (cutC xs lo hi)) := rfl
theorem q_cutL {lo hi : Option Int} : fCut (.lst xs) lo hi = some (.lst (cutC xs lo hi)) := rfl
theorem q_lenT : fLen [.tup xs] = some (.int xs.length) := rfl
theorem q_lenL : fLen [.lst xs] = some (.int xs.length) := rfl
theorem q_lenR : fLen [.scr xs] = some (.int xs.length) := rfl
theorem q_ixR : fIx (.scr xs) (.int k) = atI xs k := rfl
theorem q_intB : fInt [.bl c] = some (.int (if c = true then 1 else 0)) := rfl
theorem q_abs : fAbs [.int k] = some (.int k.natAbs) := rfl
theorem q_intI : fInt [.int k] = some (.int k) := rfl
theorem q_tupL : fTupleOf [.lst xs] = some (.tup xs) := rfl
theorem q_tupT : fTupleOf [.tup xs] = some (.tup xs) := rfl
theorem q_listL : fListOf [.lst xs] = some (.lst xs) := rfl
theorem q_listT : fListOf [.tup xs] = some (.lst xs) := rfl
theorem q_max2 : fMax [.int k, .int l] = some (.int (max k l)) := rfl
theorem q_min2 : fMin [.int k, .int l] = some (.int (min k l)) := rfl
theorem q_maxL {ns : List Int} (h : ns ≠ []) : fMax [.lst (ns.map Cv.int)] = some (.int (lmax 0 ns)) := by
  show ((asInts (ns.map Cv.int)).bind fun ns => if ns = [] then none else some (Cv.int (lmax 0 ns))) = _
  rw [asInts_map]; exact if_neg h
theorem q_minL {ns : List Int} (h : ns ≠ []) : fMin [.lst (ns.map Cv.int)] = some (.int (lmin 0 ns)) := by
  show ((asInts (ns.map Cv.int)).bind fun ns => if ns = [] then none else some (Cv.int (lmin 0 ns))) = _
  rw [asInts_map]; exact if_neg h
theorem q_maxC {a : Int} {ns : List Int} : fMax [.lst (.int a :: ns.map Cv.int)] = some (.int (lmax 0 (a :: ns))) := q_maxL (ns := a :: ns) (by simp)
theorem q_minC {a : Int} {ns : List Int} : fMin [.lst (.int a :: ns.map Cv.int)] = some (.int (lmin 0 (a :: ns))) := q_minL (ns := a :: ns) (by simp)
theorem q_maxD {ns : List Int} : fMaxD [.lst (ns.map Cv.int)] [v] = some (match ns with | [] => v | ns => .int (lmax 0 ns)) := by
  show (asInts _).map _ = _
  rw [asInts_map]; rfl
theorem q_minD {ns : List Int} : fMinD [.lst (ns.map Cv.int)] [v] = some (match ns with | [] => v | ns => .int (lmin 0 ns)) := by
  show (asInts _).map _ = _
  rw [asInts_map]; rfl
theorem q_sum {ns : List Int} : fSum [.lst (ns.map Cv.int)] = some (.int ns.sum) := by
  show (asInts _).map _ = _
  rw [asInts_map]; rfl
theorem q_bools {h : List Bool → Bool} {bs : List Bool} : fBools h [.lst (bs.map Cv.bl)] = some (.bl (h bs)) := by
  show (asBools _).map _ = _
  rw [asBools_map]; rfl
theorem q_allM {α : Type} {h : α → Bool} {as : List α} : fAll [.lst (as.map fun a => .bl (h a))] = some (.bl (as.all h)) := by
  have e : (as.map fun a => Cv.bl (h a)) = (as.map h).map Cv.bl := by rw [List.map_map]; rfl
  rw [e]; show fBools _ _ = _
  rw [q_bools, List.all_map]; rfl
theorem q_anyM {α : Type} {h : α → Bool} {as : List α} : fAny [.lst (as.map fun a => .bl (h a))] = some (.bl (as.any h)) := by
  have e : (as.map fun a => Cv.bl (h a)) = (as.map h).map Cv.bl := by rw [List.map_map]; rfl
  rw [e]; show fBools _ _ = _
  rw [q_bools, List.any_map]; rfl
theorem q_maxM {α : Type} {h : α → Int} {as : List α} (n : as ≠ []) : fMax [.lst (as.map fun a => .int (h a))] = some (.int (lmax 0 (as.map h))) := by
  have e : (as.map fun a => Cv.int (h a)) = (as.map h).map Cv.int := by rw [List.map_map]; rfl
  rw [e, q_maxL (by simpa using n)]
theorem q_repr (h : rOk v = true) : fRepr [v] = some (.str (rp v)) := if_pos h
theorem q_tup0 : fTup [] = some (.tup []) := rfl
theorem q_tup1 : fTup [v] = some (.tup [v]) := rfl
theorem q_tup2 : fTup [v, w] = some (.tup [v, w]) := rfl
theorem q_tup3 {u : Cv} : fTup [v, w, u] = some (.tup [v, w, u]) := rfl
theorem q_tup4 {x1 x2 x3 x4 : Cv} : fTup [x1, x2, x3, x4] = some (.tup [x1, x2, x3, x4]) := rfl
theorem q_lst0 : fLst [] = some (.lst []) := rfl
theorem q_lst1 : fLst [v] = some (.lst [v]) := rfl
theorem q_lst2 : fLst [v, w] = some (.lst [v, w]) := rfl
theorem q_lst3 {u : Cv} : fLst [v, w, u] = some (.lst [v, w, u]) := rfl
theorem q_lst4 {x1 x2 x3 x4 : Cv} : fLst [x1, x2, x3, x4] = some (.lst [x1, x2, x3, x4]) := rfl
theorem q_lst5 {x0 x1 x2 x3 x4 : Cv} : fLst [x0, x1, x2, x3, x4] = some (.lst [x0, x1, x2, x3, x4]) := rfl
theorem q_tup5 {x0 x1 x2 x3 x4 : Cv} : fTup [x0, x1, x2, x3, x4] = some (.tup [x0, x1, x2, x3, x4]) := rfl
theorem q_lst6 {x0 x1 x2 x3 x4 x5 : Cv} : fLst [x0, x1, x2, x3, x4, x5] = some (.lst [x0, x1, x2, x3, x4, x5]) := rfl
theorem q_tup6 {x0 x1 x2 x3 x4 x5 : Cv} : fTup [x0, x1, x2, x3, x4, x5] = some (.tup [x0, x1, x2, x3, x4, x5]) := rfl
theorem q_lst7 {x0 x1 x2 x3 x4 x5 x6 : Cv} : fLst [x0, x1, x2, x3, x4, x5, x6] = some (.lst [x0, x1, x2, x3, x4, x5, x6]) := rfl
theorem q_tup7 {x0 x1 x2 x3 x4 x5 x6 : Cv} : fTup [x0, x1, x2, x3, x4, x5, x6] = some (.tup [x0, x1, x2, x3, x4, x5, x6]) := rfl
theorem q_lst8 {x0 x1 x2 x3 x4 x5 x6 x7 : Cv} : fLst [x0, x1, x2, x3, x4, x5, x6, x7] = some (.lst [x0, x1, x2, x3, x4, x5, x6, x7]) := rfl
theorem q_tup8 {x0 x1 x2 x3 x4 x5 x6 x7 : Cv} : fTup [x0, x1, x2, x3, x4, x5, x6, x7] = some (.tup [x0, x1, x2, x3, x4, x5, x6, x7]) := rfl
theorem q_lst9 {x0 x1 x2 x3 x4 x5 x6 x7 x8 : Cv} : fLst [x0, x1, x2, x3, x4, x5, x6, x7, x8] = some (.lst [x0, x1, x2, x3, x4, x5, x6, x7, x8]) := rfl
theorem q_lst10 {x0 x1 x2 x3 x4 x5 x6 x7 x8 x9 : Cv} : fLst [x0, x1, x2, x3, x4, x5, x6, x7, x8, x9] = some (.lst [x0, x1, x2, x3, x4, x5, x6, x7, x8, x9]) := rfl
theorem q_lst11 {x0 x1 x2 x3 x4 x5 x6 x7 x8 x9 x10 : Cv} : fLst [x0, x1, x2, x3, x4, x5, x6, x7, x8, x9, x10] = some (.lst [x0, x1, x2, x3, x4, x5, x6, x7, x8, x9, x10]) := rfl
theorem q_lst12 {x0 x1 x2 x3 x4 x5 x6 x7 x8 x9 x10 x11 : Cv} : fLst [x0, x1, x2, x3, x4, x5, x6, x7, x8, x9, x10, x11] = some (.lst [x0, x1, x2, x3, x4, x5, x6, x7, x8, x9, x10, x11]) := rfl
theorem q_rngI (h : -1000000000000000 ≤ k ∧ k ≤ 1000000000000000) : fRng1 [.int k] = some (iota 0 k.toNat) := if_pos (decide_eq_true h)
def outR : Rz → Option Cv
  | .rt v => some v
  | .nx _ => some .non
  | _ => none
theorem q_out : outM p gs = (p gs).bind outR := by
  unfold outM; congr 1
theorem q_outR : outR (.rt v) = some v := rfl
theorem q_outN : outR (.nx gs) = some .non := rfl
end
end CL
/-! CL21: list(x) owned; xs[::-1] -/
namespace CL
open PySem PySem.Spec PyProof.Rows L2
variable [LamT]
section
variable {X : Cx}
/-- list(x), owned -/
def cListOfO : CC := fun us S Q => match us with
  | [w] => (match deref w S with | some w => (match seqOf w with | some xs => ∀ p, S p = none → Q (.ref p) (S.set p (.lst xs)) | none => False) | none => False)
  | _ => False
theorem mo_listOfO : MonC cListOfO := fun us S Q Q' f h => by
  unfold cListOfO at h ⊢
  repeat' split at h
  all_goals first | exact h.elim | exact fun p hp => f _ _ (h p hp)
theorem b_listO : SC X (.type "list") cListOfO := sc_of mo_listOfO fun pins s σ H xs us Q Z S ws I rv ok re q => by
  unfold cListOfO at q
  split at q
  · cases re with
    | cons a b =>
      cases b
      split at q
      · rename_i w ew
        split at q
        · rename_i ys ey
          obtain ⟨p, vs, rfl, hs, rr⟩ := (deref_ok ok a ew).seq ey
          exact call_list_of pins s σ H _ us Q I rv ⟨p, vs, rfl, hs, fun l hl => q l (ok.free hl) _ _ (Fr.own hl) (ok.own hl ⟨_, upd_same, rr.fr (Fr.own hl)⟩) (.ref l)⟩
        · exact q.elim
      · exact q.elim
  · exact q.elim
theorem en_listO {ua : CA} {u : MA} (hu : EvA ua u) : EvN (cCB cListOfO ua) (mCB fListOf u) := ⟨cCB_mono mo_listOfO hu.mono, fun V e q => by
  obtain ⟨v1, e1, e⟩ := bind_some e
  refine hu.ok V e1 ?_
  unfold fListOf at e
  split at e
  · cases e; exact fun p hp => q p _ hp rfl
  · cases e; exact fun p hp => q p _ hp rfl
  · cases e⟩
/-- xs[::-1] -/
def kRev (Q : Cv → Sto → Prop) : Cv → Sto → Prop := fun w S1 => match deref w S1 with | some (.lst xs) => Q (.lst xs.reverse) S1 | _ => False
def cRevL (te : CE) : CE := fun ws S Q => te ws S (kRev Q)
theorem mo_revL {te : CE} (h : MonE te) : MonE (cRevL te) := fun ws S Q Q' f q => h _ _ _ _ (fun w S1 q1 => by
  unfold kRev at q1 ⊢
  split at q1
  · exact f _ _ q1
  · exact q1.elim) q
theorem s_revL {e : Expr} {te : CE} {k} {p1 p2 p3 pos} (he : SE X e te) : SE X (.Subscript e (.Slice none none (some (.UnaryOp .USub (.Constant (.int 1) k p1) p2)) p3) pos) (cRevL te) :=
  ⟨mo_revL he.mono, (pe_revL he.ok).imp fun σ H Q h => by
    obtain ⟨Z, S, ws, ok, re, h⟩ := h
    refine liftE_of he.mono ok re h fun x S1 v1 H1 f1 ok1 r1 q1 => ?_
    unfold kRev at q1
    split at q1
    · rename_i xs ex
      obtain ⟨a, vs, rfl, ha, rr⟩ := RepD.lstH (deref_ok ok1 r1 ex)
      exact ⟨a, vs, rfl, .inl (.inl ha), fun p hp => q1 _ _ (f1.trans (Fr.new hp)) (ok1.new hp) (.lst upd_same (ok1.free hp) (ok1.notZ hp) (rr.rev.fr (Fr.new hp)))⟩
    · exact q1.elim⟩
def fRev : Cv → Option Cv
  | .lst xs => some (.lst xs.reverse)
  | _ => none
def mRevL (a : ME) : ME := fun gs => (a gs).bind fRev
theorem ev_revL {te : CE} {a : ME} (h : Ev te a) : Ev (cRevL te) (mRevL a) := ⟨mo_revL h.mono, fun V e q => by
  obtain ⟨v, e1, e⟩ := bind_some e
  unfold fRev at e
  split at e
  · cases e
    exact h.ok V e1 q
  · cases e⟩
theorem q_revL {a : ME} {gs : MEnv} : mRevL a gs = (a gs).bind fRev := rfl
theorem q_fRev {xs : List Cv} : fRev (.lst xs) = some (.lst xs.reverse) := rfl
end
end CL
/-! CL22: words; rules with words for forms -/
namespace CL
open PySem PySem.Spec PyProof.Rows L2
variable [LamT]
/-- one to eight small letters -/
def isWord (x : Str) : Bool := decide (1 ≤ x.cps.size ∧ x.cps.size ≤ 8) && x.cps.toList.all fun c => decide (97 ≤ c ∧ c ≤ 122)
theorem forms8_word {x : Str} (h : x ∈ forms8) : isWord x = true := by
  simp only [forms8, List.mem_cons, List.not_mem_nil, or_false] at h
  rcases h with h | h | h | h | h | h | h | h <;> subst h <;> decide +kernel
theorem word_small {x : Str} (h : isWord x = true) : smallV (.str x) = true ∧ blk (.str x) ≤ 8 := by
  obtain ⟨h1, h2⟩ := Bool.and_eq_true_iff.mp h
  have h1 := of_decide_eq_true h1
  rw [List.all_eq_true] at h2
  refine ⟨?_, h1.2⟩
  show (PyData.strOk x && x.cps.toList.all fun c => decide (c < 16 ^ 8)) = true
  rw [Bool.and_eq_true]
  refine ⟨?_, ?_⟩
  · show x.cps.all (fun c => decide (c < 0x110000)) = true
    rw [← Array.all_toList, List.all_eq_true]
    intro c hc
    have := of_decide_eq_true (h2 c hc)
    exact decide_eq_true (by omega)
  · rw [List.all_eq_true]
    intro c hc
    have := of_decide_eq_true (h2 c hc)
    exact decide_eq_true (by omega)
def goodB (r : Rl) : Prop := r.rows.length ≤ 20 ∧ isWord r.last = true ∧ ∀ x ∈ r.rows, isWord x.1 = true ∧ goodD x.2
theorem goodR.B {r : Rl} (h : goodR r) : goodB r := ⟨h.1, forms8_word h.2.1, fun x hx => ⟨forms8_word (h.2.2 x hx).1, (h.2.2 x hx).2⟩⟩
structure Sn (r : Rl) : Prop where
  dp : ∀ x ∈ r.rows, dp x.2 < 8
  wd : ∀ x ∈ r.rows, wd x.2 ≤ 1000000
  rg : ∀ g ∈ insR r, okRg g
  many : (insR r).length ≤ 400000
  rows : r.rows.length ≤ 100000
theorem insB_len : ∀ l : List (Str × Cd), (∀ x ∈ l, goodD x.2) → (l.flatMap fun x => CL.ins x.2).length ≤ 6400 * l.length
  | [], _ => by simp
  | x :: l, hx => by
    have a := (hx x List.mem_cons_self).2.1
    have b := insB_len l fun y hy => hx y (List.mem_cons_of_mem _ hy)
    rw [List.flatMap_cons, List.length_append, List.length_cons]
    omega
theorem goodB.sn {r : Rl} (h : goodB r) : Sn r where
  dp := fun x hx => by have := (h.2.2 x hx).2.1; omega
  wd := fun x hx => by have := (h.2.2 x hx).2.2.2.2.1; omega
  rg := fun g hg => by
    obtain ⟨x, hx, hg⟩ := List.mem_flatMap.mp hg
    exact (h.2.2 x hx).2.2.2.1 g hg
  many := by
    have a := insB_len r.rows fun x hx => (h.2.2 x hx).2
    have b := h.1
    unfold insR
    omega
  rows := by have := h.1; omega
theorem goodB.rOk {r : Rl} (h : goodB r) : rOk (eR r) = true := by
  obtain ⟨h1, h2, h3⟩ := h
  obtain ⟨l1, l2⟩ := word_small h2
  have row : ∀ x ∈ r.rows, smallV (eRow x) = true ∧ dep (eRow x) ≤ 12 ∧ blk (eRow x) ≤ 6420 := fun x hx => by
    obtain ⟨a, b⟩ := h3 x hx
    obtain ⟨f1, f2⟩ := word_small a
    obtain ⟨c1, c2⟩ := smallV_enc x.2 b.2.2.1
    have c3 := b.1
    have c4 := b.2.2.2.2
    refine ⟨?_, ?_, ?_⟩
    · show (smallV (.str x.1) && (smallV (enc x.2) && true)) = true
      rw [f1, c1]; rfl
    · show max (dep (.str x.1)) (max (dep (enc x.2)) 0) + 1 ≤ 12
      have : dep (.str x.1) = 0 := rfl
      omega
    · show blk (.str x.1) + 1 + (blk (enc x.2) + 1 + 0) ≤ 6420
      omega
  have dl : ∀ l : List (Str × Cd), (∀ x ∈ l, dep (eRow x) ≤ 12) → deps (l.map eRow) ≤ 12 := fun l => by
    induction l with
    | nil => intro _; exact Nat.zero_le _
    | cons x l ih =>
      intro hx
      have a := hx x List.mem_cons_self
      have b := ih fun y hy => hx y (List.mem_cons_of_mem _ hy)
      show max (dep (eRow x)) (deps (l.map eRow)) ≤ 12
      omega
  have bl : ∀ l : List (Str × Cd), (∀ x ∈ l, blk (eRow x) ≤ 6420) → blks (l.map eRow) ≤ 6421 * l.length := fun l => by
    induction l with
    | nil => intro _; exact Nat.zero_le _
    | cons x l ih =>
      intro hx
      have a := hx x List.mem_cons_self
      have b := ih fun y hy => hx y (List.mem_cons_of_mem _ hy)
      show blk (eRow x) + 1 + blks (l.map eRow) ≤ _
      rw [List.length_cons]
      omega
  unfold CL.rOk
  rw [Bool.and_eq_true, Bool.and_eq_true]
  refine ⟨⟨?_, decide_eq_true ?_⟩, decide_eq_true ?_⟩
  · show (smallVs (r.rows.map eRow) && (smallV (.str r.last) && true)) = true
    rw [smallVs_map eRow _ fun x hx => (row x hx).1, l1]; rfl
  · show max (deps (r.rows.map eRow) + 1) (max (dep (.str r.last)) 0) + 1 ≤ 64
    have := dl r.rows fun x hx => (row x hx).2.1
    have e : dep (.str r.last) = 0 := rfl
    omega
  · show blks (r.rows.map eRow) + 1 + (blk (.str r.last) + 1 + 0) ≤ 500000
    have := bl r.rows fun x hx => (row x hx).2.2
    omega
/-! slices, by lists -/
theorem cut_take {xs : List Cv} {k : Nat} : cutC xs none (some (k : Int)) = xs.take k := by
  unfold cutC
  rw [HT.sIx_nat, HT.sIx_none, List.drop_zero, Nat.sub_zero]
  by_cases h : k ≤ xs.length
  · rw [Nat.min_eq_left h]
  · rw [Nat.min_eq_right (by omega), List.take_of_length_le (Nat.le_refl _), List.take_of_length_le (by omega)]
theorem cut_drop {xs : List Cv} {k : Nat} : cutC xs (some (k : Int)) none = xs.drop k := by
  unfold cutC
  rw [HT.sIx_nat, HT.sIx_none]
  by_cases h : k ≤ xs.length
  · rw [Nat.min_eq_left h, List.take_of_length_le (by simp)]
  · rw [Nat.min_eq_right (by omega), List.drop_length, List.drop_eq_nil_of_le (by omega), List.take_nil]
end CL
/-! XL1: computed readings with effects on objects of the def's own, and on its first parameter -/
namespace CL
open PySem PySem.Spec PyProof.Rows L2
variable [LamT]
/-- an outcome: a value, or what is raised -/
inductive Oc (α : Type) where
  | ok (a : α) (gs : MEnv)
  | ex (x : Ex) (gs : MEnv)
abbrev XE := MEnv → Option (Oc Cv)
abbrev XT := MEnv → Option (Oc Bool)
abbrev XA := MEnv → Option (Oc (List Cv))
abbrev WX' := Ex → CL.Env → Sto → Prop
def bx {α β : Type} (o : Option (Oc α)) (f : α → MEnv → Option (Oc β)) : Option (Oc β) := match o with
  | some (.ok a gs) => f a gs
  | some (.ex x gs) => some (.ex x gs)
  | none => none
def OutX {α : Type} (W : WX') (B : Sto) (ws : CL.Env) (Q : α → Sto → Prop) : Oc α → Prop
  | .ok a gs => ∀ S, View B S gs ws → Q a S
  | .ex x gs => ∀ S, View B S gs ws → W x ws S
structure EvX (W : WX') (te : CE) (φ : XE) : Prop where
  mono : MonE te
  ok : ∀ {B S gs ws Q r}, View B S gs ws → φ gs = some r → OutX W B ws Q r → te ws S Q
structure EvXT (W : WX') (te : CT) (φ : XT) : Prop where
  mono : MonT te
  ok : ∀ {B S gs ws Q r}, View B S gs ws → φ gs = some r → OutX W B ws Q r → te ws S Q
structure EvXA (W : WX') (te : CA) (φ : XA) : Prop where
  mono : MonA te
  ok : ∀ {B S gs ws Q r}, View B S gs ws → φ gs = some r → OutX W B ws Q r → te ws S Q
structure EvXI (W : WX') (te : CI) (φ : XA) : Prop where
  mono : MonI te
  ok : ∀ {B S gs ws Q r}, View B S gs ws → φ gs = some r → OutX W B ws (fun xs S => Q xs (fun _ => True) S) r → te ws S Q
/-- a new object -/
def OutN (W : WX') (B : Sto) (ws : CL.Env) (Q : Cv → Sto → Prop) : Oc Cv → Prop
  | .ok v gs => ∀ S, View B S gs ws → ∀ p o, S p = none → obv o = some v → Q (.ref p) (S.set p o)
  | .ex x gs => ∀ S, View B S gs ws → W x ws S
structure EvXN (W : WX') (te : CE) (φ : XE) : Prop where
  mono : MonE te
  ok : ∀ {B S gs ws Q r}, View B S gs ws → φ gs = some r → OutN W B ws Q r → te ws S Q
theorem bx_some {α β : Type} {o : Option (Oc α)} {f : α → MEnv → Option (Oc β)} {r : Oc β} (h : bx o f = some r) : (∃ a gs, o = some (.ok a gs) ∧ f a gs = some r) ∨ ∃ x gs, o = some (.ex x gs) ∧ r = .ex x gs := by
  unfold bx at h
  split at h
  · exact .inl ⟨_, _, rfl, h⟩
  · cases h; exact .inr ⟨_, _, rfl, rfl⟩
  · cases h
def xp (a : ME) : XE := fun gs => (a gs).map fun v => .ok v gs
def xpT (a : MT) : XT := fun gs => (a gs).map fun v => .ok v gs
def xpA (a : MA) : XA := fun gs => (a gs).map fun v => .ok v gs
def lift {α : Type} (o : Option α) (gs : MEnv) : Option (Oc α) := o.map fun v => .ok v gs
theorem lift_some {α : Type} {o : Option α} {gs : MEnv} {r : Oc α} (h : lift o gs = some r) : ∃ v, o = some v ∧ r = .ok v gs := by
  obtain ⟨v, e, h⟩ := map_some' h
  exact ⟨v, e, h.symm⟩
def xOp (f : Cv → Cv → Option Cv) (a b : XE) : XE := fun gs => bx (a gs) fun x g1 => bx (b g1) fun y g2 => lift (f x y) g2
def xUn (f : Cv → Option Cv) (a : XE) : XE := fun gs => bx (a gs) fun x g1 => lift (f x) g1
def xB (a : XE) : XT := fun gs => bx (a gs) fun x g1 => lift (fB x) g1
def xNot (a : XT) : XT := fun gs => bx (a gs) fun x g1 => some (.ok (!x) g1)
def xIte {α : Type} (c : Bool) (a b : MEnv → Option α) (gs : MEnv) : Option α := if c = true then a gs else b gs
def xAnd (a b : XT) : XT := fun gs => bx (a gs) fun x g1 => xIte x b (fun g => some (.ok false g)) g1
def xOr (a b : XT) : XT := fun gs => bx (a gs) fun x g1 => xIte x (fun g => some (.ok true g)) b g1
def xNotV (a : XE) : XE := fun gs => bx (a gs) fun x g1 => lift ((fB x).map fun b => .bl (!b)) g1
def xAndV (a b : XE) : XE := fun gs => bx (a gs) fun x g1 => (fB x).bind fun c => xIte c b (fun g => some (.ok (.bl false) g)) g1
def xOrV (a b : XE) : XE := fun gs => bx (a gs) fun x g1 => (fB x).bind fun c => xIte c (fun g => some (.ok (.bl true) g)) b g1
def xIf (c : XT) (a b : XE) : XE := fun gs => bx (c gs) fun x g1 => xIte x a b g1
def xNil : XA := fun gs => some (.ok [] gs)
def xCons (a : XE) (u : XA) : XA := fun gs => bx (a gs) fun x g1 => bx (u g1) fun r g2 => some (.ok (x :: r) g2)
def xTup (u : XA) : XE := fun gs => bx (u gs) fun r g => lift (fTup r) g
def xLst (u : XA) : XE := fun gs => bx (u gs) fun r g => lift (fLst r) g
def xCB (f : List Cv → Option Cv) (u : XA) : XE := fun gs => bx (u gs) fun r g => lift (f r) g
section
variable {W : WX'} {ta tb tc te : CE} {ua ub : CA} {c c' : CT} {a b d : XE} {u z : XA} {x y : XT} {r r' : C2} {f f' : Cv → Cv → Option Cv}
theorem ex_p {m : ME} (h : Ev te m) : EvX W te (xp m) := ⟨h.mono, fun V e q => by
  obtain ⟨v, e1, e⟩ := map_some' e
  subst e
  exact h.ok V e1 (q _ V)⟩
theorem xt_p {m : MT} (h : EvT c m) : EvXT W c (xpT m) := ⟨h.mono, fun V e q => by
  obtain ⟨v, e1, e⟩ := map_some' e
  subst e
  exact h.ok V e1 (q _ V)⟩
theorem xi_p {ti : CI} {m : MA} (h : EvI ti m) : EvXI W ti (xpA m) := ⟨h.mono, fun V e q => by
  obtain ⟨v, e1, e⟩ := map_some' e
  subst e
  exact h.ok V e1 (q _ V)⟩
theorem ex_op (h : E2 r f) (ha : EvX W ta a) (hb : EvX W tb b) : EvX W (cOp r ta tb) (xOp f a b) := ⟨cOp_mono h.mono ha.mono hb.mono, fun V e q => by
  rcases bx_some e with ⟨v1, g1, e1, e⟩ | ⟨x, g1, e1, rfl⟩
  · refine ha.ok V e1 fun S1 V1 => ?_
    rcases bx_some e with ⟨v2, g2, e2, e⟩ | ⟨x, g2, e2, rfl⟩
    · refine hb.ok V1 e2 fun S2 V2 => ?_
      obtain ⟨v, e3, rfl⟩ := lift_some e
      exact h.ok e3 (q _ V2)
    · exact hb.ok V1 e2 q
  · exact ha.ok V e1 q⟩
theorem ex_if (hc : EvXT W c x) (ha : EvX W ta a) (hb : EvX W tb b) : EvX W (cIf c ta tb) (xIf x a b) := ⟨mo_if hc.mono ha.mono hb.mono, fun V e q => by
  rcases bx_some e with ⟨v1, g1, e1, e⟩ | ⟨x, g1, e1, rfl⟩
  · refine hc.ok V e1 fun S1 V1 => ?_
    cases v1 with
    | true => exact ha.ok V1 e q
    | false => exact hb.ok V1 e q
  · exact hc.ok V e1 q⟩
theorem xa_nil : EvXA W cNil xNil := ⟨mo_nil, fun V e q => by cases e; exact q _ V⟩
theorem xa_cons (ha : EvX W ta a) (hu : EvXA W ua u) : EvXA W (cCons ta ua) (xCons a u) := ⟨mo_cons ha.mono hu.mono, fun V e q => by
  rcases bx_some e with ⟨v1, g1, e1, e⟩ | ⟨x, g1, e1, rfl⟩
  · refine ha.ok V e1 fun S1 V1 => ?_
    rcases bx_some e with ⟨v2, g2, e2, e⟩ | ⟨x, g2, e2, rfl⟩
    · refine hu.ok V1 e2 fun S2 V2 => ?_
      cases e
      exact q _ V2
    · exact hu.ok V1 e2 q
  · exact ha.ok V e1 q⟩
theorem ex_tup (hu : EvXA W ua u) : EvX W (cTup ua) (xTup u) := ⟨mo_tup hu.mono, fun V e q => by
  rcases bx_some e with ⟨v1, g1, e1, e⟩ | ⟨x, g1, e1, rfl⟩
  · refine hu.ok V e1 fun S1 V1 => ?_
    obtain ⟨v, e3, rfl⟩ := lift_some e
    obtain ⟨h1, e3⟩ := ite_some e3
    subst e3
    exact ⟨sz_of h1, q _ V1⟩
  · exact hu.ok V e1 q⟩
theorem ex_lst (hu : EvXA W ua u) : EvX W (cLst ua) (xLst u) := ⟨mo_lst hu.mono, fun V e q => by
  rcases bx_some e with ⟨v1, g1, e1, e⟩ | ⟨x, g1, e1, rfl⟩
  · refine hu.ok V e1 fun S1 V1 => ?_
    obtain ⟨v, e3, rfl⟩ := lift_some e
    obtain ⟨h1, e3⟩ := ite_some e3
    subst e3
    exact ⟨sz_of h1, q _ V1⟩
  · exact hu.ok V e1 q⟩
theorem ex_cb {rc : CC} {f : List Cv → Option Cv} (h : EC rc f) (hu : EvXA W ua u) : EvX W (cCB rc ua) (xCB f u) := ⟨cCB_mono h.mono hu.mono, fun V e q => by
  rcases bx_some e with ⟨v1, g1, e1, e⟩ | ⟨x, g1, e1, rfl⟩
  · refine hu.ok V e1 fun S1 V1 => ?_
    obtain ⟨v, e3, rfl⟩ := lift_some e
    exact h.ok e3 (q _ V1)
  · exact hu.ok V e1 q⟩
end
/-! ### new objects -/
section
variable {W : WX'} {te : CE} {ua : CA} {u : XA}
theorem xn_p {m : ME} (h : EvN te m) : EvXN W te (xp m) := ⟨h.mono, fun V e q => by
  obtain ⟨v, e1, e⟩ := map_some' e
  subst e
  exact h.ok V e1 (q _ V)⟩
theorem xn_lst (hu : EvXA W ua u) : EvXN W (cLstO ua) (xLst u) := ⟨mo_lstO hu.mono, fun V e q => by
  rcases bx_some e with ⟨v1, g1, e1, e⟩ | ⟨x, g1, e1, rfl⟩
  · refine hu.ok V e1 fun S1 V1 => ?_
    obtain ⟨v, e3, rfl⟩ := lift_some e
    obtain ⟨h1, e3⟩ := ite_some e3
    subst e3
    exact ⟨sz_of h1, fun p hp => q _ V1 p _ hp rfl⟩
  · exact hu.ok V e1 q⟩
end
/-! ### iterations -/
def xSeqI (a : XE) : XA := fun gs => bx (a gs) fun v g => lift (fSeq v) g
def xRng1 (u : XA) : XA := fun gs => bx (u gs) fun v g => lift (fRng1 v) g
def xRng2 (u : XA) : XA := fun gs => bx (u gs) fun v g => lift (fRng2 v) g
section
variable {W : WX'} {te : CE} {ua : CA} {u : XA} {a : XE}
theorem xi_rng1 (h : EvXA W ua u) : EvXI W (cRng1 ua) (xRng1 u) := ⟨mo_rng1 h.mono, fun V e q => by
  rcases bx_some e with ⟨v1, g1, e1, e⟩ | ⟨x, g1, e1, rfl⟩
  · refine h.ok V e1 fun S1 V1 => ?_
    obtain ⟨v, e3, rfl⟩ := lift_some e
    unfold fRng1 at e3
    split at e3
    · obtain ⟨h1, e3⟩ := ite_some e3
      subst e3
      exact ⟨rng_of h1, q _ V1⟩
    · cases e3
  · exact h.ok V e1 q⟩
end
/-- the slots behind a comprehension: its own as before, the others as it leaves them -/
def mrest (gs : MEnv) (gi : MEnv) : List Nat → MEnv
  | [] => gi
  | v :: vs => (mrest gs gi vs).set v (match gs[v]? with | some (.pl w) => .pl w | _ => .no)
def xLcL (g : MG) (tt : XT) (te : XE) (vs : List Nat) : List Cv → MEnv → Option (Oc (List Cv))
  | [], gs => some (.ok [] gs)
  | x :: r, gs => (g x gs).bind fun g1 => bx (tt g1) fun b g2 => xIte b (fun g2 => bx (te g2) fun y g3 => bx (xLcL g tt te vs r (mwipe g3 vs)) fun ys g4 => some (.ok (y :: ys) g4)) (fun g2 => xLcL g tt te vs r (mwipe g2 vs)) g2
theorem mrest_len {gs gi : MEnv} : ∀ vs, (mrest gs gi vs).length = gi.length
  | [] => rfl
  | v :: vs => by rw [mrest, List.length_set, mrest_len vs]
theorem cwipe_len {ws : CL.Env} : ∀ vs, (cwipe ws vs).length = ws.length
  | [] => rfl
  | v :: vs => by show ((cwipe ws vs).set v none).length = _; rw [List.length_set, cwipe_len vs]
theorem cwipe_ne {ws : CL.Env} {j : Nat} : ∀ {vs : List Nat}, j ∉ vs → (cwipe ws vs)[j]? = ws[j]?
  | [], _ => rfl
  | v :: vs, h => by
    show ((cwipe ws vs).set v none)[j]? = _
    rw [List.getElem?_set_ne (fun e => h (by rw [e]; exact List.mem_cons_self)), cwipe_ne fun m => h (List.mem_cons_of_mem _ m)]
theorem View.rest {B S0 S : Sto} {gs gi : MEnv} {ws : CL.Env} {vs : List Nat} (V0 : View B S0 gs ws) (V : View B S gi (cwipe ws vs)) : View B S (mrest gs gi vs) ws := by
  have hl : ws.length = gi.length := by rw [← V.len, cwipe_len]
  have key : ∀ (l : List Nat), (∀ v ∈ l, v ∈ vs) → ∀ (i : Nat) (s : Sl), (mrest gs gi l)[i]? = some s → i ∈ l → s = .no ∨ ∃ v, s = .pl v ∧ ws[i]? = some (some v) := by
    intro l
    induction l with
    | nil => intro _ i s _ h; cases h
    | cons v l ih =>
      intro hs i s e h
      rw [mrest] at e
      by_cases q : v = i
      · subst q
        have hi : v < (mrest gs gi l).length := by
          have := (List.getElem?_eq_some_iff.mp e).1
          simpa using this
        rw [List.getElem?_set_self hi] at e
        cases e
        split
        · rename_i w hw
          exact .inr ⟨w, rfl, V0.pl _ _ hw⟩
        · exact .inl rfl
      · rw [List.getElem?_set_ne q] at e
        exact ih (fun x hx => hs x (List.mem_cons_of_mem _ hx)) i s e ((List.mem_cons.mp h).resolve_left fun z => q z.symm)
  have key2 : ∀ (l : List Nat) (i : Nat), i ∉ l → (mrest gs gi l)[i]? = gi[i]? := by
    intro l
    induction l with
    | nil => intro i _; rfl
    | cons v l ih =>
      intro i h
      rw [mrest, List.getElem?_set_ne (fun e => h (by rw [e]; exact List.mem_cons_self)), ih i fun m => h (List.mem_cons_of_mem _ m)]
  refine V.upd (by rw [mrest_len]; exact hl) fun i s e => ?_
  by_cases h : i ∈ vs
  · rcases key vs (fun _ h => h) i s e h with z | ⟨v, z, y⟩
    · exact .inl z
    · exact .inr (.inl ⟨v, z, y⟩)
  · rw [key2 vs i h] at e
    exact .inr (.inr ⟨e, (cwipe_ne h).symm⟩)
/-- targets within a comprehension: they touch its own slots alone -/
structure EvGv (g : CG) (γ : MG) (vs : List Nat) : Prop where
  mono : MonG g
  ok : ∀ {B S gs ws Q gs' w}, View B S gs ws → γ w gs = some gs' → (∀ ws', View B S gs' ws' → cwipe ws' vs = cwipe ws vs → Q ws' S) → g w ws S Q
structure EvGsv (g : CGs) (γ : MGs) (vs : List Nat) : Prop where
  mono : MonGs g
  ok : ∀ {B S gs ws Q gs' w}, View B S gs ws → γ w gs = some gs' → (∀ ws', View B S gs' ws' → cwipe ws' vs = cwipe ws vs → Q ws' S) → g w ws S Q
theorem cwipe_get (ws : CL.Env) : ∀ (vs : List Nat) (j : Nat), (cwipe ws vs)[j]? = if j ∈ vs ∧ j < ws.length then some none else ws[j]?
  | [], j => by simp [cwipe]
  | v :: vs, j => by
    show ((cwipe ws vs).set v none)[j]? = _
    by_cases e : v = j
    · subst e
      by_cases hj : v < ws.length
      · rw [List.getElem?_set_self (by rw [cwipe_len]; exact hj)]
        simp [hj]
      · rw [List.getElem?_eq_none (by rw [List.length_set, cwipe_len]; omega)]
        simp [hj]
    · rw [List.getElem?_set_ne e, cwipe_get ws vs j]
      have e2 : ¬ j = v := fun q => e q.symm
      simp [e2]
theorem cwipe_set {ws : CL.Env} {vs : List Nat} {i : Nat} {o : Option Cv} (h : i ∈ vs) : cwipe (ws.set i o) vs = cwipe ws vs := by
  apply List.ext_getElem?
  intro j
  rw [cwipe_get, cwipe_get, List.length_set]
  by_cases q : i = j
  · subst q
    by_cases hl : i < ws.length
    · simp [h, hl]
    · simp [hl]
  · rw [List.getElem?_set_ne q]
theorem cwipe_twice {ws : CL.Env} {vs : List Nat} : cwipe (cwipe ws vs) vs = cwipe ws vs := by
  apply List.ext_getElem?
  intro j
  rw [cwipe_get, cwipe_get, cwipe_len]
  split <;> simp_all
theorem gv_name {i : Nat} {vs : List Nat} (h : i ∈ vs := by decide) : EvGv (cgName i) (mgName i) vs := ⟨mo_gname, fun V e q => by
  cases e
  exact q _ (V.set _ _) (cwipe_set h)⟩
theorem View.re {B S : Sto} {gs : MEnv} {ws ws0 : CL.Env} {vs : List Nat} (V : View B S gs ws) (c : cwipe ws vs = cwipe ws0 vs) : View B S (mwipe gs vs) (cwipe ws0 vs) := by
  rw [← c]; exact V.wipe vs
section
variable {W : WX'} {ti : CI} {g : CG} {tt : CT} {te : CE} {xi : XA} {mg : MG} {xt : XT} {xe : XE} {vs : List Nat}
theorem xlcL_m (hg : EvGv g mg vs) (ht : EvXT (fun _ _ _ => False) tt xt) (he : EvX (fun _ _ _ => False) te xe) {B : Sto} {ws : CL.Env} {Q : List Cv → Sto → Prop} : ∀ {xs acc : List Cv} {S gs r}, View B S gs (cwipe ws vs) → xLcL mg xt xe vs xs gs = some r →
    (∀ ys gs', r = .ok ys gs' → acc.length + ys.length ≤ sizeLine ∧ ∀ S', View B S' gs' (cwipe ws vs) → Q (acc ++ ys) S') → (∀ x gs', r ≠ .ex x gs') → lcL (fun _ => True) g tt te (cwipe ws vs) Q xs acc S
  | [], acc, S, gs, r, V, e, q, nx => by
    cases e
    have := (q _ _ rfl).2 S V
    rw [List.append_nil] at this
    exact ⟨True.intro, this⟩
  | x :: xs, acc, S, gs, r, V, e, q, nx => by
    obtain ⟨g1, e1, e⟩ := bind_some e
    rcases bx_some e with ⟨b, g2, e2, e⟩ | ⟨x, g2, e2, rfl⟩
    · refine ⟨True.intro, hg.ok V e1 fun ws1 V1 c1 => ht.ok V1 e2 fun S2 V2 => ?_⟩
      rw [cwipe_twice] at c1
      cases b with
      | true =>
        rcases bx_some e with ⟨y, g3, e3, e⟩ | ⟨x, g3, e3, rfl⟩
        · refine he.ok V2 e3 fun S3 V3 => ?_
          rcases bx_some e with ⟨ys, g4, e4, e⟩ | ⟨x, g4, e4, rfl⟩
          · cases e
            have h1 := (q _ _ rfl).1
            rw [List.length_cons] at h1
            refine ⟨by omega, xlcL_m hg ht he (V3.re c1) e4 (fun ys' gs' er => ?_) fun x gs' er => by cases er⟩
            cases er
            refine ⟨by rw [List.length_append, List.length_singleton]; omega, fun S' V' => ?_⟩
            rw [List.append_assoc]
            exact (q _ _ rfl).2 S' V'
          · exact absurd rfl (nx _ _)
        · exact absurd rfl (nx _ _)
      | false => exact xlcL_m hg ht he (V2.re c1) e q nx
    · exact absurd rfl (nx _ _)
end
end CL
/-! XL2: comprehensions, calls, statements -/
namespace CL
open PySem PySem.Spec PyProof.Rows L2
variable [LamT]
def noEx {α : Type} : Option (Oc α) → Option (Oc α)
  | some (.ok a gs) => some (.ok a gs)
  | _ => none
theorem noEx_some {α : Type} {o : Option (Oc α)} {r : Oc α} (h : noEx o = some r) : ∃ a gs, o = some (.ok a gs) ∧ r = .ok a gs := by
  unfold noEx at h
  split at h
  · cases h; exact ⟨_, _, rfl, rfl⟩
  · cases h
def xLcc (ti : XA) (g : MG) (tt : XT) (te : XE) (vs : List Nat) : XE := fun gs => bx (ti gs) fun xs g0 => bx (noEx (xLcL g tt te vs xs (mwipe g0 vs))) fun ys g1 => lift (fLst ys) (mrest g0 g1 vs)
section
variable {W : WX'} {ti : CI} {g : CG} {tt : CT} {te : CE} {xi : XA} {mg : MG} {xt : XT} {xe : XE} {vs : List Nat}
abbrev WF : WX' := fun _ _ _ => False
theorem ex_lc (hi : EvXI W ti xi) (hg : EvGv g mg vs) (ht : EvXT WF tt xt) (he : EvX WF te xe) : EvX W (cLc ti g tt te vs) (xLcc xi mg xt xe vs) := ⟨mo_lc hi.mono hg.mono ht.mono he.mono, fun {B S gs ws Q r} V e q => by
  rcases bx_some e with ⟨xs, g0, e1, e⟩ | ⟨x, g1, e1, rfl⟩
  · refine hi.ok V e1 fun S1 V1 => ?_
    rcases bx_some e with ⟨ys, g1, e2, e⟩ | ⟨x, g1, e2, rfl⟩
    · obtain ⟨_, _, e2, e3⟩ := noEx_some e2
      cases e3
      obtain ⟨v, e4, rfl⟩ := lift_some e
      obtain ⟨h1, e4⟩ := ite_some e4
      subst e4
      refine xlcL_m hg ht he (V1.wipe vs) e2 (fun ys' gs' er => ?_) fun x gs' er => by cases er
      cases er
      exact ⟨by simpa using sz_of h1, fun S' V' => q S' (V1.rest V')⟩
    · obtain ⟨_, _, _, e3⟩ := noEx_some e2
      cases e3
  · exact hi.ok V e1 q⟩
end
/-! ### calls that change their first argument; calls that give a new object -/
def spX (n : Nat) (m : List Cv → Option (Cv × Cv)) : CSp := fun us S Q _ => us.length = n ∧ ∃ p rest o st v st', us = .ref p :: rest ∧ S p = some o ∧ obv o = some st ∧ m (st :: rest) = some (v, st') ∧ ∀ o', obv o' = some st' → Q v (S.set p o')
theorem spX_mono {n : Nat} {m : List Cv → Option (Cv × Cv)} : MonSp (spX n m) := fun us S Q Q' E E' f g ⟨l, p, rest, o, st, v, st', a, b, c, d, q⟩ => ⟨l, p, rest, o, st, v, st', a, b, c, d, fun o' h => f _ _ (q o' h)⟩
def spN (n : Nat) (m : List Cv → Option Cv) : CSp := fun us S Q _ => us.length = n ∧ ∃ v, m us = some v ∧ ∀ p o, S p = none → obv o = some v → Q (.ref p) (S.set p o)
theorem spN_mono {n : Nat} {m : List Cv → Option Cv} : MonSp (spN n m) := fun us S Q Q' E E' f g ⟨l, v, a, q⟩ => ⟨l, v, a, fun p o h h' => f _ _ (q p o h h')⟩
def argX (n : Nat) (m : List Cv → Option (Cv × Cv)) (us : List Cv) : Option (Cv × Cv) := if us.length = n then m us else none
/-- f(the object in slot i, ..) -/
def xCall (n i : Nat) (m : List Cv → Option (Cv × Cv)) (u : XA) : XE := fun gs => (slO gs[i]?).bind fun _ => bx (u gs) fun us g1 => (slO g1[i]?).bind fun st => (argX n m (st :: us)).map fun r => .ok r.1 (g1.set i (.ow r.2))
theorem slO_some {o : Option Sl} {v : Cv} (h : slO o = some v) : o = some (.ow v) := by
  cases o with
  | none => cases h
  | some s => cases s <;> first | (cases h; done) | (cases h; rfl)
section
variable {W : WX'} {ua : CA} {u : XA} {te : CE} {a : XE}
theorem ex_callX {n i : Nat} {m : List Cv → Option (Cv × Cv)} {E} (hu : EvXA W ua u) : EvX W (cCall (spX n m) E (cCons (cVar i) ua)) (xCall n i m u) := ⟨mo_call spX_mono (mo_cons mo_var hu.mono), fun {B S gs ws Q r} V e q => by
  obtain ⟨s0, e0, e⟩ := bind_some e
  obtain ⟨p, o, w1, w2, w3, w4⟩ := V.ow _ _ (slO_some e0)
  refine x_call (x_ccons (x_var w1 ?_))
  rcases bx_some e with ⟨us, g1, e1, e⟩ | ⟨x, g1, e1, rfl⟩
  · obtain ⟨st, e2, e⟩ := bind_some e
    obtain ⟨rr, e3, e⟩ := map_some' e
    subst e
    have e2 := slO_some e2
    unfold argX at e3
    split at e3
    · rename_i hl
      refine hu.ok V e1 fun S1 V1 => ?_
      obtain ⟨p', o', f1, f2, f3, f4⟩ := V1.ow _ _ e2
      rw [w1] at f1
      cases f1
      exact ⟨by rw [List.length_cons] at hl ⊢; exact hl, p, us, o', st, rr.1, rr.2, rfl, f2, f3, e3, fun o2 ho => q _ (V1.chg e2 w1 ho)⟩
    · cases e3
  · exact hu.ok V e1 q⟩
theorem xn_call {n : Nat} {m : List Cv → Option Cv} {E} (hu : EvXA W ua u) : EvXN W (cCall (spN n m) E ua) (xCB (arg n m) u) := ⟨mo_call spN_mono hu.mono, fun V e q => by
  rcases bx_some e with ⟨us, g1, e1, e⟩ | ⟨x, g1, e1, rfl⟩
  · refine hu.ok V e1 fun S1 V1 => ?_
    obtain ⟨v, e3, rfl⟩ := lift_some e
    unfold arg at e3
    split at e3
    · exact ⟨by assumption, _, e3, q S1 V1⟩
    · cases e3
  · exact hu.ok V e1 q⟩
/-- x.pop(), x.pop(i), x an own list -/
def popF : Cv → Option (Cv × Cv)
  | .lst xs => (xs[xs.length - 1]?).map fun w => (w, .lst xs.dropLast)
  | _ => none
def popAtF : Cv → Cv → Option (Cv × Cv)
  | .lst xs, .int k => if decide (0 ≤ k ∧ k < 1000000) = true then (xs[k.toNat]?).map fun w => (w, .lst (xs.eraseIdx k.toNat)) else none
  | _, _ => none
def xPop (i : Nat) : XE := fun gs => (slO gs[i]?).bind fun o => (popF o).map fun r => .ok r.1 (gs.set i (.ow r.2))
def xPopAt (i : Nat) (a : XE) : XE := fun gs => ((slO gs[i]?).bind lstOnly).bind fun _ => bx (a gs) fun k g1 => (slO g1[i]?).bind fun o => (popAtF o k).map fun r => .ok r.1 (g1.set i (.ow r.2))
theorem ex_popAt {i : Nat} (ha : EvX W te a) : EvX W (cBM "list" cPopAt (cVar i) (cCons te cNil)) (xPopAt i a) := ⟨cBM_mono mo_popAt mo_var (mo_cons ha.mono mo_nil), fun V e q => by
  obtain ⟨o1, e0, e⟩ := bind_some e
  obtain ⟨o0, e0, eo⟩ := bind_some e0
  have e0 := slO_some e0
  obtain ⟨p, ob, w1, w2, w3, w4⟩ := V.ow _ _ e0
  obtain ⟨ys, rfl⟩ : ∃ ys, o0 = .lst ys := by
    cases o0 <;> first | exact ⟨_, rfl⟩ | cases eo
  cases obv_lst w3
  refine x_bmK (x_var w1 (x_kBM w2 (x_ccons ?_)))
  rcases bx_some e with ⟨k, g1, e1, e⟩ | ⟨x, g1, e1, rfl⟩
  · obtain ⟨o, e2, e⟩ := bind_some e
    obtain ⟨r, e3, e⟩ := map_some' e
    subst e
    have e2 := slO_some e2
    refine ha.ok V e1 fun S1 V1 => x_cnil ?_
    obtain ⟨p', ob', f1, f2, f3, f4⟩ := V1.ow _ _ e2
    rw [w1] at f1
    cases f1
    cases o with
    | lst xs =>
      cases k with
      | int k =>
        have e3' : (if decide (0 ≤ k ∧ k < 1000000) = true then (xs[k.toNat]?).map fun w => (w, Cv.lst (xs.eraseIdx k.toNat)) else none) = some r := e3
        split at e3'
        · rename_i hk
          have hk := of_decide_eq_true hk
          obtain ⟨w, hw, e4⟩ := map_some' e3'
          subst e4
          cases obv_lst f3
          have hl := (List.getElem?_eq_some_iff.mp hw).1
          refine ownL_to f2 ⟨⟨by omega, by omega⟩, ?_⟩
          have ei : ixN xs.length k = some k.toNat := by unfold ixN; rw [if_pos hk.1, if_pos (by omega)]
          rw [ei]
          show match xs[k.toNat]? with | some w => _ | none => False
          rw [hw]
          exact q _ (V1.chg e2 w1 rfl)
        · cases e3'
      | _ => cases e3
    | _ => cases e3
  · exact ha.ok V e1 q⟩
end
end CL
/-! XL3: statements with effects; a def's body -/
namespace CL
open PySem PySem.Spec PyProof.Rows L2
variable [LamT]
inductive Rx where
  | nx (gs : MEnv) | rt (v : Cv) (gs : MEnv) | ro (v : Cv) (gs : MEnv) | bk (gs : MEnv) | ct (gs : MEnv) | ex (x : Ex) (gs : MEnv)
abbrev XS := MEnv → Option Rx
/-- slots that keep their object -/
abbrev Pn := Nat → Bool
def p0 : Pn := fun i => i == 0
def pN : Pn := fun _ => false
abbrev PA' := Nat → Option Addr
def paN : PA' := fun _ => none
def pa0 (p : Addr) : PA' := fun k => if k = 0 then some p else none
structure XV (P : PA') (B S : Sto) (gs : MEnv) (ws : CL.Env) : Prop where
  v : View B S gs ws
  fx : ∀ k p, P k = some p → ws[k]? = some (some (.ref p))
def OutS (P : PA') (W : WX') (B : Sto) (D : CEnds) : Rx → Prop
  | .nx gs => ∀ S ws, XV P B S gs ws → D.nx ws S
  | .rt v gs => ∀ S ws, XV P B S gs ws → D.rt v S
  | .ro v gs => ∀ S ws, XV P B S gs ws → ∀ p o, S p = none → obv o = some v → D.rt (.ref p) (S.set p o)
  | .bk gs => ∀ S ws, XV P B S gs ws → D.bk ws S
  | .ct gs => ∀ S ws, XV P B S gs ws → D.ct ws S
  | .ex x gs => ∀ S ws, XV P B S gs ws → W x ws S
structure EvXS (b : Pn) (W : WX') (t : CS) (φ : XS) : Prop where
  mono : MonS t
  ok : ∀ {P B S gs ws D r}, (∀ k, P k ≠ none → b k = true) → XV P B S gs ws → φ gs = some r → OutS P W B D r → t D ws S
structure EvGx (b : Pn) (g : CG) (γ : MG) : Prop where
  mono : MonG g
  ok : ∀ {B S gs ws Q gs' w}, View B S gs ws → γ w gs = some gs' → (∀ ws', View B S gs' ws' → (∀ k, b k = true → ws'[k]? = ws[k]?) → Q ws' S) → g w ws S Q
structure EvGsx (b : Pn) (g : CGs) (γ : MGs) : Prop where
  mono : MonGs g
  ok : ∀ {B S gs ws Q gs' w}, View B S gs ws → γ w gs = some gs' → (∀ ws', View B S gs' ws' → (∀ k, b k = true → ws'[k]? = ws[k]?) → Q ws' S) → g w ws S Q
theorem XV.to {P : PA'} {B S S' : Sto} {gs gs' : MEnv} {ws ws' : CL.Env} {b : Pn} (V : XV P B S gs ws) (hb : ∀ k, P k ≠ none → b k = true) (V' : View B S' gs' ws') (h : ∀ k, b k = true → ws'[k]? = ws[k]?) : XV P B S' gs' ws' :=
  ⟨V', fun k p e => by rw [h k (hb k (by rw [e]; intro z; cases z))]; exact V.fx k p e⟩
theorem XV.same {P : PA'} {B S S' : Sto} {gs gs' : MEnv} {ws : CL.Env} (V : XV P B S gs ws) (V' : View B S' gs' ws) : XV P B S' gs' ws := ⟨V', V.fx⟩
section
variable {b : Pn}
theorem set_pin {b : Pn} {i k : Nat} {ws : CL.Env} {x : Option Cv} (h : b i = false) (hb : b k = true) : (ws.set i x)[k]? = ws[k]? := List.getElem?_set_ne fun z => by rw [z, hb] at h; cases h
theorem xg_name {i : Nat} (h : b i = false := by decide) : EvGx b (cgName i) (mgName i) := ⟨mo_gname, fun V e q => by
  cases e
  exact q _ (V.set _ _) fun k hb => set_pin h hb⟩
theorem xg_nil : EvGsx b cgNil mgNil := ⟨mo_gnil, fun V e q => by
  unfold mgNil at e
  split at e
  · cases e; exact ⟨rfl, q _ V fun _ _ => rfl⟩
  · cases e⟩
theorem xg_cons {g : CG} {gr : CGs} {m : MG} {mr : MGs} (hg : EvGx b g m) (hr : EvGsx b gr mr) : EvGsx b (cgCons g gr) (mgCons m mr) := ⟨mo_gcons hg.mono hr.mono, fun V e q => by
  unfold mgCons at e
  split at e
  · cases e
  · obtain ⟨v1, e1, e⟩ := bind_some e
    exact hg.ok V e1 fun ws' V' c => hr.ok V' e fun ws2 V2 c2 => q ws2 V2 fun k hb => (c2 k hb).trans (c k hb)⟩
theorem xg_tup {g : CGs} {m : MGs} {n : Nat} (hg : EvGsx b g m) : EvGx b (cgTup n g) (mgTup n m) := ⟨mo_gtup hg.mono, fun V e q => by
  unfold mgTup at e
  split at e
  · split at e
    · exact ⟨by assumption, hg.ok V e q⟩
    · cases e
  · cases e⟩
end
def sx {α : Type} (o : Option (Oc α)) (f : α → MEnv → Option Rx) : Option Rx := match o with
  | some (.ok a gs) => f a gs
  | some (.ex x gs) => some (.ex x gs)
  | none => none
theorem sx_some {α : Type} {o : Option (Oc α)} {f : α → MEnv → Option Rx} {r : Rx} (h : sx o f = some r) : (∃ a gs, o = some (.ok a gs) ∧ f a gs = some r) ∨ ∃ x gs, o = some (.ex x gs) ∧ r = .ex x gs := by
  unfold sx at h
  split at h
  · exact .inl ⟨_, _, rfl, h⟩
  · cases h; exact .inr ⟨_, _, rfl, rfl⟩
  · cases h
def xNext : XS := fun gs => some (.nx gs)
def xThen (q : XS) : Rx → Option Rx
  | .nx gs' => q gs'
  | r => some r
def xSeq (p q : XS) : XS := fun gs => (p gs).bind (xThen q)
def xAsg (a : XE) (g : MG) : XS := fun gs => sx (a gs) fun v g1 => (g v g1).map .nx
def xAsgN (a : XE) (i : Nat) : XS := fun gs => sx (a gs) fun v g1 => some (.nx (g1.set i (.ow v)))
def xDrop (a : XE) : XS := fun gs => sx (a gs) fun _ g1 => some (.nx g1)
def xRet (a : XE) : XS := fun gs => sx (a gs) fun v g1 => some (.rt v g1)
def xRetN : XS := fun gs => some (.rt .non gs)
def xRetO (a : XE) : XS := fun gs => sx (a gs) fun v g1 => some (.ro v g1)
def xIfS (c : XT) (a b : XS) : XS := fun gs => sx (c gs) fun x g1 => xIte x a b g1
def xBreak : XS := fun gs => some (.bk gs)
def xCont : XS := fun gs => some (.ct gs)
def xLoopK (vs : List Nat) (k : MEnv → Option Rx) : Rx → Option Rx
  | .nx gs2 => k (mwipe gs2 vs)
  | .ct gs2 => k (mwipe gs2 vs)
  | .bk gs2 => some (.nx (mwipe gs2 vs))
  | r => some r
def xForL (g : MG) (b : XS) (vs : List Nat) : List Cv → MEnv → Option Rx
  | [], gs => some (.nx gs)
  | x :: r, gs => (g x gs).bind fun gs1 => (b gs1).bind (xLoopK vs (xForL g b vs r))
def xFor (ti : XA) (g : MG) (b : XS) (vs : List Nat) : XS := fun gs => sx (ti gs) fun xs g0 => xForL g b vs xs (mwipe g0 vs)
def xAug (i : Nat) (a : XE) (f : Cv → Cv → Option Cv) : XS := fun gs => (slP gs[i]?).bind fun v => sx (a gs) fun y g1 => (f v y).map fun z => .nx (g1.set i (.pl z))
def xPar (i j : Nat) (u : XA) : XS := fun gs => sx (u gs) fun us g1 => match us with | [x, y] => some (.nx ((g1.set i (.pl x)).set j (.pl y))) | _ => none
def xPar3 (i j l : Nat) (u : XA) : XS := fun gs => sx (u gs) fun us g1 => match us with | [x, y, z] => some (.nx (((g1.set i (.pl x)).set j (.pl y)).set l (.pl z))) | _ => none
def xParO (i j : Nat) (u : MAo) : XS := fun gs => (u gs).bind fun us => match us with | [x, y] => some (.nx ((gs.set i x).set j y)) | _ => none
def xParO3 (i j l : Nat) (u : MAo) : XS := fun gs => (u gs).bind fun us => match us with | [x, y, z] => some (.nx (((gs.set i x).set j y).set l z)) | _ => none
def xFrz (i : Nat) (q : XS) : XS := fun gs => (slO gs[i]?).bind fun v => q (gs.set i (.pl v))
section
variable {b : Pn} {W : WX'} {t t' : CS} {m m' : XS} {te : CE} {a : XE} {g : CG} {mg : MG} {c : CT} {mc : XT} {ti : CI} {mi : XA} {vs : List Nat} {ua : CA} {u : XA}
theorem ss_next : EvXS b W cNext xNext := ⟨mo_next, fun _ V e q => by cases e; exact q _ _ V⟩
theorem ss_seq (h : EvXS b W t m) (h' : EvXS b W t' m') : EvXS b W (cSeq t t') (xSeq m m') := ⟨cSeq_mono h.mono h'.mono, fun {P B S gs ws D r} hb V e q => by
  obtain ⟨r1, e1, e⟩ := bind_some e
  refine h.ok (D := { D with nx := t' D }) hb V e1 ?_
  cases r1 with
  | nx gs1 => exact fun S1 ws1 V1 => h'.ok hb V1 e q
  | _ => cases e; exact q⟩
theorem ss_asgX (h : EvX W te a) (hg : EvGx b g mg) : EvXS b W (cAsg te g) (xAsg a mg) := ⟨cAsg_mono h.mono hg.mono, fun hb V e q => by
  rcases sx_some e with ⟨v, g1, e1, e⟩ | ⟨x, g1, e1, rfl⟩
  · obtain ⟨gs1, e2, e⟩ := map_some' e
    subst e
    exact h.ok V.v e1 fun S1 V1 => hg.ok V1 e2 fun ws' V' c => q _ _ (V.to hb V' c)
  · exact h.ok V.v e1 fun S1 V1 => q _ _ (V.same V1)⟩
theorem ss_asgN {i : Nat} (h : EvXN W te a) (hi : b i = false := by decide) : EvXS b W (cAsg te (cgName i)) (xAsgN a i) := ⟨cAsg_mono h.mono mo_gname, fun hb V e q => by
  rcases sx_some e with ⟨v, g1, e1, e⟩ | ⟨x, g1, e1, rfl⟩
  · cases e
    exact h.ok V.v e1 fun S1 V1 p o hp ho => q _ _ (V.to hb (V1.own i hp ho) fun k hb2 => set_pin hi hb2)
  · exact h.ok V.v e1 fun S1 V1 => q _ _ (V.same V1)⟩
theorem ss_ret' (h : EvX W te a) : EvXS b W (cRet te) (xRet a) := ⟨mo_ret h.mono, fun hb V e q => by
  rcases sx_some e with ⟨v, g1, e1, e⟩ | ⟨x, g1, e1, rfl⟩
  · cases e
    exact h.ok V.v e1 fun S1 V1 => q _ _ (V.same V1)
  · exact h.ok V.v e1 fun S1 V1 => q _ _ (V.same V1)⟩
theorem ss_retO (h : EvXN W te a) : EvXS b W (cRet te) (xRetO a) := ⟨mo_ret h.mono, fun hb V e q => by
  rcases sx_some e with ⟨v, g1, e1, e⟩ | ⟨x, g1, e1, rfl⟩
  · cases e
    exact h.ok V.v e1 fun S1 V1 p o hp ho => q _ _ (V.same V1) p o hp ho
  · exact h.ok V.v e1 fun S1 V1 => q _ _ (V.same V1)⟩
theorem ss_ifX (hc : EvXT W c mc) (h : EvXS b W t m) (h' : EvXS b W t' m') : EvXS b W (cIfS c t t') (xIfS mc m m') := ⟨mo_ifS hc.mono h.mono h'.mono, fun hb V e q => by
  rcases sx_some e with ⟨v, g1, e1, e⟩ | ⟨x, g1, e1, rfl⟩
  · refine hc.ok V.v e1 fun S1 V1 => ?_
    cases v with
    | true => exact h.ok hb (V.same V1) e q
    | false => exact h'.ok hb (V.same V1) e q
  · exact hc.ok V.v e1 fun S1 V1 => q _ _ (V.same V1)⟩
theorem XV.wipe {P : PA'} {B S : Sto} {gs : MEnv} {ws : CL.Env} (V : XV P B S gs ws) (vs : List Nat) : XV P B S (mwipe gs vs) ws := ⟨V.v.wipe1 vs, V.fx⟩
theorem xforL_m (hg : EvGx b g mg) (h : EvXS b W t m) {P : PA'} (hb : ∀ k, P k ≠ none → b k = true) {D : CEnds} {B : Sto} : ∀ {xs : List Cv} {S gs ws r}, XV P B S gs ws → xForL mg m vs xs gs = some r → OutS P W B D r → forL (fun _ => True) g t D xs ws S
  | [], S, gs, ws, r, V, e, q => by
    cases e
    exact ⟨True.intro, q _ _ V⟩
  | x :: xs, S, gs, ws, r, V, e, q => by
    obtain ⟨gs1, e1, e⟩ := bind_some e
    obtain ⟨r1, e2, e⟩ := bind_some e
    refine ⟨True.intro, hg.ok V.v e1 fun ws1 V1 c1 => h.ok (D := { D with nx := fun ws2 S2 => forL (fun _ => True) g t D xs ws2 S2, ct := fun ws2 S2 => forL (fun _ => True) g t D xs ws2 S2, bk := D.nx }) hb (V.to hb V1 c1) e2 ?_⟩
    cases r1 with
    | nx gs2 => exact fun S2 ws2 V2 => xforL_m hg h hb (V2.wipe vs) e q
    | ct gs2 => exact fun S2 ws2 V2 => xforL_m hg h hb (V2.wipe vs) e q
    | bk gs2 => cases e; exact fun S2 ws2 V2 => q _ _ (V2.wipe vs)
    | rt v gs2 => cases e; exact q
    | ro v gs2 => cases e; exact q
    | ex x gs2 => cases e; exact q
theorem ss_forX (hi : EvXI W ti mi) (hg : EvGx b g mg) (h : EvXS b W t m) : EvXS b W (cFor ti g t) (xFor mi mg m vs) := ⟨mo_for hi.mono hg.mono h.mono, fun hb V e q => by
  rcases sx_some e with ⟨v, g1, e1, e⟩ | ⟨x, g1, e1, rfl⟩
  · exact hi.ok V.v e1 fun S1 V1 => xforL_m hg h hb ((V.same V1).wipe vs) e q
  · exact hi.ok V.v e1 fun S1 V1 => q _ _ (V.same V1)⟩
theorem XV.set {P : PA'} {B S : Sto} {gs : MEnv} {ws : CL.Env} (V : XV P B S gs ws) (hb : ∀ k, P k ≠ none → b k = true) {i : Nat} (v : Cv) (hi : b i = false) : XV P B S (gs.set i (.pl v)) (ws.set i (some v)) :=
  V.to hb (V.v.set i v) fun k hb2 => set_pin hi hb2
end
end CL
/-! XL4: own objects by statements; a def's body -/
namespace CL
open PySem PySem.Spec PyProof.Rows L2
variable [LamT]
def xAppend (i : Nat) (a : XE) : XS := fun gs => ((slO gs[i]?).bind lstOnly).bind fun _ => sx (a gs) fun v g1 => (slO g1[i]?).bind fun o => (fApp v o).map fun o => .nx (g1.set i (.ow o))
def xExtend (i : Nat) (a : XE) : XS := fun gs => ((slO gs[i]?).bind lstOnly).bind fun _ => sx (a gs) fun v g1 => (slO g1[i]?).bind fun o => (fExt v o).map fun o => .nx (g1.set i (.ow o))
def fSetI : Cv → Cv → Cv → Option Cv
  | .lst xs, .int n, v => (ixN xs.length n).map fun j => .lst (xs.set j v)
  | _, _, _ => none
def xSetL (i : Nat) (k a : XE) : XS := fun gs => ((slO gs[i]?).bind lstOnly).bind fun _ => sx (a gs) fun v g1 => sx (k g1) fun n g2 => (slO g2[i]?).bind fun o => (fSetI o n v).map fun o => .nx (g2.set i (.ow o))
section
variable {b : Pn} {W : WX'} {t : CS} {m : XS} {te tk : CE} {a k : XE} {ua : CA}
theorem lst_slot {o : Option Sl} {w : Cv} (h : (slO o).bind lstOnly = some w) : ∃ xs, o = some (.ow (.lst xs)) := by
  obtain ⟨v, e, h⟩ := bind_some h
  have e := slO_some e
  cases v <;> first | exact ⟨_, e⟩ | cases h
theorem View.ref {B S S' : Sto} {gs gs' : MEnv} {ws : CL.Env} {i : Nat} {p : Addr} {v : Cv} (V : View B S gs ws) (hw : ws[i]? = some (some (.ref p))) (h : gs[i]? = some (.ow v)) : ∃ o, S p = some o ∧ obv o = some v := by
  obtain ⟨p', o, f1, f2, f3, _⟩ := V.ow _ _ h
  rw [hw] at f1; cases f1
  exact ⟨o, f2, f3⟩
theorem ss_append {i : Nat} (h : EvX W te a) : EvXS b W (cDrop (cBM "list" cAppend (cVar i) (cCons te cNil))) (xAppend i a) := ⟨mo_drop (cBM_mono mo_append mo_var (mo_cons h.mono mo_nil)), fun {P B S gs ws D r} hb V e q => by
  obtain ⟨w, e0, e⟩ := bind_some e
  obtain ⟨ys, e0⟩ := lst_slot e0
  obtain ⟨p, ob, w1, w2, w3, w4⟩ := V.v.ow _ _ e0
  cases obv_lst w3
  refine x_drop (x_bmK (x_var w1 (x_kBM w2 (x_ccons ?_))))
  rcases sx_some e with ⟨v, g1, e1, e⟩ | ⟨x, g1, e1, rfl⟩
  · refine h.ok V.v e1 fun S1 V1 => x_cnil ?_
    obtain ⟨o, e2, e⟩ := bind_some e
    obtain ⟨o2, e3, e⟩ := map_some' e
    subst e
    have e2 := slO_some e2
    obtain ⟨ob, f1, f2⟩ := V1.ref (S' := S1) (gs' := g1) w1 e2
    cases o with
    | lst xs =>
      obtain ⟨h1, e3⟩ := ite_some (show (if decide (xs.length < 1000000) = true then some (Cv.lst (xs ++ [v])) else none) = some o2 from e3)
      subst e3
      cases obv_lst f2
      exact x_append f1 (Nat.lt_of_lt_of_le (of_decide_eq_true h1) (by decide)) (q _ _ (V.same (V1.chg e2 w1 rfl)))
    | _ => cases e3
  · exact h.ok V.v e1 fun S1 V1 => q _ _ (V.same V1)⟩
theorem ss_setLX {i : Nat} (hk : EvX W tk k) (h : EvX W te a) : EvXS b W (cSetL (cVar i) tk te) (xSetL i k a) := ⟨mo_setL h.mono mo_var hk.mono, fun {P B S gs ws D r} hb V e q => by
  obtain ⟨w, e0, e⟩ := bind_some e
  obtain ⟨ys, e0⟩ := lst_slot e0
  obtain ⟨p, ob, w1, w2, w3, w4⟩ := V.v.ow _ _ e0
  refine x_setK ?_
  rcases sx_some e with ⟨v, g1, e1, e⟩ | ⟨x, g1, e1, rfl⟩
  · refine h.ok V.v e1 fun S1 V1 => x_var w1 ?_
    rcases sx_some e with ⟨n, g2, e2, e⟩ | ⟨x, g2, e2, rfl⟩
    · refine hk.ok V1 e2 fun S2 V2 => ?_
      obtain ⟨o, e3, e⟩ := bind_some e
      obtain ⟨o2, e4, e⟩ := map_some' e
      subst e
      have e3 := slO_some e3
      obtain ⟨ob, f1, f2⟩ := V2.ref (S' := S2) (gs' := g2) w1 e3
      cases o with
      | lst xs =>
        cases n with
        | int n =>
          obtain ⟨j, h1, e4⟩ := map_some' (show (ixN xs.length n).map (fun j => Cv.lst (xs.set j v)) = some o2 from e4)
          subst e4
          cases obv_lst f2
          exact x_kSet f1 h1 (q _ _ (V.same (V2.chg e3 w1 rfl)))
        | _ => cases e4
      | _ => cases n <;> cases e4
    · exact hk.ok V1 e2 fun S2 V2 => q _ _ (V.same V2)
  · exact h.ok V.v e1 fun S1 V1 => q _ _ (V.same V1)⟩
theorem ss_parOX {i j : Nat} {u : MAo} (h : EvAo ua u) (hi : b i = false := by decide) (hj : b j = false := by decide) : EvXS b W (cPar i j ua) (xParO i j u) := ⟨mo_par h.mono, fun {P B S gs ws D r} hb V e q => by
  obtain ⟨ss, e1, e⟩ := bind_some e
  refine h.ok V.v e1 fun S' us al => ?_
  split at e
  · cases e
    have hl := al.len
    match us, hl with
    | [x, y], _ =>
      obtain ⟨S1, V1, al⟩ := V.v.alloc1 i al
      obtain ⟨S2, V2, al⟩ := V1.alloc1 j al
      cases al
      refine q _ _ (V.to hb V2 fun k hb2 => ?_)
      rw [set_pin hj hb2, set_pin hi hb2]
  · cases e⟩
theorem ss_tupOX {i j : Nat} {u : MAo} (h : EvAo ua u) (hi : b i = false := by decide) (hj : b j = false := by decide) : EvXS b W (cAsg (cTup ua) (cgTup 2 (cgCons (cgName i) (cgCons (cgName j) cgNil)))) (xParO i j u) := ⟨cAsg_mono (mo_tup h.mono) (mo_gtup (mo_gcons mo_gname (mo_gcons mo_gname mo_gnil))), fun {P B S gs ws D r} hb V e q => by
  obtain ⟨ss, e1, e⟩ := bind_some e
  refine h.ok V.v e1 fun S' us al => ?_
  split at e
  · cases e
    have hl := al.len
    match us, hl with
    | [x, y], _ =>
      obtain ⟨S1, V1, al⟩ := V.v.alloc1 i al
      obtain ⟨S2, V2, al⟩ := V1.alloc1 j al
      cases al
      refine ⟨(by decide : 2 ≤ sizeLine), rfl, rfl, q _ _ (V.to hb V2 fun k hb2 => ?_)⟩
      rw [set_pin hj hb2, set_pin hi hb2]
  · cases e⟩
theorem View.frz {B S : Sto} {gs : MEnv} {ws : CL.Env} (V : View B S gs ws) {i : Nat} {p : Addr} {o : Ob} {v : Cv} (hv : gs[i]? = some (.ow v)) (e1 : ws[i]? = some (some (.ref p))) (e2 : S p = some o) (e4 : B p = none) : View B (S.del p) (gs.set i (.pl v)) (ws.set i (some v)) := by
  have hi : i < gs.length := (List.getElem?_eq_some_iff.mp hv).1
  refine ⟨by simp [V.len], fun j u eu => ?_, fun j u eu => ?_, fun j k u u' x n eu eu' a b => ?_, fun a o ea => ?_⟩
  · by_cases z : i = j
    · subst z
      rw [List.getElem?_set_self hi] at eu; cases eu
      rw [List.getElem?_set_self (by rw [V.len]; exact hi)]
    · rw [List.getElem?_set_ne z] at eu ⊢; exact V.pl _ _ eu
  · by_cases z : i = j
    · subst z
      rw [List.getElem?_set_self hi] at eu; cases eu
    · rw [List.getElem?_set_ne z] at eu ⊢
      obtain ⟨p', o', f1, f2, f3, f4⟩ := V.ow _ _ eu
      refine ⟨p', o', f1, ?_, f3, f4⟩
      rw [Sto.del_ne]; exact f2
      intro y; subst y
      exact V.dj i j _ _ _ z hv eu e1 f1
  · by_cases z : i = j
    · subst z; rw [List.getElem?_set_self hi] at eu; cases eu
    · by_cases z' : i = k
      · subst z'; rw [List.getElem?_set_self hi] at eu'; cases eu'
      · rw [List.getElem?_set_ne z] at eu a
        rw [List.getElem?_set_ne z'] at eu' b
        exact V.dj j k _ _ _ n eu eu' a b
  · have : a ≠ p := fun y => by subst y; rw [e4] at ea; cases ea
    rw [Sto.del_ne this]; exact V.base _ _ ea
theorem ss_frzX {i : Nat} (h : EvXS b W t m) (hi : b i = false := by decide) : EvXS b W (cFrz i t) (xFrz i m) := ⟨mo_frz h.mono, fun {P B S gs ws D r} hb V e q => by
  obtain ⟨v, hv, e⟩ := bind_some e
  have hv := slO_some hv
  obtain ⟨p, o, e1, e2, e3, e4⟩ := V.v.ow _ _ hv
  refine ⟨p, o, v, e1, e2, e3, h.ok hb (V.to hb ?_ fun k hb2 => set_pin hi hb2) e q⟩
  exact V.v.frz hv e1 e2 e4⟩
end
end CL
/-! XL5: a def's body with effects; step by step -/
namespace CL
open PySem PySem.Spec PyProof.Rows L2
variable [LamT]
def xstart (N : List Str) (st : Cv) (rest : List Cv) : MEnv := .ow st :: (rest.map Sl.pl ++ List.replicate (N.length - (rest.length + 1)) .no)
def outP : Rx → Option (Cv × Cv)
  | .rt v gs => (slO gs[0]?).map fun o => (v, o)
  | .nx gs => (slO gs[0]?).map fun o => (.non, o)
  | _ => none
def outV : Rx → Option Cv
  | .rt v _ => some v
  | .nx _ => some .non
  | _ => none
def outO : Rx → Option Cv
  | .ro v _ => some v
  | _ => none
def runP (N : List Str) (φ : XS) : List Cv → Option (Cv × Cv)
  | [] => none
  | st :: rest => (φ (xstart N st rest)).bind outP
def runV (N : List Str) (φ : XS) (us : List Cv) : Option Cv := (φ (mstart N us)).bind outV
def runN (N : List Str) (φ : XS) (us : List Cv) : Option Cv := (φ (mstart N us)).bind outO
theorem mstart_no {N : List Str} {us : List Cv} : ∀ (i : Nat) (v : Cv), (mstart N us)[i]? ≠ some (.ow v) := fun i v e => by
  unfold mstart at e
  by_cases h : i < us.length
  · rw [List.getElem?_append_left (by simpa using h), List.getElem?_map, List.getElem?_eq_getElem h] at e
    cases e
  · rw [List.getElem?_append_right (by simpa using h), List.getElem?_replicate] at e
    split at e <;> cases e
theorem View.first {S : Sto} {gs : MEnv} {ws : CL.Env} {p : Addr} {o : Ob} {st : Cv} (V : View S S gs ws) (hno : ∀ (i : Nat) (v : Cv), gs[i]? ≠ some (.ow v)) (hw : ws[0]? = some (some (.ref p))) (hS : S p = some o) (ho : obv o = some st) : View (S.del p) S (gs.set 0 (.ow st)) ws := by
  have h0 : 0 < gs.length := by
    have := (List.getElem?_eq_some_iff.mp hw).1
    rwa [V.len] at this
  refine ⟨by simp [V.len], fun i v e => ?_, fun i v e => ?_, fun i j u v q n e1 e2 a b => ?_, Sto.del_sub⟩
  · by_cases z : 0 = i
    · subst z; rw [List.getElem?_set_self h0] at e; cases e
    · rw [List.getElem?_set_ne z] at e; exact V.pl _ _ e
  · by_cases z : 0 = i
    · subst z; rw [List.getElem?_set_self h0] at e; cases e
      exact ⟨p, o, hw, hS, ho, Sto.del_same⟩
    · rw [List.getElem?_set_ne z] at e; exact (hno _ _ e).elim
  · by_cases z : 0 = i
    · have z2 : 0 ≠ j := fun y => n (z.symm.trans y)
      rw [List.getElem?_set_ne z2] at e2; exact hno _ _ e2
    · rw [List.getElem?_set_ne z] at e1; exact hno _ _ e1
theorem pa0_pin {p : Addr} {k : Nat} (h : pa0 p k ≠ none) : p0 k = true := by
  unfold pa0 at h
  split at h
  · rename_i e; rw [e]; rfl
  · exact absurd rfl h
theorem pa0_some {p q : Addr} {k : Nat} (h : pa0 p k = some q) : k = 0 ∧ p = q := by
  unfold pa0 at h
  split at h
  · exact ⟨by assumption, Option.some.inj h⟩
  · cases h
theorem PL.ofX {N ps : List Str} {t : CS} {φ : XS} (h : EvXS p0 WF t φ) (hN : N ≠ [] := by intro z; cases z) : PL N ps (spX ps.length (runP N φ)) t :=
  ⟨spX_mono, fun us S Q E ⟨l, _⟩ => l, fun us S Q E ⟨l, p, rest, o, st, v, st', e1, e2, e3, e4, q⟩ => by
    subst e1
    obtain ⟨r, e5, e⟩ := bind_some (show (φ (xstart N st rest)).bind outP = some (v, st') from e4)
    have V0 : View (S.del p) S (xstart N st rest) (cstart N (.ref p :: rest)) := by
      have := (view_start (S := S) (N := N) (us := .ref p :: rest)).first (p := p) (o := o) (st := st) mstart_no rfl e2 e3
      exact this
    have fin : ∀ {gs v' S' ws'}, XV (pa0 p) (S.del p) S' gs ws' → (slO gs[0]?).map (fun o => (v', o)) = some (v, st') → Hand S v' S' Q := by
      intro gs v' S' ws' V e
      obtain ⟨o1, e6, e⟩ := map_some' e
      cases e
      have e6 := slO_some e6
      obtain ⟨p', o', f1, f2, f3, _⟩ := V.v.ow _ _ e6
      rw [V.fx 0 p rfl] at f1
      cases f1
      refine ⟨S.set p o', _, fun a x ex => ?_, .inl rfl, q o' f3⟩
      by_cases z : a = p
      · subst z; rw [Sto.set_same] at ex; cases ex; exact f2
      · rw [Sto.set_ne z] at ex
        exact V.v.base a x (by rw [Sto.del_ne z]; exact ex)
    refine h.ok (P := pa0 p) (fun k hk => pa0_pin hk) ⟨V0, fun k p' ep => by obtain ⟨rfl, rfl⟩ := pa0_some ep; rfl⟩ e5 ?_
    cases r with
    | nx gs => exact fun S' ws' V => fin V e
    | rt v' gs => exact fun S' ws' V => fin V e
    | _ => cases e⟩
theorem PL.ofXV {N ps : List Str} {t : CS} {φ : XS} (h : EvXS pN WF t φ) : PL N ps (spM ps.length (runV N φ)) t :=
  ⟨spM_mono, fun us S Q E ⟨l, _⟩ => l, fun us S Q E ⟨l, v, e, q⟩ => by
    obtain ⟨r, e1, e⟩ := bind_some e
    refine h.ok (P := paN) (fun _ z => absurd rfl z) ⟨view_start, fun _ _ z => by cases z⟩ e1 ?_
    cases r with
    | nx gs => cases e; exact fun S' ws' V => ⟨S, _, V.v.base, .inl rfl, q⟩
    | rt v gs => cases e; exact fun S' ws' V => ⟨S, _, V.v.base, .inl rfl, q⟩
    | _ => cases e⟩
theorem PL.ofXN {N ps : List Str} {t : CS} {φ : XS} (h : EvXS pN WF t φ) : PL N ps (spN ps.length (runN N φ)) t :=
  ⟨spN_mono, fun us S Q E ⟨l, _⟩ => l, fun us S Q E ⟨l, v, e, q⟩ => by
    obtain ⟨r, e1, e⟩ := bind_some e
    refine h.ok (P := paN) (fun _ z => absurd rfl z) ⟨view_start, fun _ _ z => by cases z⟩ e1 ?_
    cases r with
    | ro v gs =>
      cases e
      intro S' ws' V p o hp ho
      have hSp : S p = none := by
        cases ez : S p with
        | none => rfl
        | some x => rw [V.v.base _ _ ez] at hp; cases hp
      refine ⟨S.set p o, _, fun a x ex => ?_, .inl rfl, q p o hSp ho⟩
      by_cases z : a = p
      · subst z; rw [Sto.set_same] at ex ⊢; exact ex
      · rw [Sto.set_ne z] at ex ⊢; exact V.v.base a x ex
    | _ => cases e⟩
end CL
/-! XL6: computed readings with effects, step by step -/
namespace CL
open PySem PySem.Spec PyProof.Rows L2
variable [LamT]
section
variable {α β : Type} {a b : XE} {t u : XT} {U : XA} {gs : MEnv} {p q : XS} {f g : Cv → Cv → Option Cv} {v w : Cv} {i j n : Nat} {xs : List Cv} {G : MG} {vs : List Nat} {x : Ex} {s : Sl} {c : Bool}
theorem w_bx {v : α} {k : α → MEnv → Option (Oc β)} : bx (some (.ok v gs)) k = k v gs := rfl
theorem w_bxe {k : α → MEnv → Option (Oc β)} : bx (some (.ex x gs)) k = some (.ex x gs) := rfl
theorem w_sx {v : α} {k : α → MEnv → Option Rx} : sx (some (.ok v gs)) k = k v gs := rfl
theorem w_sxe {k : α → MEnv → Option Rx} : sx (some (.ex x gs)) k = some (.ex x gs) := rfl
theorem w_lift {v : α} : lift (some v) gs = some (.ok v gs) := rfl
theorem w_iteT {A B : MEnv → Option α} : xIte true A B gs = A gs := rfl
theorem w_iteF {A B : MEnv → Option α} : xIte false A B gs = B gs := rfl
theorem w_iteN {A B : MEnv → Option α} : xIte (!c) A B gs = xIte c B A gs := by cases c <;> rfl
theorem w_p {m : ME} : xp m gs = lift (m gs) gs := rfl
theorem w_pT {m : MT} : xpT m gs = lift (m gs) gs := rfl
theorem w_pA {m : MA} : xpA m gs = lift (m gs) gs := rfl
theorem w_op : xOp f a b gs = bx (a gs) fun x g1 => bx (b g1) fun y g2 => lift (f x y) g2 := rfl
theorem w_un {h : Cv → Option Cv} : xUn h a gs = bx (a gs) fun x g1 => lift (h x) g1 := rfl
theorem w_b : xB a gs = bx (a gs) fun x g1 => lift (fB x) g1 := rfl
theorem w_not : xNot t gs = bx (t gs) fun x g1 => some (.ok (!x) g1) := rfl
theorem w_and : xAnd t u gs = bx (t gs) fun x g1 => xIte x u (fun g => some (.ok false g)) g1 := rfl
theorem w_or : xOr t u gs = bx (t gs) fun x g1 => xIte x (fun g => some (.ok true g)) u g1 := rfl
theorem w_notV : xNotV a gs = bx (a gs) fun x g1 => lift ((fB x).map fun b => .bl (!b)) g1 := rfl
theorem w_andV : xAndV a b gs = bx (a gs) fun x g1 => (fB x).bind fun c => xIte c b (fun g => some (.ok (.bl false) g)) g1 := rfl
theorem w_orV : xOrV a b gs = bx (a gs) fun x g1 => (fB x).bind fun c => xIte c (fun g => some (.ok (.bl true) g)) b g1 := rfl
theorem w_if : xIf t a b gs = bx (t gs) fun x g1 => xIte x a b g1 := rfl
theorem w_nil : xNil gs = some (.ok [] gs) := rfl
theorem w_cons : xCons a U gs = bx (a gs) fun x g1 => bx (U g1) fun r g2 => some (.ok (x :: r) g2) := rfl
theorem w_tup : xTup U gs = bx (U gs) fun r g => lift (fTup r) g := rfl
theorem w_lst : xLst U gs = bx (U gs) fun r g => lift (fLst r) g := rfl
theorem w_cb {h : List Cv → Option Cv} : xCB h U gs = bx (U gs) fun r g => lift (h r) g := rfl
theorem w_seqI : xSeqI a gs = bx (a gs) fun v g => lift (fSeq v) g := rfl
theorem w_rng1 : xRng1 U gs = bx (U gs) fun v g => lift (fRng1 v) g := rfl
theorem w_rng2 : xRng2 U gs = bx (U gs) fun v g => lift (fRng2 v) g := rfl
theorem w_lc {te : XE} : xLcc U G t te vs gs = bx (U gs) fun xs g0 => bx (noEx (xLcL G t te vs xs (mwipe g0 vs))) fun ys g1 => lift (fLst ys) (mrest g0 g1 vs) := rfl
theorem w_noEx {v : α} : noEx (some (.ok v gs)) = some (.ok v gs) := rfl
theorem w_lcL0 {te : XE} : xLcL G t te vs [] gs = some (.ok [] gs) := rfl
theorem w_lcL {te : XE} : xLcL G t te vs (v :: xs) gs = (G v gs).bind fun g1 => bx (t g1) fun b g2 => xIte b (fun g2 => bx (te g2) fun y g3 => bx (xLcL G t te vs xs (mwipe g3 vs)) fun ys g4 => some (.ok (y :: ys) g4)) (fun g2 => xLcL G t te vs xs (mwipe g2 vs)) g2 := rfl
theorem w_call {m : List Cv → Option (Cv × Cv)} : xCall n i m U gs = (slO gs[i]?).bind fun _ => bx (U gs) fun us g1 => (slO g1[i]?).bind fun st => (argX n m (st :: us)).map fun r => .ok r.1 (g1.set i (.ow r.2)) := rfl
theorem w_argX1 {m : List Cv → Option (Cv × Cv)} {x1 : Cv} : argX 1 m [x1] = m [x1] := rfl
theorem w_argX2 {m : List Cv → Option (Cv × Cv)} {x1 x2 : Cv} : argX 2 m [x1, x2] = m [x1, x2] := rfl
theorem w_argX3 {m : List Cv → Option (Cv × Cv)} {x1 x2 x3 : Cv} : argX 3 m [x1, x2, x3] = m [x1, x2, x3] := rfl
theorem w_argX4 {m : List Cv → Option (Cv × Cv)} {x1 x2 x3 x4 : Cv} : argX 4 m [x1, x2, x3, x4] = m [x1, x2, x3, x4] := rfl
theorem w_pop : xPop i gs = (slO gs[i]?).bind fun o => (popF o).map fun r => .ok r.1 (gs.set i (.ow r.2)) := rfl
theorem w_popAt : xPopAt i a gs = ((slO gs[i]?).bind lstOnly).bind fun _ => bx (a gs) fun k g1 => (slO g1[i]?).bind fun o => (popAtF o k).map fun r => .ok r.1 (g1.set i (.ow r.2)) := rfl
theorem w_nxt : xNext gs = some (.nx gs) := rfl
theorem w_seq : xSeq p q (s :: gs) = (p (s :: gs)).bind (xThen q) := rfl
theorem w_thN : xThen q (.nx gs) = q gs := rfl
theorem w_thR : xThen q (.rt v gs) = some (.rt v gs) := rfl
theorem w_thO : xThen q (.ro v gs) = some (.ro v gs) := rfl
theorem w_thB : xThen q (.bk gs) = some (.bk gs) := rfl
theorem w_thC : xThen q (.ct gs) = some (.ct gs) := rfl
theorem w_thE : xThen q (.ex x gs) = some (.ex x gs) := rfl
theorem w_asg : xAsg a G gs = sx (a gs) fun v g1 => (G v g1).map .nx := rfl
theorem w_asgN : xAsgN a i gs = sx (a gs) fun v g1 => some (.nx (g1.set i (.ow v))) := rfl
theorem w_drop : xDrop a gs = sx (a gs) fun _ g1 => some (.nx g1) := rfl
theorem w_ret : xRet a gs = sx (a gs) fun v g1 => some (.rt v g1) := rfl
theorem w_retN : xRetN gs = some (.rt .non gs) := rfl
theorem w_retO : xRetO a gs = sx (a gs) fun v g1 => some (.ro v g1) := rfl
theorem w_ifS : xIfS t p q gs = sx (t gs) fun x g1 => xIte x p q g1 := rfl
theorem w_brk : xBreak gs = some (.bk gs) := rfl
theorem w_cnt : xCont gs = some (.ct gs) := rfl
theorem w_for : xFor U G p vs gs = sx (U gs) fun xs g0 => xForL G p vs xs (mwipe g0 vs) := rfl
theorem w_forL0 : xForL G p vs [] gs = some (.nx gs) := rfl
theorem w_forL : xForL G p vs (v :: xs) gs = (G v gs).bind fun gs1 => (p gs1).bind (xLoopK vs (xForL G p vs xs)) := rfl
theorem w_lkN {k : MEnv → Option Rx} : xLoopK vs k (.nx gs) = k (mwipe gs vs) := rfl
theorem w_lkC {k : MEnv → Option Rx} : xLoopK vs k (.ct gs) = k (mwipe gs vs) := rfl
theorem w_lkB {k : MEnv → Option Rx} : xLoopK vs k (.bk gs) = some (.nx (mwipe gs vs)) := rfl
theorem w_lkR {k : MEnv → Option Rx} : xLoopK vs k (.rt v gs) = some (.rt v gs) := rfl
theorem w_lkO {k : MEnv → Option Rx} : xLoopK vs k (.ro v gs) = some (.ro v gs) := rfl
theorem w_lkE {k : MEnv → Option Rx} : xLoopK vs k (.ex x gs) = some (.ex x gs) := rfl
theorem w_aug : xAug i a f gs = (slP gs[i]?).bind fun v => sx (a gs) fun y g1 => (f v y).map fun z => .nx (g1.set i (.pl z)) := rfl
def h2 (k : Cv → Cv → Option Rx) : List Cv → Option Rx
  | [a, b] => k a b
  | _ => none
def h3 (k : Cv → Cv → Cv → Option Rx) : List Cv → Option Rx
  | [a, b, c] => k a b c
  | _ => none
def j2 (k : Sl → Sl → Option Rx) : List Sl → Option Rx
  | [a, b] => k a b
  | _ => none
def j3 (k : Sl → Sl → Sl → Option Rx) : List Sl → Option Rx
  | [a, b, c] => k a b c
  | _ => none
theorem w_h2 {k : Cv → Cv → Option Rx} : h2 k [v, w] = k v w := rfl
theorem w_h3 {k : Cv → Cv → Cv → Option Rx} {u : Cv} : h3 k [v, w, u] = k v w u := rfl
theorem w_j2 {k : Sl → Sl → Option Rx} {s1 s2 : Sl} : j2 k [s1, s2] = k s1 s2 := rfl
theorem w_j3 {k : Sl → Sl → Sl → Option Rx} {s1 s2 s3 : Sl} : j3 k [s1, s2, s3] = k s1 s2 s3 := rfl
theorem w_par : xPar i j U gs = sx (U gs) fun us g1 => h2 (fun x y => some (.nx ((g1.set i (.pl x)).set j (.pl y)))) us := by
  unfold xPar; congr 1
theorem w_par3 : xPar3 i j n U gs = sx (U gs) fun us g1 => h3 (fun x y z => some (.nx (((g1.set i (.pl x)).set j (.pl y)).set n (.pl z)))) us := by
  unfold xPar3; congr 1
theorem w_parO {V : MAo} : xParO i j V gs = (V gs).bind (j2 fun x y => some (.nx ((gs.set i x).set j y))) := by
  unfold xParO; congr 1
theorem w_parO3 {V : MAo} : xParO3 i j n V gs = (V gs).bind (j3 fun x y z => some (.nx (((gs.set i x).set j y).set n z))) := by
  unfold xParO3; congr 1
theorem w_frz : xFrz i q gs = (slO gs[i]?).bind fun v => q (gs.set i (.pl v)) := rfl
theorem w_append : xAppend i a gs = ((slO gs[i]?).bind lstOnly).bind fun _ => sx (a gs) fun v g1 => (slO g1[i]?).bind fun o => (fApp v o).map fun o => .nx (g1.set i (.ow o)) := rfl
theorem w_extend : xExtend i a gs = ((slO gs[i]?).bind lstOnly).bind fun _ => sx (a gs) fun v g1 => (slO g1[i]?).bind fun o => (fExt v o).map fun o => .nx (g1.set i (.ow o)) := rfl
theorem w_setL {k : XE} : xSetL i k a gs = ((slO gs[i]?).bind lstOnly).bind fun _ => sx (a gs) fun v g1 => sx (k g1) fun n g2 => (slO g2[i]?).bind fun o => (fSetI o n v).map fun o => .nx (g2.set i (.ow o)) := rfl
theorem w_set0 {y : Cv} {k : Int} {n : Nat} (h : ixN xs.length k = some n) : fSetI (.lst xs) (.int k) v = some (.lst (xs.set n v)) := by
  show (ixN xs.length k).map (fun j => Cv.lst (xs.set j v)) = _
  rw [h]; rfl
theorem w_setc0 {y : Cv} : fSetI (.lst (y :: xs)) (.int 0) v = some (.lst (v :: xs)) := w_set0 (y := y) (n := 0) (by unfold ixN; first | rfl | (rw [if_pos (by decide), if_pos (by simp)]; rfl) | (rw [if_pos (by decide), if_pos (by simp; omega)]; rfl))
theorem w_setc1 {y z : Cv} : fSetI (.lst (y :: z :: xs)) (.int 1) v = some (.lst (y :: v :: xs)) := w_set0 (y := y) (n := 1) (by unfold ixN; rw [if_pos (by decide), if_pos (by simp; omega)]; rfl)
theorem w_setc2 {y z u : Cv} : fSetI (.lst (y :: z :: u :: xs)) (.int 2) v = some (.lst (y :: z :: v :: xs)) := w_set0 (y := y) (n := 2) (by unfold ixN; rw [if_pos (by decide), if_pos (by simp; omega)]; rfl)
theorem q_mulN {k l : Int} (h : NB k 8000) (h' : NB l 8000) : fMul (.int k) (.int l) = some (.int (k * l)) := q_fIC (by unfold mulC; rw [mdOk_nb h, mdOk_nb h']; rfl)
theorem q_fdN {k l : Int} (h : 0 < l) (h' : NB l 8000) : fFd (.int k) (.int l) = some (.int (k / l)) := q_fIC (by unfold divC; rw [decide_eq_true h, mdOk_nb h']; rfl)
theorem q_powN {k l : Int} (h : NB k 8000) (h' : 0 ≤ l ∧ l ≤ 60) : fPow (.int k) (.int l) = some (.int (k ^ l.toNat)) := q_fIC (by unfold powC; rw [decide_eq_true h', mdOk_nb h]; rfl)
theorem w_runP {N : List Str} {st : Cv} {us : List Cv} : runP N p (st :: us) = (p (xstart N st us)).bind outP := rfl
theorem w_runV {N : List Str} {us : List Cv} : runV N p us = (p (mstart N us)).bind outV := rfl
theorem w_runN {N : List Str} {us : List Cv} : runN N p us = (p (mstart N us)).bind outO := rfl
theorem w_outP : outP (.rt v gs) = (slO gs[0]?).map fun o => (v, o) := rfl
theorem w_outPN : outP (.nx gs) = (slO gs[0]?).map fun o => (.non, o) := rfl
theorem w_outV : outV (.rt v gs) = some v := rfl
theorem w_outVN : outV (.nx gs) = some .non := rfl
theorem w_outO : outO (.ro v gs) = some v := rfl
theorem w_rest0 {gi : MEnv} : mrest gs gi [] = gi := rfl
theorem w_rest {gi : MEnv} : mrest gs gi (i :: vs) = (mrest gs gi vs).set i (match gs[i]? with | some (.pl w) => .pl w | _ => .no) := rfl
end
end CL
/-! XL7: the pot in computed readings -/
namespace CL
open PySem PySem.Spec PyProof.Rows L2
variable [LamT]
/-- the pot: what is left of the number, the seed, the count -/
def PotV (st : Cv) (b : Int) : Prop := ∃ o s n : Int, st = .lst [.int o, .int s, .int n] ∧ 0 ≤ o ∧ o < 10 ^ 300 ∧ 0 ≤ s ∧ s < 2 ^ 61 ∧ 0 ≤ n ∧ n ≤ b
theorem PotV.mono {st : Cv} {b c : Int} (h : PotV st b) (l : b ≤ c) : PotV st c := by
  obtain ⟨o, s, n, e, h1, h2, h3, h4, h5, h6⟩ := h
  exact ⟨o, s, n, e, h1, h2, h3, h4, h5, by omega⟩
/-- a comprehension that draws -/
theorem lc_draw {G : MG} {te : XE} {vs : List Nat} {rest : MEnv} (good : Cv → Prop) (C : Int) (hC : 0 ≤ C) : ∀ (xs : List Cv) (st : Cv) (b : Int), PotV st b →
    (∀ x ∈ xs, ∀ st1 b1, PotV st1 b1 → b ≤ b1 → b1 + C ≤ b + C * xs.length → ∃ y st2 r2, ((G x (.ow st1 :: rest)).bind te = some (.ok y (.ow st2 :: r2)) ∧ mwipe (.ow st2 :: r2) vs = .ow st2 :: rest) ∧ good y ∧ PotV st2 (b1 + C)) →
    ∃ ys st', xLcL G (xpT mYes) te vs xs (.ow st :: rest) = some (.ok ys (.ow st' :: rest)) ∧ ys.length = xs.length ∧ (∀ y ∈ ys, good y) ∧ PotV st' (b + C * xs.length)
  | [], st, b, hp, _ => ⟨[], st, rfl, rfl, fun _ h => (by cases h), by simpa using hp⟩
  | x :: xs, st, b, hp, h => by
    have e0 : C * (((x :: xs).length : Nat) : Int) = C * xs.length + C := by rw [List.length_cons]; push_cast; rw [Int.mul_add, Int.mul_one]
    have p0 : 0 ≤ C * (xs.length : Int) := Int.mul_nonneg hC (by omega)
    obtain ⟨y, st2, r2, ⟨e1, e2⟩, hy, hp2⟩ := h x List.mem_cons_self st b hp (Int.le_refl _) (by rw [e0]; omega)
    obtain ⟨g1, e3, e4⟩ := bind_some e1
    obtain ⟨ys, st', e5, hl, hg, hp3⟩ := lc_draw good C hC xs st2 (b + C) hp2 fun z hz st1 b1 h1 h2 h3 => h z (List.mem_cons_of_mem _ hz) st1 b1 h1 (by omega) (by rw [e0]; omega)
    refine ⟨y :: ys, st', ?_, by simp [hl], fun z hz => ?_, by rw [e0]; exact hp3.mono (by omega)⟩
    · rw [w_lcL, e3, Option.bind_some]
      show bx (xpT mYes g1) _ = _
      rw [show xpT mYes g1 = some (.ok true g1) from rfl, w_bx]
      show bx (te g1) _ = _
      rw [e4, w_bx, e2, e5, w_bx]
    · rcases List.mem_cons.mp hz with e | e
      · rw [e]; exact hy
      · exact hg z e
/-- a loop that runs through, by an invariant -/
theorem w_forNx {G : MG} {p : XS} {vs : List Nat} (I : List Cv → MEnv → Prop) (hs : ∀ x r gs, I (x :: r) gs → ∃ gs2, (G x gs).bind p = some (.nx gs2) ∧ I r (mwipe gs2 vs)) :
    ∀ (xs : List Cv) (gs : MEnv), I xs gs → ∃ gs', xForL G p vs xs gs = some (.nx gs') ∧ I [] gs'
  | [], gs, h => ⟨gs, rfl, h⟩
  | x :: xs, gs, h => by
    obtain ⟨gs2, e, h2⟩ := hs x xs gs h
    obtain ⟨g1, e1, e2⟩ := bind_some e
    obtain ⟨gs', e3, h3⟩ := w_forNx I hs xs _ h2
    exact ⟨gs', by rw [w_forL, e1, Option.bind_some, e2, Option.bind_some, w_lkN, e3], h3⟩
theorem q_eqNil {h : Bool → Bool} {xs : List Cv} (ok : okD (.lst xs) = true) : fEqB h (.lst xs) (.lst []) = some (.bl (h xs.isEmpty)) := by
  rw [q_eqD (by intro z z' e; cases e) (by intro z z' e; cases e) ok (by decide)]
  cases xs <;> rfl
theorem rowsB_small {l : List (Str × Cd)} (h : ∀ x ∈ l, isWord x.1 = true ∧ goodD x.2) : smallVs (l.map eRow) = true ∧ deps (l.map eRow) ≤ 12 := by
  induction l with
  | nil => exact ⟨rfl, Nat.zero_le _⟩
  | cons x l ih =>
    obtain ⟨a, b⟩ := h x List.mem_cons_self
    obtain ⟨i1, i2⟩ := ih fun y hy => h y (List.mem_cons_of_mem _ hy)
    obtain ⟨f1, f2⟩ := word_small a
    obtain ⟨c1, c2⟩ := smallV_enc x.2 b.2.2.1
    have c3 := b.1
    refine ⟨?_, ?_⟩
    · show ((smallV (.str x.1) && (smallV (enc x.2) && true)) && smallVs (l.map eRow)) = true
      rw [f1, c1, i1]; rfl
    · show max (max (dep (.str x.1)) (max (dep (enc x.2)) 0) + 1) (deps (l.map eRow)) ≤ 12
      have : dep (.str x.1) = 0 := rfl
      omega
theorem rowsB_okL {l : List (Str × Cd)} (h : ∀ x ∈ l, isWord x.1 = true ∧ goodD x.2) : okD (.lst (l.map eRow)) = true := by
  obtain ⟨a, b⟩ := rowsB_small h
  exact okD_small a (by show deps (l.map eRow) + 1 ≤ 64; omega)
mutual
theorem ttv_enc : ∀ c : Cd, ttv (enc c) = true
  | .rg _ _ _ => rfl
  | .no c => by rw [enc]; show (true && (ttv (enc c) && true)) = true; rw [ttv_enc c]; rfl
  | .al b cs => by rw [enc]; show (true && (ttvs (encs cs) && true)) = true; rw [ttv_encs cs]; rfl
theorem ttv_encs : ∀ cs : List Cd, ttvs (encs cs) = true
  | [] => rfl
  | c :: r => by rw [encs]; show (ttv (enc c) && ttvs (encs r)) = true; rw [ttv_enc c, ttv_encs r]; rfl
end
end CL
/-! CL23: dicts with keys that are ints or texts; sorted -/
namespace CL
open PySem PySem.Spec PyProof.Rows L2
variable [LamT]
/-! ### a hidden object of any plain kind changes -/
section
variable {K : Fg} {Z : List Addr} {S : Sto} {H : Hp}
mutual
theorem Rep.hidG {D : Addr} {o o' : HO} (hD : D ∈ Z) (hl : H D = some o) (pl : plainO o = true) : ∀ {w : Cv} {v : V}, Rep K Z S H w v → Rep K Z S (upd H D o') w v
  | _, _, .non => .non
  | _, _, .bl b => .bl b
  | _, _, .int i => .int i
  | _, _, .str x => .str x
  | _, _, .tup h n r => .tup (by
      rcases h with h | ⟨w, u, h⟩
      · exact .inl (by rw [upd_ne (ne_of h hl (by intro z; rw [← z] at pl; cases pl))]; exact h)
      · exact .inr ⟨w, u, by rw [upd_ne (ne_of h hl (by intro z; rw [← z] at pl; cases pl))]; exact h⟩) n (Reps.hidG hD hl pl r)
  | _, _, .tupK h r => .tupK h (Reps.hidG hD hl pl r)
  | _, _, .lst h n z r => .lst (by rw [upd_ne (fun q => z (by rw [q]; exact hD))]; exact h) n z (Reps.hidG hD hl pl r)
  | _, _, .scr h n r => .scr (by rw [upd_ne (ne_of h hl (by intro z; rw [← z] at pl; cases pl))]; exact h) n (Reps.hidG hD hl pl r)
  | _, _, .tupF h n r d => .tupF (by rw [upd_ne (ne_of h hl (by intro z; rw [← z] at pl; cases pl))]; exact h) n (Reps.hidG hD hl pl r) d
  | _, _, .scrK h r => .scrK h (Reps.hidG hD hl pl r)
  | _, _, .dK h n z e r => .dK (by rw [upd_ne (fun q => z (by rw [q]; exact hD))]; exact h) n z e (Reps.hidG hD hl pl r)
  | _, _, .dT h n z e r => .dT (by rw [upd_ne (fun q => z (by rw [q]; exact hD))]; exact h) n z e (Reps.hidG hD hl pl r)
  | _, _, .ins h n z cq e r => .ins (by rw [upd_ne (fun q => z (by rw [q]; exact hD))]; exact h) n z cq e (Reps.hidG hD hl pl r)
  | _, _, .ref a => .ref a
  | _, _, .opq v => .opq v
  | _, _, .exc h n t o hd nd z e r => .exc (by rw [upd_ne (ne_of h hl (by intro z; rw [← z] at pl; cases pl))]; exact h) n t o (by rw [upd_ne (fun q => z (by rw [q]; exact hD))]; exact hd) nd z e (Reps.hidG hD hl pl r)
  | _, _, .excN h n t o => .excN (by rw [upd_ne (ne_of h hl (by intro z; rw [← z] at pl; cases pl))]; exact h) n t o
  | _, _, .lam h n r => .lam (by rw [upd_ne (ne_of h hl (by intro z; rw [← z] at pl; exact Bool.noConfusion (show false = true from pl)))]; exact h) n (Reps.hidG hD hl pl r)
  | _, _, .cls h => .cls h
theorem Reps.hidG {D : Addr} {o o' : HO} (hD : D ∈ Z) (hl : H D = some o) (pl : plainO o = true) : ∀ {ws : List Cv} {vs : List V}, Reps K Z S H ws vs → Reps K Z S (upd H D o') ws vs
  | _, _, .nil => .nil
  | _, _, .cons a r => .cons (Rep.hidG hD hl pl a) (Reps.hidG hD hl pl r)
end
theorem RepOb.hidG {D a : Addr} {h h' : HO} {o : Ob} (hD : D ∈ Z) (hl : H D = some h) (pl : plainO h = true) (na : a ≠ D) (q : RepOb K Z S H a o) : RepOb K Z S (upd H D h') a o := by
  cases o with
  | lst ws => obtain ⟨vs, h1, h2⟩ := q; exact ⟨vs, by rw [upd_ne na]; exact h1, h2.hidG hD hl pl⟩
  | dK ws => obtain ⟨vs, h1, h3, h2⟩ := q; exact ⟨vs, by rw [upd_ne na]; exact h1, h3, h2.hidG hD hl pl⟩
  | dT ws => obtain ⟨vs, h1, h3, h2⟩ := q; exact ⟨vs, by rw [upd_ne na]; exact h1, h3, h2.hidG hD hl pl⟩
  | ins q' fs => obtain ⟨vs, ⟨C, dx, h1, hq⟩, h3, h2⟩ := q; exact ⟨vs, ⟨C, dx, by rw [upd_ne na]; exact h1, hq⟩, h3, h2.hidG hD hl pl⟩
  | dL C dx fs => obtain ⟨vs, h1, h3, h2⟩ := q; exact ⟨vs, by rw [upd_ne na]; exact h1, h3, h2.hidG hD hl pl⟩
end
/-! ### clean dicts -/
def valC {κ : Type} [DecidableEq κ] (kws : List (κ × Cv)) (k : κ) : Option Cv := (kws.find? fun kv => decide (kv.1 = k)).map (·.2)
def putC {κ : Type} [DecidableEq κ] (kws : List (κ × Cv)) (k : κ) (w : Cv) : List (κ × Cv) :=
  if (kws.any fun kv => decide (kv.1 = k)) = true then kws.map (fun kv => if kv.1 = k then (kv.1, w) else kv) else kws ++ [(k, w)]
/-- a key among the values -/
def keyC : Cv → Option Key
  | .int i => some (.inl i)
  | .str x => some (.inr x)
  | _ => none
section
variable {K : Fg} {Z : List Addr} {S : Sto} {H : Hp}
/-- a dict's pairs stand for those -/
def RepKV {κ : Type} (K : Fg) (Z : List Addr) (S : Sto) (H : Hp) (kws : List (κ × Cv)) (kvs : List (κ × V)) : Prop := kws.map Prod.fst = kvs.map Prod.fst ∧ Reps K Z S H (kws.map Prod.snd) (kvs.map Prod.snd)
theorem RepKV.len {κ : Type} {kws : List (κ × Cv)} {kvs : List (κ × V)} (r : RepKV K Z S H kws kvs) : kws.length = kvs.length := by
  have := congrArg List.length r.1
  simpa using this
theorem RepKV.val {κ : Type} [DecidableEq κ] {k : κ} : ∀ {kws : List (κ × Cv)} {kvs : List (κ × V)}, RepKV K Z S H kws kvs → (valC kws k = none ∧ valV kvs k = none) ∨ ∃ w v, valC kws k = some w ∧ valV kvs k = some v ∧ Rep K Z S H w v
  | [], [], _ => .inl ⟨rfl, rfl⟩
  | [], q :: l, r => by cases r.1
  | p :: r, [], h => by cases h.1
  | p :: r, q :: l, h => by
    have h1 := h.1
    simp only [List.map_cons, List.cons.injEq] at h1
    have h2 : Reps K Z S H (p.2 :: r.map Prod.snd) (q.2 :: l.map Prod.snd) := h.2
    cases h2 with
    | cons a b =>
      by_cases e : p.1 = k
      · right
        refine ⟨p.2, q.2, by simp [valC, List.find?_cons, e], ?_, a⟩
        exact valV_pos (by rw [← h1.1]; exact e)
      · have ih := RepKV.val (k := k) (kws := r) (kvs := l) ⟨h1.2, b⟩
        have ev : valC (p :: r) k = valC r k := by simp [valC, List.find?_cons, e]
        rw [ev, valV_neg (by rw [← h1.1]; exact e)]
        exact ih
theorem RepKV.any {κ : Type} [DecidableEq κ] {k : κ} : ∀ {kws : List (κ × Cv)} {kvs : List (κ × V)}, RepKV K Z S H kws kvs → (kws.any fun kv => decide (kv.1 = k)) = kvs.any fun kv => decide (kv.1 = k)
  | [], [], _ => rfl
  | [], q :: l, r => by cases r.1
  | p :: r, [], h => by cases h.1
  | p :: r, q :: l, h => by
    have h1 := h.1
    simp only [List.map_cons, List.cons.injEq] at h1
    have h2 : Reps K Z S H (p.2 :: r.map Prod.snd) (q.2 :: l.map Prod.snd) := h.2
    cases h2 with
    | cons a b => rw [List.any_cons, List.any_cons, RepKV.any (kws := r) (kvs := l) ⟨h1.2, b⟩, h1.1]
theorem RepKV.rep {κ : Type} [DecidableEq κ] {k : κ} {w : Cv} {v : V} (rw' : Rep K Z S H w v) : ∀ {kws : List (κ × Cv)} {kvs : List (κ × V)}, RepKV K Z S H kws kvs → RepKV K Z S H (kws.map fun kv => if kv.1 = k then (kv.1, w) else kv) (kvs.map fun kv => if kv.1 = k then (kv.1, v) else kv)
  | [], [], _ => ⟨rfl, .nil⟩
  | [], q :: l, r => by cases r.1
  | p :: r, [], h => by cases h.1
  | p :: r, q :: l, h => by
    have h1 := h.1
    simp only [List.map_cons, List.cons.injEq] at h1
    have h2 : Reps K Z S H (p.2 :: r.map Prod.snd) (q.2 :: l.map Prod.snd) := h.2
    cases h2 with
    | cons a b =>
      have ih := RepKV.rep (k := k) rw' (kws := r) (kvs := l) ⟨h1.2, b⟩
      refine ⟨?_, ?_⟩
      · rw [List.map_cons, List.map_cons, List.map_cons, List.map_cons, ih.1]
        congr 1
        rw [h1.1]
        split
        · rfl
        · exact h1.1
      · rw [List.map_cons, List.map_cons, List.map_cons, List.map_cons]
        refine .cons ?_ ih.2
        rw [h1.1]
        split
        · exact rw'
        · exact a
theorem RepKV.put {κ : Type} [DecidableEq κ] {k : κ} {w : Cv} {v : V} {kws : List (κ × Cv)} {kvs : List (κ × V)} (h : RepKV K Z S H kws kvs) (rw' : Rep K Z S H w v) : RepKV K Z S H (putC kws k w) (putK kvs k v) := by
  unfold putC putK
  rw [h.any]
  by_cases e : (kvs.any fun kv => decide (kv.1 = k)) = true
  · rw [if_pos e, if_pos e]; exact RepKV.rep rw' h
  · rw [if_neg e, if_neg e]
    refine ⟨by rw [List.map_append, List.map_append, h.1]; rfl, ?_⟩
    rw [List.map_append, List.map_append]
    exact h.2.app (.one rw')
theorem keyC_rep {y : Cv} {k : Key} {v : V} (e : keyC y = some k) (r : Rep K Z S H y v) : v = kV k := by
  cases y <;> cases e <;> cases r <;> rfl
theorem RepKV.fr {κ : Type} {S' : Sto} {H' : Hp} {kws : List (κ × Cv)} {kvs : List (κ × V)} (h : RepKV K Z S H kws kvs) (f : Fr S H S' H') : RepKV K Z S' H' kws kvs := ⟨h.1, h.2.fr f⟩
end
/-! ### dict comprehensions -/
section
variable {K : Fg}
end
section
variable {X : Cx} {pos : Pos} {kx vx tg iter : Expr} {ifs : List Expr} {scope : Scope} {own : List (Str × Nat)} {ti : CI} {g : CG} {is : List Nat} {tt : CT} {tk tv : CE}
end
end CL
/-! CL24: dict comprehensions computed; dicts read and written; sorted -/
namespace CL
open PySem PySem.Spec PyProof.Rows L2
variable [LamT]
def mDcL (g : MG) (tt : MT) (tk tv : ME) (gs : MEnv) : List Cv → List (Key × Cv) → Option (List (Key × Cv))
  | [], acc => some acc
  | x :: r, acc => (g x gs).bind fun g1 => (tt g1).bind fun b => if b = true then (tk g1).bind fun y => (tv g1).bind fun z => (keyC y).bind fun k => mDcL g tt tk tv gs r (putC acc k z) else mDcL g tt tk tv gs r acc
def mDc (ti : MA) (g : MG) (tt : MT) (tk tv : ME) (vs : List Nat) : ME := fun gs => (ti gs).bind fun xs => if lenOk xs.length = true then (mDcL g tt tk tv (mwipe gs vs) xs []).map .dK else none
theorem putC_len {κ : Type} [DecidableEq κ] (kws : List (κ × Cv)) (k : κ) (w : Cv) : (putC kws k w).length ≤ kws.length + 1 := by
  unfold putC
  split
  · simp
  · simp
section
variable {ti : CI} {g : CG} {tt : CT} {tk tv : CE} {mi : MA} {mg : MG} {mt : MT} {ma mb : ME} {vs : List Nat}
end
/-! ### reading dicts -/
section
variable {K : Fg} {Z : List Addr} {S : Sto} {H : Hp}
theorem RepD.dKH {kws : List (Key × Cv)} {v : V} (r : RepD K Z S H (.dK kws) v) : ∃ a kvs, v = .ref a ∧ H a = some (.dK kvs) ∧ RepKV K Z S H kws kvs := by
  obtain ⟨a, kvs, e, h, h1, h2⟩ := r
  exact ⟨a, kvs, e, h, h1, h2⟩
end
def derefK (w : Cv) (S : Sto) : Option (List (Key × Cv)) := match deref w S with
  | some (.dK kws) => some kws
  | _ => none
theorem derefK_ok {K : Fg} {Z : List Addr} {S : Sto} {H : Hp} {w : Cv} {v : V} {kws : List (Key × Cv)} (ok : StOk K Z S H) (r : Rep K Z S H w v) (e : derefK w S = some kws) : ∃ a kvs, v = .ref a ∧ H a = some (.dK kvs) ∧ RepKV K Z S H kws kvs := by
  unfold derefK at e
  split at e
  · rename_i ks ek
    cases e
    exact (deref_ok ok r ek).dKH
  · cases e
/-- k in d -/
def cDIn (ng : Bool) (ty td : CE) : CE := fun ws S Q => ty ws S fun y S1 => td ws S1 fun x S2 => match derefK x S2, keyC y with
  | some kws, some k => Q (.bl (if ng = true then !(valC kws k).isSome else (valC kws k).isSome)) S2
  | _, _ => False
section
variable {X : Cx} {o i e f : Expr} {td ty tz : CE} {pos apos cpos : Pos}
theorem mo_dIn {ng : Bool} (hi : MonE ty) (ho : MonE td) : MonE (cDIn ng ty td) := fun ws S Q Q' f h => hi _ _ _ _ (fun x S1 q => ho _ _ _ _ (fun y S2 q2 => by
  split at q2
  · exact f _ _ q2
  · exact q2) q) h
theorem dget_of {K : Fg} {Z : List Addr} {S : Sto} {H : Hp} {kws : List (Key × Cv)} {kvs : List (Key × V)} {a : Addr} {k : Key} {y : Cv} {vy : V} (hh : H a = some (.dK kvs)) (rk : RepKV K Z S H kws kvs) (ey : keyC y = some k) (ry : Rep K Z S H y vy) :
    DGet H a vy (valV kvs k) ∧ (valV kvs k).isSome = (valC kws k).isSome ∧ ∀ z vz, Rep K Z S H z vz → Rep K Z S H ((valC kws k).getD z) ((valV kvs k).getD vz) := by
  refine ⟨.inl ⟨kvs, k, .inl hh, keyC_rep ey ry, rfl⟩, ?_, fun z vz rz => ?_⟩
  · rcases rk.val (k := k) with ⟨e1, e2⟩ | ⟨w', v, e1, e2, r3⟩ <;> rw [e1, e2] <;> rfl
  · rcases rk.val (k := k) with ⟨e1, e2⟩ | ⟨w', v, e1, e2, r3⟩
    · rw [e1, e2]; exact rz
    · rw [e1, e2]; exact r3
end
end CL
/-! CL25: dicts computed; made, written; sorted -/
namespace CL
open PySem PySem.Spec PyProof.Rows L2
variable [LamT]
def fDIx : Cv → Cv → Option Cv
  | .dK kws, y => (keyC y).bind (valC kws)
  | _, _ => none
def fDIn (ng : Bool) (y d : Cv) : Option Cv := match d with
  | .dK kws => (keyC y).map fun k => .bl (if ng = true then !(valC kws k).isSome else (valC kws k).isSome)
  | _ => none
def fDGet2 : Cv → Cv → Cv → Option Cv
  | .dK kws, y, z => (keyC y).map fun k => (valC kws k).getD z
  | _, _, _ => none
def fDGet1 (d y : Cv) : Option Cv := fDGet2 d y .non
def dkOnly : Cv → Option Cv
  | .dK kws => some (.dK kws)
  | _ => none
def mDGet2 (a b c : ME) : ME := fun gs => ((a gs).bind dkOnly).bind fun d => (b gs).bind fun y => (c gs).bind fun z => fDGet2 d y z
def mDGet1 (a b : ME) : ME := fun gs => ((a gs).bind dkOnly).bind fun d => (b gs).bind fun y => fDGet1 d y
theorem derefK_dK {kws : List (Key × Cv)} {S : Sto} : derefK (.dK kws) S = some kws := rfl
section
variable {td ty tz : CE} {a b c : ME}
theorem ev_dIn {ng : Bool} (hb : Ev ty b) (ha : Ev td a) : Ev (cDIn ng ty td) (mOp (fDIn ng) b a) := ⟨mo_dIn hb.mono ha.mono, fun V e q => by
  obtain ⟨y, e2, e⟩ := bind_some e
  obtain ⟨d, e1, e⟩ := bind_some e
  refine hb.ok V e2 (ha.ok V e1 ?_)
  unfold fDIn at e
  split at e
  · obtain ⟨k, e3, e⟩ := map_some' e
    subst e
    rw [derefK_dK, e3]
    exact q
  · cases e⟩
end
/-! ### made -/
def cDNew : CE := fun _ S Q => ∀ p, S p = none → Q (.ref p) (S.set p (.dK []))
section
variable {X : Cx} {pos pos' : Pos} {o i e f value : Expr} {td ty tz tv : CE}
theorem mo_dNew : MonE cDNew := fun ws S Q Q' f h p hp => f _ _ (h p hp)
theorem s_dNew : SE X (.Dict [] [] pos) cDNew := ⟨mo_dNew, pe_dnewK.imp fun σ H Q h => by
  obtain ⟨Z, S, ws, ok, re, h⟩ := h
  exact fun p hp => h p (ok.free hp) (.ref p) _ (Fr.own hp) (ok.own hp ⟨[], upd_same, rfl, .nil⟩) (.ref p)⟩
theorem en_dNew : EvN cDNew (mC (.dK [])) := ⟨mo_dNew, fun V e q => by cases e; exact fun p hp => q p _ hp rfl⟩
/-! ### written -/
def ownD (S : Sto) (a : Addr) (Q : List (Key × Cv) → Prop) : Prop := match S a with
  | some (.dK kws) => Q kws
  | _ => False
theorem ownD_imp {S : Sto} {a : Addr} {Q Q' : List (Key × Cv) → Prop} (f : ∀ xs, Q xs → Q' xs) (h : ownD S a Q) : ownD S a Q' := by
  unfold ownD at h ⊢
  split at h
  · exact f _ h
  · exact h.elim
theorem ownD_of {S : Sto} {a : Addr} {Q : List (Key × Cv) → Prop} (h : ownD S a Q) : ∃ xs, S a = some (.dK xs) ∧ Q xs := by
  unfold ownD at h
  split at h
  · exact ⟨_, by assumption, h⟩
  · exact h.elim
theorem ownD_to {S : Sto} {a : Addr} {Q : List (Key × Cv) → Prop} {xs : List (Key × Cv)} (e : S a = some (.dK xs)) (h : Q xs) : ownD S a Q := by
  unfold ownD; rw [e]; exact h
/-- d[k] = v -/
def cDPut (td ty tv : CE) : CS := fun D ws S => tv ws S fun v S1 => td ws S1 fun x S2 => ty ws S2 fun y S3 => match x, keyC y with
  | .ref p, some k => ownD S3 p fun kws => kws.length < sizeLine ∧ D.nx ws (S3.set p (.dK (putC kws k v)))
  | _, _ => False
theorem mo_dPut (hv : MonE tv) (hd : MonE td) (hy : MonE ty) : MonS (cDPut td ty tv) := fun D D' ws S l h => hv _ _ _ _ (fun v S1 h1 => hd _ _ _ _ (fun x S2 h2 => hy _ _ _ _ (fun y S3 h3 => by
  split at h3
  · exact ownD_imp (fun xs q => ⟨q.1, l.nx _ _ q.2⟩) h3
  · exact h3.elim) h2) h1) h
theorem own_dput {K : Fg} {Z : List Addr} {S : Sto} {H : Hp} {p : Addr} {kws : List (Key × Cv)} {kvs : List (Key × V)} {k : Key} {w : Cv} {v : V} (ok : StOk K Z S H) (e : S p = some (.dK kws)) (hh : H p = some (.dK kvs)) (rk : RepKV K Z S H kws kvs) (r : Rep K Z S H w v) :
    Fr S H (S.set p (.dK (putC kws k w))) (upd H p (.dK (putK kvs k v))) ∧ StOk K Z (S.set p (.dK (putC kws k w))) (upd H p (.dK (putK kvs k v))) := by
  have f : Fr S H (S.set p (.dK (putC kws k w))) (upd H p (.dK (putK kvs k v))) := Fr.wr e
  have := rk.put (k := k) r
  exact ⟨f, ok.wr e ⟨_, upd_same, this.1, this.2.fr f⟩⟩
theorem ss_dput (hu : X.A.units + 1 < cLine) (ho : SE X o td) (hi : SE X i ty) (hv : SE X value tv) (hs : swapsWith value (some (.Subscript o i pos')) pos.line X.env = pure false := by rfl) : SS X (.Assign [.Subscript o i pos'] value pos) (cDPut td ty tv) := ⟨mo_dPut hv.mono ho.mono hi.mono, (ps_dput hu ho.ok hi.ok hv.ok hs).imp fun D σ H h => by
  obtain ⟨Z, S, ws, ok, re, h⟩ := h
  refine liftE_of hv.mono ok re h fun w S1 vw H1 f1 ok1 r1 q1 => ?_
  refine liftE_of ho.mono ok1 (re.fr f1) q1 fun x S2 vx H2 f2 ok2 r2 q2 => ?_
  refine liftE_of hi.mono ok2 ((re.fr f1).fr f2) q2 fun y S3 vy H3 f3 ok3 r3 q3 => ?_
  split at q3
  · rename_i p k ey
    have r2' := r2.fr f3
    cases r2'
    obtain ⟨kws, e, hl, q⟩ := ownD_of q3
    obtain ⟨kvs, hh, rk⟩ := ok3.ob p _ e
    obtain ⟨f4, ok4⟩ := own_dput (k := k) ok3 e hh rk ((r1.fr f2).fr f3)
    refine ⟨p, _, rfl, .inl ⟨kvs, k, hh, keyC_rep ey r3, by rw [← RepKV.len rk]; exact hl, rfl⟩, ?_⟩
    exact q σ _ (((f1.trans f2).trans f3).trans f4) ok4 ((((re.fr f1).fr f2).fr f3).fr f4)
  · exact q3.elim⟩
/-! ### sorted -/
end
end CL
/-! CL26: sorted, computed -/
namespace CL
open PySem PySem.Spec PyProof.Rows L2
variable [LamT]
/-! own dicts -/
def mDPut (i : Nat) (k a : ME) : MS := fun gs => ((slO gs[i]?).bind dkOnly).bind fun d => (a gs).bind fun v => (k gs).bind fun y => (fDPut d y v).map fun d => .nx (gs.set i (.ow d)) where
  fDPut : Cv → Cv → Cv → Option Cv
  | .dK kws, y, v => if decide (kws.length < 1000000) = true then (keyC y).map fun k => .dK (putC kws k v) else none
  | _, _, _ => none
theorem obv_dK {o : Ob} {xs : List (Key × Cv)} (h : obv o = some (.dK xs)) : o = .dK xs := by
  cases o <;> simp [obv] at h
  rw [h]
theorem es_dput {ty tv : CE} {k a : ME} {i : Nat} (hk : Ev ty k) (h : Ev tv a) : EvS (cDPut (cVar i) ty tv) (mDPut i k a) := ⟨mo_dPut h.mono mo_var hk.mono, fun V e q => by
  obtain ⟨d, e0, e⟩ := bind_some e
  obtain ⟨v, e1, e⟩ := bind_some e
  obtain ⟨y, e2, e⟩ := bind_some e
  obtain ⟨d', e3, e⟩ := map_some' e
  subst e
  obtain ⟨d0, e0', e4⟩ := bind_some e0
  cases d0 <;> cases e4
  have e0' := slO_some e0'
  obtain ⟨p, o, f1, f2, f3, f4⟩ := V.ow _ _ e0'
  cases obv_dK f3
  refine h.ok V e1 (x_var f1 (hk.ok V e2 ?_))
  unfold mDPut.fDPut at e3
  simp only [] at e3
  split at e3
  · rename_i hl
    obtain ⟨key, e5, e3⟩ := map_some' e3
    subst e3
    rw [e5]
    exact ownD_to f2 ⟨Nat.lt_of_lt_of_le (of_decide_eq_true hl) (by decide), q _ _ (V.chg e0' f1 rfl)⟩
  · cases e3⟩
end CL
/-! CL27: times, of ints, tuples and lists -/
namespace CL
open PySem PySem.Spec PyProof.Rows L2
variable [LamT]
section
variable {X : Cx}
def cMulT (xs : List Cv) : Cv → Sto → (Cv → Sto → Prop) → Prop
  | .int k, S, Q => (xs ≠ [] ∧ 2 ≤ k ∧ k ≤ 1000 ∧ xs.length ≤ 1000) ∧ Q (.tup (List.replicate k.toNat xs).flatten) S
  | _, _, _ => False
def cMulA : C2 := fun a b S Q => match a with
  | .int i => cMul (.int i) b S Q
  | .tup xs => cMulT xs b S Q
  | a => cRepL a b S Q
theorem cMulA_mono : Mon2 cMulA := fun a b S Q Q' f h => by
  unfold cMulA at h ⊢
  cases a with
  | int i => exact cI2_mono _ _ _ _ _ f h
  | tup xs =>
    cases b with
    | int k => exact ⟨h.1, f _ _ h.2⟩
    | _ => exact h.elim
  | _ => exact cRepL_mono _ _ _ _ _ f h
theorem o_mulA : S2 X (binaryOp .Mult) cMulA := s2_of cMulA_mono fun pins s σ H x y v u Q Z S a b I rx ry ok ra rb q => by
  unfold cMulA at q
  cases a with
  | int i => exact (o_mul (X := X)).ok pins s σ H x y v u Q I rx ry ⟨Z, S, _, b, ok, ra, rb, q⟩
  | tup xs =>
    cases b with
    | int k =>
      cases rb
      obtain ⟨a1, v1, rfl, t1, r1⟩ := RepD.tupH ra
      obtain ⟨⟨h1, h2, h3, h4⟩, q⟩ := q
      refine op_repT pins s σ H _ _ v u Q I rx ry ⟨a1, k, v1, rfl, rfl, t1, fun e => h1 (r1.nil_iff.mp e), h2, h3, by rw [← r1.length]; exact h4, fun p hp => new_tup ok hp (reps_rep r1 _) q⟩
    | _ => exact q.elim
  | _ => exact (o_repL (X := X)).ok pins s σ H x y v u Q I rx ry ⟨Z, S, _, b, ok, ra, rb, q⟩
def fMulA : Cv → Cv → Option Cv
  | .int i, b => fMul (.int i) b
  | .tup xs, .int k => if (!xs.isEmpty && decide (2 ≤ k ∧ k ≤ 1000) && decide (xs.length ≤ 1000)) = true then some (.tup (List.replicate k.toNat xs).flatten) else none
  | .lst xs, b => fRepL (.lst xs) b
  | _, _ => none
theorem e2_mulA : E2 cMulA fMulA := ⟨cMulA_mono, fun {a b S Q v} e q => by
  unfold fMulA at e
  split at e
  · exact e2_mul.2 e q
  · obtain ⟨h1, e⟩ := ite_some e
    subst e
    rw [Bool.and_eq_true, Bool.and_eq_true] at h1
    have := of_decide_eq_true h1.1.2
    exact ⟨⟨fun e => (by have := h1.1.1; rw [e] at this; cases this), this.1, this.2, of_decide_eq_true h1.2⟩, q⟩
  · exact e2_repL.2 e q
  · cases e⟩
theorem q_mulAI {i : Int} {b : Cv} : fMulA (.int i) b = fMul (.int i) b := rfl
theorem q_mulAL {xs : List Cv} {b : Cv} : fMulA (.lst xs) b = fRepL (.lst xs) b := rfl
end
end CL
/-! CL28: closed values, compared by the kernel -/
namespace CL
open PySem PySem.Spec PyProof.Rows L2
variable [LamT]
mutual
def cvEq : Cv → Cv → Bool
  | .non, .non => true
  | .bl a, .bl b => a == b
  | .int i, .int j => decide (i = j)
  | .str x, .str y => decide (x = y)
  | .tup xs, .tup ys => cvsEq xs ys
  | .lst xs, .lst ys => cvsEq xs ys
  | _, _ => false
def cvsEq : List Cv → List Cv → Bool
  | [], [] => true
  | x :: xs, y :: ys => cvEq x y && cvsEq xs ys
  | _, _ => false
end
mutual
theorem cvEq_eq : ∀ a b : Cv, cvEq a b = true → a = b
  | .non, b, h => by cases b <;> simp [cvEq] at h; rfl
  | .bl a, b, h => by cases b <;> simp [cvEq] at h; rw [h]
  | .int a, b, h => by cases b <;> simp [cvEq] at h; rw [h]
  | .str a, b, h => by cases b <;> simp [cvEq] at h; rw [h]
  | .tup a, b, h => by
    cases b <;> simp [cvEq] at h
    rw [cvsEq_eq a _ h]
  | .lst a, b, h => by
    cases b <;> simp [cvEq] at h
    rw [cvsEq_eq a _ h]
  | .scr a, b, h => by cases b <;> simp [cvEq] at h
  | .dK a, b, h => by cases b <;> simp [cvEq] at h
  | .dT a, b, h => by cases b <;> simp [cvEq] at h
theorem cvsEq_eq : ∀ a b : List Cv, cvsEq a b = true → a = b
  | [], [], _ => rfl
  | [], y :: r, h => by simp [cvsEq] at h
  | x :: r, [], h => by simp [cvsEq] at h
  | x :: r, y :: l, h => by
    simp [cvsEq] at h
    rw [cvEq_eq x y h.1, cvsEq_eq r l h.2]
end
end CL
/-! CL29: isinstance(x, a built-in type); range with a step -/
namespace CL
open PySem PySem.Spec PyProof.Rows L2
variable [LamT]
/-- the class of a clean value -/
def tyN : Cv → Option String
  | .non => some "NoneType"
  | .bl _ => some "bool"
  | .int _ => some "int"
  | .str _ => some "str"
  | .tup _ => some "tuple"
  | .lst _ => some "list"
  | .dK _ => some "dict"
  | _ => none
def isiN : List String := ["bool", "int", "str", "tuple", "list", "dict"]
def isiA (t n : String) : Bool := t == n || (t == "bool" && n == "int")
section
variable {X : Cx}
/-- range(i, j, c) -/
def rngS (i c : Int) (n : Nat) : List Cv := (List.range n).map fun (k : Nat) => .int (i + k * c)
end
section
variable {X : Cx} {pos : Pos}
end
/-! computed -/
def fIsi : List Cv → Option Cv
  | [w, .opq (.ty n)] => (tyN w).bind fun t => if isiN.contains n = true then some (.bl (isiA t n)) else none
  | _ => none
def rgcB (i j c : Int) : Bool := decide (c ≠ 0 ∧ c.natAbs < 1073741824) && (Builtin.Range.small i j c && decide (Builtin.Range.rangeSize i j c = (Builtin.Range.rangeSize i j c).toNat))
def fRng3 : List Cv → Option (List Cv)
  | [.int i, .int j, .int c] => if rgcB i j c = true then some (rngS i c (Builtin.Range.rangeSize i j c).toNat) else none
  | _ => none
def mRng3 (u : MA) : MA := fun gs => (u gs).bind fRng3
theorem q_rng3 {U : MA} {gs : MEnv} : mRng3 U gs = (U gs).bind fRng3 := rfl
section
variable {xs : List Cv} {z : Str} {i : Int} {b : Bool}
theorem q_isiTT : fIsi [.tup xs, .opq (.ty "tuple")] = some (.bl true) := rfl
theorem q_isiLT : fIsi [.lst xs, .opq (.ty "tuple")] = some (.bl false) := rfl
theorem q_isiST : fIsi [.str z, .opq (.ty "tuple")] = some (.bl false) := rfl
theorem q_isiIT : fIsi [.int i, .opq (.ty "tuple")] = some (.bl false) := rfl
theorem q_isiBT : fIsi [.bl b, .opq (.ty "tuple")] = some (.bl false) := rfl
theorem q_isiNT : fIsi [.non, .opq (.ty "tuple")] = some (.bl false) := rfl
theorem q_isiTS : fIsi [.tup xs, .opq (.ty "str")] = some (.bl false) := rfl
theorem q_isiLS : fIsi [.lst xs, .opq (.ty "str")] = some (.bl false) := rfl
theorem q_isiSS : fIsi [.str z, .opq (.ty "str")] = some (.bl true) := rfl
theorem q_isiIS : fIsi [.int i, .opq (.ty "str")] = some (.bl false) := rfl
theorem q_isiBS : fIsi [.bl b, .opq (.ty "str")] = some (.bl false) := rfl
theorem q_isiNS : fIsi [.non, .opq (.ty "str")] = some (.bl false) := rfl
theorem q_isiTI : fIsi [.tup xs, .opq (.ty "int")] = some (.bl false) := rfl
theorem q_isiLI : fIsi [.lst xs, .opq (.ty "int")] = some (.bl false) := rfl
theorem q_isiSI : fIsi [.str z, .opq (.ty "int")] = some (.bl false) := rfl
theorem q_isiII : fIsi [.int i, .opq (.ty "int")] = some (.bl true) := rfl
theorem q_isiBI : fIsi [.bl b, .opq (.ty "int")] = some (.bl true) := rfl
theorem q_isiNI : fIsi [.non, .opq (.ty "int")] = some (.bl false) := rfl
theorem q_isiTB : fIsi [.tup xs, .opq (.ty "bool")] = some (.bl false) := rfl
theorem q_isiLB : fIsi [.lst xs, .opq (.ty "bool")] = some (.bl false) := rfl
theorem q_isiSB : fIsi [.str z, .opq (.ty "bool")] = some (.bl false) := rfl
theorem q_isiIB : fIsi [.int i, .opq (.ty "bool")] = some (.bl false) := rfl
theorem q_isiBB : fIsi [.bl b, .opq (.ty "bool")] = some (.bl true) := rfl
theorem q_isiNB : fIsi [.non, .opq (.ty "bool")] = some (.bl false) := rfl
end
theorem iota_nat {i : Int} : iota 0 i.toNat = (List.range' 0 i.toNat).map fun (k : Nat) => Cv.int (k : Nat) := by
  rw [iota_map, List.range_eq_range']
  refine List.map_congr_left fun k _ => ?_
  rw [Int.zero_add]
end CL
/-! CL30: sets of keys (ints, texts) made of a list or tuple: their number, sorted -/
namespace CL
open PySem PySem.Spec PyProof.Rows L2
variable [LamT]
theorem perm_lift {α β : Type} (f : α → β) {l' l : List β} (p : l'.Perm l) : ∀ ps : List α, ps.map f = l → ∃ ps' : List α, ps'.Perm ps ∧ ps'.map f = l' := by
  induction p with
  | nil => exact fun ps h => ⟨ps, .refl _, h⟩
  | cons x _ ih =>
    intro ps h
    cases ps with
    | nil => cases h
    | cons q ps =>
      rw [List.map_cons] at h
      injection h with h1 h2
      obtain ⟨ps', a, b⟩ := ih ps h2
      exact ⟨q :: ps', a.cons q, by rw [List.map_cons, h1, b]⟩
  | swap x y l =>
    intro ps h
    match ps, h with
    | p1 :: p2 :: ps, h =>
      rw [List.map_cons, List.map_cons] at h
      injection h with h1 h2
      injection h2 with h2 h3
      exact ⟨p2 :: p1 :: ps, .swap _ _ _, by rw [List.map_cons, List.map_cons, h1, h2, h3]⟩
    | [p1], h => cases h
    | [], h => cases h
  | trans _ _ ih1 ih2 =>
    intro ps h
    obtain ⟨p2, a, b⟩ := ih2 ps h
    obtain ⟨p1, c, d⟩ := ih1 p2 b
    exact ⟨p1, c.trans a, d⟩
/-- a key more, behind, if it is new -/
def addU {κ : Type} [DecidableEq κ] (ks : List κ) (k : κ) : List κ := if k ∈ ks then ks else ks ++ [k]
def ddU {κ : Type} [DecidableEq κ] (xs : List κ) : List κ := xs.foldl addU []
theorem addU_nodup {κ : Type} [DecidableEq κ] {ks : List κ} {k : κ} (h : ks.Nodup) : (addU ks k).Nodup := by
  unfold addU
  split
  · exact h
  · rename_i n
    exact List.nodup_append.mpr ⟨h, (by simp), fun a ha b hb e => n (by rw [List.mem_singleton] at hb; rw [← hb, ← e]; exact ha)⟩
theorem mem_addU {κ : Type} [DecidableEq κ] {ks : List κ} {k x : κ} : x ∈ addU ks k ↔ x ∈ ks ∨ x = k := by
  unfold addU
  split
  · rename_i h
    exact ⟨.inl, fun z => z.elim id fun e => e ▸ h⟩
  · rw [List.mem_append, List.mem_singleton]
theorem mem_foldU {κ : Type} [DecidableEq κ] {x : κ} : ∀ {xs ks : List κ}, x ∈ xs.foldl addU ks ↔ x ∈ ks ∨ x ∈ xs
  | [], ks => by simp
  | y :: xs, ks => by
    rw [List.foldl_cons, mem_foldU (xs := xs), mem_addU, List.mem_cons, or_assoc]
theorem mem_ddU {κ : Type} [DecidableEq κ] {x : κ} {xs : List κ} : x ∈ ddU xs ↔ x ∈ xs := by
  unfold ddU
  rw [mem_foldU]; simp
theorem foldU_len {κ : Type} [DecidableEq κ] : ∀ {xs ks : List κ}, ks.length ≤ (xs.foldl addU ks).length
  | [], _ => Nat.le_refl _
  | x :: xs, ks => by
    refine Nat.le_trans ?_ (foldU_len (xs := xs) (ks := addU ks x))
    unfold addU
    split
    · exact Nat.le_refl _
    · simp
section
variable {P : Program} {w : World} {κ : Type} [DecidableEq κ]
/-- the set at a: its members, up to their order -/
def SetG (knd : PySem.KeyKind P w κ) (h : Heap) (a : Addr) (ks : List κ) : Prop :=
  ∃ (o : Obj) (es : Array (Int × Value)) (ep : Nat) (t : SetTable) (ps : List (κ × (Int × Value))), h.get? a = some o ∧ o.ExactSet ∧ o.data = .set es ep t ∧ ps.map Prod.snd = es.toList ∧
    (∀ p ∈ ps, knd.is p.1 p.2.2 = true ∧ p.2.1 = knd.hash p.1 ∧ p.2.2.scannable = true) ∧ (ps.map Prod.fst).Perm ks ∧ ks.Nodup ∧
    es.size < scanBound ∧ t.fits es.size = true ∧ Ris t.place.toList ∧ (w.params.followText "set-order" = true ∨ t.led = true)
variable {knd : PySem.KeyKind P w κ} {h h' : Heap} {a : Addr} {ks : List κ}
theorem SetG.at (R : SetG knd h a ks) (k : ∀ o, h.get? a = some o → h'.get? a = some o) : SetG knd h' a ks := by
  obtain ⟨o, es, ep, t, ps, ho, r⟩ := R
  exact ⟨o, es, ep, t, ps, k o ho, r⟩
theorem SetG.there (R : SetG knd h a ks) : ∃ o, h.get? a = some o := by
  obtain ⟨o, es, ep, t, ps, ho, r⟩ := R
  exact ⟨o, ho⟩
theorem setG_len {es : Array (Int × Value)} {ps : List (κ × (Int × Value))} (e : ps.map Prod.snd = es.toList) (p : (ps.map Prod.fst).Perm ks) : es.size = ks.length := by
  rw [← p.length_eq, List.length_map, ← Array.length_toList, ← e, List.length_map]
theorem setG_elems {es : Array (Int × Value)} {ps : List (κ × (Int × Value))} (e : ps.map Prod.snd = es.toList)
    (g : ∀ p ∈ ps, knd.is p.1 p.2.2 = true ∧ p.2.1 = knd.hash p.1 ∧ p.2.2.scannable = true) : ElemsOf knd es.toList := fun x hx => by
  rw [← e] at hx
  obtain ⟨p, hp, rfl⟩ := List.mem_map.mp hx
  exact ⟨⟨p.1, (g p hp).1, (g p hp).2.1⟩, (g p hp).2.2⟩
end
section
variable {P : Program} {w : World} {κ : Type} [DecidableEq κ] {knd : PySem.KeyKind P w κ} {A : Around} {E : Value → Shared → Prop} {s : Shared} {a : Addr} {ks : List κ}
theorem setG_tail {g : Bool → Sem Unit} (hg : ∀ (b : Bool) (s₁ : Shared) (Q' : Unit → Shared → Prop), Q' () s₁ → wpAny (model P w) A (g b) Q' E s₁)
    {o : Obj} {es : Array (Int × Value)} {ep : Nat} {t : SetTable} (ho : s.heap.get? a = some o) (hex : o.ExactSet) (hd : o.data = .set es ep t)
    {es1 : Array (Int × Value)} {t2 : SetTable} {ps : List (κ × (Int × Value))} (e1 : ps.map Prod.snd = es1.toList) (g1 : ∀ p ∈ ps, knd.is p.1 p.2.2 = true ∧ p.2.1 = knd.hash p.1 ∧ p.2.2.scannable = true) (p1 : (ps.map Prod.fst).Perm ks) (nd1 : ks.Nodup)
    (hb1 : es1.size < scanBound) (hf2 : t2.fits es1.size = true) (hr : Ris t2.place.toList) (hl : w.params.followText "set-order" = true ∨ t2.led = true) {wasDummy : Bool} {R : Option Bool → Shared → Prop}
    (hR : ∀ h', Heap.SameBut a s.heap h' → SetG knd h' a ks → R (some true) { s with heap := h' }) :
    wpAny (model P w) A (do
        storeSet a es1 t2
        if (!wasDummy && t2.tooFull) = true then do
            g (relayAll t2 es1 (SetTable.grown es1.size)).2.2
            storeSet a (relayAll t2 es1 (SetTable.grown es1.size)).1 (relayAll t2 es1 (SetTable.grown es1.size)).2.1
            pure (some true)
          else pure (some true)) R E s := by
  refine wpAny_bind (wpAny_storeSet_of ho hd ?_ (fits_of_scanBound hb1))
  have q1 := store_at (es' := es1) (t' := t2) ho hd
  have sb1 := Heap.SameBut.update s.heap a (Obj.putSet es1 t2)
  split
  · have pm := relayAll_perm t2 es1 (SetTable.grown es1.size)
    have hf3 := relayAll_fits t2 es1 (SetTable.grown es1.size)
    have hr3 := relayAll_ris t2 es1 (SetTable.grown es1.size)
    have hl3 := relayAll_led t2 es1 (SetTable.grown es1.size)
    generalize relayAll t2 es1 (SetTable.grown es1.size) = Z at pm hf3 hr3 hl3 ⊢
    obtain ⟨es2, t3, gave⟩ := Z
    dsimp only at pm hf3 hr3 hl3 ⊢
    have hsz : es2.size = es1.size := by rw [← Array.length_toList, pm.length_eq, Array.length_toList]
    have hb2 : es2.size < scanBound := by rw [hsz]; exact hb1
    obtain ⟨ps2, pp, e2⟩ := perm_lift Prod.snd pm ps e1
    refine wpAny_bind (hg _ _ _ ?_)
    refine wpAny_bind (wpAny_storeSet_of q1 rfl ?_ (fits_of_scanBound hb2))
    have q2 := store_at (es' := es2) (t' := t3) q1 rfl
    refine wpAny_pure (hR _ (sb1.trans (Heap.SameBut.update _ a _)) ?_)
    exact ⟨_, es2, _, t3, ps2, q2, hex, rfl, e2, fun p hp => g1 p (pp.mem_iff.mp hp), (pp.map _).trans p1, nd1, hb2, hf3, hr3, hl.imp id fun z => by rw [hl3]; exact z⟩
  · exact wpAny_pure (hR _ sb1 ⟨_, es1, _, t2, ps, q1, hex, rfl, e1, g1, p1, nd1, hb1, hf2, hr, hl⟩)
theorem setG_add {k : κ} {v : Value} {Q : Bool → Shared → Prop} (R : SetG knd s.heap a ks) (hkey : knd.is k v = true) (hsc : v.scannable = true) (room : (addU ks k).length < scanBound)
    (hQ : ∀ b h', Heap.SameBut a s.heap h' → SetG knd h' a (addU ks k) → Q b { s with heap := h' }) :
    wpAny (model P w) A (setAddHashed a v (knd.hash k)) Q E s := by
  obtain ⟨o, es, ep, t, ps, ho, hex, hd, ee, g, pm0, nd, hb, hf, hr, hl⟩ := R
  have hel := setG_elems ee g
  unfold setAddHashed setAddHashedIn
  refine wpAny_holding (wpAny_bind (wpAny_setState_of ho hd hf ?_))
  dsimp only
  rw [byScan_of hsc hb hel]
  simp only [↓reduceIte]
  unfold setAddByScan
  refine wpAny_bind ?_
  refine wpAny_bind (wpAny_rule ?_)
  refine wpAny_bind (wpAny_setScan_of hkey ho hd hf hel ?_)
  cases hfi : List.findIdx? (fun e => knd.is k e.2) es.toList with
  | some j =>
    dsimp only
    obtain ⟨hj, pj, _⟩ := List.findIdx?_eq_some_iff_getElem.mp hfi
    have hm : es.toList[j] ∈ ps.map Prod.snd := by rw [ee]; exact List.getElem_mem hj
    obtain ⟨p, hp, ep'⟩ := List.mem_map.mp hm
    have ek : p.1 = k := knd.inj _ _ _ (g p hp).1 (by rw [ep']; exact pj)
    have hk : k ∈ ks := pm0.mem_iff.mp (List.mem_map.mpr ⟨p, hp, ek⟩)
    have eu : addU ks k = ks := if_pos hk
    refine wpAny_pure (wpAny_pure ?_)
    have q := hQ false s.heap (Heap.SameBut.refl a s.heap) (by rw [eu]; exact ⟨o, es, ep, t, ps, ho, hex, hd, ee, g, pm0, nd, hb, hf, hr, hl⟩)
    exact q
  | none =>
    dsimp only
    have hnk : k ∉ ks := fun z => by
      obtain ⟨p, hp, ek⟩ := List.mem_map.mp (pm0.mem_iff.mpr z)
      have c := List.findIdx?_eq_none_iff.mp hfi p.2 (by rw [← ee]; exact List.mem_map_of_mem hp)
      rw [← ek, (g p hp).1] at c
      cases c
    have eu : addU ks k = ks ++ [k] := if_neg hnk
    have hgw : ∀ (b : Bool) {s₁ : Shared} {Q' : Unit → Shared → Prop}, Q' () s₁ → wpAny (model P w) A (match b with | true => rule "set.scan.the-table-gave-way" | false => pure ()) Q' E s₁ :=
      fun b s₁ Q' q => by cases b <;> first | exact wpAny_pure q | exact wpAny_rule q
    have pm := layNew_perm t es (knd.hash k) v
    have hf1 := layNew_fits t es (knd.hash k) v
    have hr1 := layNew_ris t es (knd.hash k) v hr
    have hl1 := layNew_led t es (knd.hash k) v
    generalize layNew t es (knd.hash k) v = Z at pm hf1 hr1 hl1 ⊢
    obtain ⟨es1, t1, wasDummy, gave⟩ := Z
    dsimp only at pm hf1 hr1 hl1 ⊢
    rw [Array.toList_push, ← ee] at pm
    obtain ⟨ps1, pp, e1⟩ := perm_lift Prod.snd pm (ps ++ [(k, (knd.hash k, v))]) (by rw [List.map_append, List.map_singleton])
    have g1 : ∀ p ∈ ps1, knd.is p.1 p.2.2 = true ∧ p.2.1 = knd.hash p.1 ∧ p.2.2.scannable = true := fun p hp => by
      rcases List.mem_append.mp (pp.mem_iff.mp hp) with z | z
      · exact g p z
      · rw [List.mem_singleton] at z
        rw [z]; exact ⟨hkey, rfl, hsc⟩
    have pf : (ps1.map Prod.fst).Perm (addU ks k) := by
      have := pp.map Prod.fst
      rw [List.map_append, List.map_singleton] at this
      rw [eu]
      exact this.trans (pm0.append_right _)
    have hsz : es1.size = (addU ks k).length := setG_len e1 pf
    have hb1 : es1.size < scanBound := by rw [hsz]; exact room
    have hled : w.params.followText "set-order" = true ∨ t1.led = true := hl.imp id fun z => by rw [hl1]; exact z
    refine wpAny_bind (hgw _ ?_)
    split
    · refine wpAny_bind ?_
      rw [hashByValue_scannable 8 hsc]
      refine wpAny_pure ?_
      refine setG_tail ?_ ho hex hd e1 g1 pf (addU_nodup nd) hb1 ?_ ?_ ?_ ?_
      · intro b s₁ Q' q; cases b <;> first | exact wpAny_pure q | exact wpAny_rule q
      · first | (split <;> first | exact hf1 | exact SetTable.fits_plain_off hf1) | exact hf1
      · first | (split <;> exact hr1) | exact hr1
      · first | (split <;> exact hled) | exact hled
      · intro h' sb r; dsimp only; exact wpAny_pure (hQ true h' sb r)
    · refine wpAny_bind (wpAny_pure ?_)
      simp only [↓reduceIte]
      refine setG_tail ?_ ho hex hd e1 g1 pf (addU_nodup nd) hb1 hf1 hr1 hled ?_
      · intro b s₁ Q' q; cases b <;> first | exact wpAny_pure q | exact wpAny_rule q
      · intro h' sb r; dsimp only; exact wpAny_pure (hQ true h' sb r)
end
section
variable {prog : Program} {w : World} {κ : Type} [DecidableEq κ] {knd : PySem.KeyKind prog w κ} {A : Around} {R : Result → Shared → Prop} {I : Addr} {fp wr : List Addr} {G : Array GenState → Array GenState → Prop} {n : Nat} {Pv : Nat → Value → Prop} {St : Nat → Shared → Prop}
theorem setG_loop (W : WalksS prog w A.in1 I fp wr G n Pv St) (S : Addr) (hSf : S ∉ fp) (xs : List κ) (hsz : xs.length = n)
    (hval : ∀ (i : Nat) (v : Value), Pv i v → ∃ k, xs[i]? = some k ∧ knd.is k v = true ∧ v.scannable = true) :
    ∀ (r : List κ) (i : Nat) (ks : List κ) (s : Shared), r = xs.drop i → i ≤ n → St i s → (r.foldl addU ks).length < scanBound →
      SetG knd s.heap S ks →
      (∀ s', Moved (S :: wr) G s s' → SetG knd s'.heap S (r.foldl addU ks) → R (.ok (.ret .none)) s') →
      codeAny (model prog w) A (.builtin "set.update.loop" ⟨[.ref S, .ref I], []⟩) R s := by
  have hSw : S ∉ wr := fun h => hSf (W.sub _ h)
  have hsub : ∀ b ∈ wr, b ∈ S :: wr := fun b hb => List.mem_cons_of_mem _ hb
  intro r
  induction r with
  | nil =>
    intro i ks s hr hi hst hb hS hR
    have hin : i = n := by
      have := congrArg List.length hr
      rw [List.length_nil, List.length_drop] at this
      omega
    subst hin
    refine codeAny_builtin PyProof.Rows.F.entry_set_update_loop ?_
    rw [Around.under_plainId PyProof.Rows.F.plain_set_update_loop _]
    show wpAny _ A.in1 (pyNext (.ref I) >>= _) _ _ s
    refine wpAny_bind (W.done s _ _ hst fun s' hm => ?_)
    show wpAny _ A.in1 (ret Value.none) _ _ s'
    exact wpAny_pure (hR s' (hm.mono hsub) (hS.at fun o e => hm.heap S o hSw e))
  | cons k0 r ih =>
    intro i ks s hr hi hst hb hS hR
    have hlt : i < n := by
      have := congrArg List.length hr
      rw [List.length_cons, List.length_drop] at this
      omega
    have hk0 : xs[i]? = some k0 := by
      have := congrArg (fun l => l[0]?) hr
      simpa using this.symm
    have hr' : r = xs.drop (i + 1) := by
      have := congrArg (fun l => l.drop 1) hr
      rw [List.drop_drop] at this
      simpa [Nat.add_comm] using this
    refine codeAny_builtin PyProof.Rows.F.entry_set_update_loop ?_
    rw [Around.under_plainId PyProof.Rows.F.plain_set_update_loop _]
    show wpAny _ A.in1 (pyNext (.ref I) >>= _) _ _ s
    refine wpAny_bind (W.item i s _ _ hlt hst fun v s' hP hst' hm => ?_)
    obtain ⟨k, hk, hkey, hsc⟩ := hval i v hP
    rw [hk0] at hk
    cases hk
    have hS' : SetG knd s'.heap S ks := hS.at fun o e => hm.heap S o hSw e
    show wpAny _ A.in1 (holding [v] (setAdd S v) >>= _) _ _ s'
    refine wpAny_bind (wpAny_holding ?_)
    unfold setAdd
    refine wpAny_holding ?_
    refine wpAny_bind (knd.pyHash hkey ?_)
    refine setG_add (s := { s' with toks := s'.toks + 1 }) hS' hkey hsc (Nat.lt_of_le_of_lt foldU_len hb) fun b h' hsb hS2 => ?_
    refine wpAny_pure ⟨plainId_quiet PyProof.Rows.F.plain_set_update_loop _, ih (i + 1) _ _ hr' hlt (W.frame _ s' _ _ hst' (Nat.le_succ _) fun b hb o e => ?_) hb hS2 fun s'' hm'' hS'' => ?_⟩
    · rw [hsb.2 b (fun h : b = S => hSf (by rw [← h]; exact hb))]; exact e
    · refine hR s'' (Moved.trans W.gtrans ((hm.mono hsub).then_heap (Nat.le_succ _) fun b o hb e => ?_) hm'') hS''
      rw [hsb.2 b (fun h : b = S => hb (by rw [h]; exact List.mem_cons_self))]; exact e
end
section
variable {prog : Program} {w : World} {κ : Type} [DecidableEq κ] {knd : PySem.KeyKind prog w κ} {A : Around} {E : Value → Shared → Prop} {s : Shared}
theorem code_setNew1 (a : Value) {Q₁ : Value → Shared → Prop}
    (h : Q₁ (.ref s.heap.objs.size) { s with heap := s.heap.push { cls := .type "set", dict := none, data := .set #[] 0 (.fresh 0 0 (!w.params.followText "set-order")) } }) :
    codeAny (model prog w) A (.call (.builtin "set.__new__") ⟨[.type "set", a], []⟩) (wants Q₁ E) s := by
  refine codeAny_of_tree ?_
  show wpAny _ A.in1 (do checkBuiltinCall "set.__new__" ⟨[.type "set", a], []⟩; again (.builtin "set.__new__" ⟨[.type "set", a], []⟩)) _ _ s
  refine wpAny_bind (wpAny_of_eq (PySem.F.newCall_set_1 a) (wpAny_pure ⟨plainId_quiet PySem.F.plain_set_new _, codeAny_builtin PySem.F.entry_set_new ?_⟩))
  rw [Around.under_plainId PySem.F.plain_set_new _]
  unfold Builtin.«set.__new__» Builtin.Frozenset.newClass
  have hsub := sub_set_self
  obtain ⟨hp, g, d, tk, os⟩ := s
  dsimp only
  wp_walk
  refine wpAny_askSetting (wpAny_pure ?_)
  dsimp only
  simp only [newObj]
  refine wpAny_bind (wpAny_alloc (wpAny_pure ?_))
  exact wpAny_pure h
theorem setG_fresh {h : Heap} : SetG knd (h.push { cls := .type "set", dict := none, data := .set #[] 0 (.fresh 0 0 (!w.params.followText "set-order")) }) h.objs.size [] :=
  ⟨_, #[], 0, _, [], Heap.get?_push_size _ rfl, ⟨rfl, rfl, rfl⟩, rfl, rfl, (fun p hp => by simp at hp), .refl _, List.nodup_nil, (by decide), (by rfl), List.Pairwise.nil, by
    show _ ∨ (!w.params.followText "set-order") = true
    cases w.params.followText "set-order"
    · exact .inr rfl
    · exact .inl rfl⟩
set_option maxHeartbeats 3200000 in
theorem call_setG_seq {T : String} {dd : Option Addr} {nl : Nat} {sl : Array (Option Value)} {itO : Obj} {l : Addr} {items : Array Value} {xs : List κ} {Q : Value → Shared → Prop}
    (hh : A.handled = none) (hsls : isSubtype (.type T) (.type "set") = pure false) (hslf : isSubtype (.type T) (.type "frozenset") = pure false) (hne : (Value.type T == Value.type "dict") = false) (hol : s.heap.get? l = some { cls := .type T, dict := dd, data := .seq items nl, slots := sl })
    (hit : ∀ (A' : Around) (s' : Shared) (Q' : Value → Shared → Prop) (E' : Value → Shared → Prop), s'.heap.get? l = some { cls := .type T, dict := dd, data := .seq items nl, slots := sl } → Q' (.ref s'.heap.objs.size) { s' with heap := s'.heap.push itO } → wpAny (model prog w) A' (pyIter (.ref l)) Q' E' s')
    (hfr : itO.isFreed = false)
    (hW : ∀ (A' : Around) (I : Addr), A'.handled = none → l ≠ I → ∃ St : Nat → Heap → Prop, Walks prog w A' I [I, l] [I] items.size (fun i v => items[i]? = some v) St ∧ ∀ h : Heap, h.get? I = some itO → h.get? l = some { cls := .type T, dict := dd, data := .seq items nl, slots := sl } → St 0 h) (hsz : xs.length = items.size) (hval : ∀ (i : Nat) (v : Value), items[i]? = some v → ∃ k, xs[i]? = some k ∧ knd.is k v = true ∧ v.scannable = true) (hb : (ddU xs).length < scanBound)
    (h : ∀ (h' : Heap) (tk : Nat), SetG knd h' s.heap.objs.size (ddU xs) →
      (∀ b o, b < s.heap.objs.size → s.heap.get? b = some o → h'.get? b = some o) → Q (.ref s.heap.objs.size) { s with heap := h', toks := tk }) :
    wpAny (model prog w) A (call (.type "set") [.ref l]) Q E s := by
  obtain ⟨c, tl, hmro⟩ := PySem.F.called_set.mro
  have hmade := PySem.F.called_set.made
  have hsub := PySem.F.called_set.sub
  refine wpAny_call (codeAny_of_tree ?_)
  show wpAny _ _ (callAny (.type "set") _) _ _ _
  refine wpAny_pure ⟨Code.quiet_builtin _ (by decide +kernel), codeAny_builtin PySem.F.entry_type_call ?_⟩
  rw [Around.under_plain (weight_type_call_type "set" [.ref l] []) rfl]
  have h1 := PySem.F.called_set.notType
  have h2 := PySem.F.called_set.canCreate
  have hct := PySem.F.typeCall_set_1 (.ref l)
  repeat (any_goals (first | assumption | wp_step))
  refine codeAny_mono (code_setNew1 (.ref l) (E := E) (Q₁ := fun obj s₁ => obj = .ref s.heap.objs.size ∧ s₁ = { s with heap := s.heap.push { cls := .type "set", dict := none, data := .set #[] 0 (.fresh 0 0 (!w.params.followText "set-order")) } }) ⟨rfl, rfl⟩) fun r s₁ hr => ?_
  cases r with
  | error e => exact hr
  | ok fl =>
    cases fl with
    | ret obj =>
      obtain ⟨rfl, rfl⟩ := hr
      generalize hled : (!w.params.followText "set-order") = led
      have hS0 : SetG knd (s.heap.push { cls := .type "set", dict := none, data := .set #[] 0 (.fresh 0 0 led) }) s.heap.objs.size [] := by rw [← hled]; exact setG_fresh
      have hS : (s.heap.push { cls := .type "set", dict := none, data := .set #[] 0 (.fresh 0 0 led) }).get? s.heap.objs.size = some { cls := .type "set", dict := none, data := .set #[] 0 (.fresh 0 0 led) } := Heap.get?_push_size _ rfl
      have hT : Shared.TypeIs { s with heap := s.heap.push { cls := .type "set", dict := none, data := .set #[] 0 (.fresh 0 0 led) } } (.ref s.heap.objs.size) "set" := ⟨_, hS, rfl⟩
      have hli := PySem.F.called_set.init.lookup
      have hbi := PySem.F.called_set.init.bind (.ref s.heap.objs.size)
      repeat (any_goals (first | assumption | wp_step))
      refine codeAny_mono (codeAny_call_builtin (R := wants (fun r s₂ => r = .none ∧ ∃ h' tk, s₂ = { s with heap := h', toks := tk } ∧
          SetG knd h' s.heap.objs.size (ddU xs) ∧
          (∀ b o, b < s.heap.objs.size → s.heap.get? b = some o → h'.get? b = some o)) E) PySem.F.called_set.init.plain PySem.F.entry_set_init (check_set_init_1 hT ?_)) fun r₂ s₂ hr₂ => ?_
      · have hol' : (s.heap.push { cls := .type "set", dict := none, data := .set #[] 0 (.fresh 0 0 led) }).get? l = some { cls := .type T, dict := dd, data := .seq items nl, slots := sl } := Heap.get?_push_of_some _ hol
        unfold Builtin.«set.__init__» noKeywords Builtin.Frozenset.updateFrom
        generalize hPI : pyIter = PI
        wp_walk
        subst hPI
        refine hit _ _ _ _ hol' ?_
        refine wpAny_bind (wpAny_runValue ?_)
        have hlS : l < s.heap.objs.size := Heap.lt_size hol
        have hh3 : A.in1.in1.in1.handled = none := by simp [hh]
        have hneI : l ≠ (s.heap.push { cls := .type "set", dict := none, data := .set #[] 0 (.fresh 0 0 led) }).objs.size := by
          rw [Heap.size_push]; exact Nat.ne_of_lt (Nat.lt_succ_of_lt hlS)
        have hSf : s.heap.objs.size ∉ [(s.heap.push { cls := .type "set", dict := none, data := .set #[] 0 (.fresh 0 0 led) }).objs.size, l] := by
          rw [Heap.size_push]; simp only [List.mem_cons, List.mem_singleton, List.not_mem_nil, or_false, not_or]
          exact ⟨Nat.ne_of_lt (Nat.lt_succ_self _), Nat.ne_of_gt hlS⟩
        obtain ⟨St, W, W0⟩ := hW _ _ hh3 hneI
        refine setG_loop W.toS s.heap.objs.size
          hSf xs hsz hval xs 0 [] _ rfl (Nat.zero_le _)
          (W0 _ (Heap.get?_push_size _ hfr) (Heap.get?_push_of_some _ hol')) hb ?hS0 ?hR
        case hS0 => exact hS0.at fun o e => Heap.get?_push_of_some _ e
        case hR =>
          intro s' hm hS'
          obtain ⟨h', g', d', tk', os'⟩ := s'
          have eg : g' = s.gens := hm.gens
          have ed : d' = s.drawn := hm.drawn
          have eo : os' = s.os := hm.os
          subst eg; subst ed; subst eo
          show wpAny _ _ _ _ _ _
          refine wpAny_pure ?_
          show wpAny _ _ (ret Value.none) _ _ _
          refine wpAny_pure ⟨rfl, h', tk', rfl, hS', fun b o hb e => ?_⟩
          have hb1 : b ≠ s.heap.objs.size := Nat.ne_of_lt hb
          have hb2 : b ≠ (s.heap.push { cls := .type "set", dict := none, data := .set #[] 0 (.fresh 0 0 led) }).objs.size := by
            rw [Heap.size_push]; exact Nat.ne_of_lt (Nat.lt_succ_of_lt hb)
          exact hm.heap b o (by simp only [List.mem_cons, List.mem_singleton, List.not_mem_nil, or_false, not_or]; exact ⟨hb1, hb2⟩) (Heap.get?_push_of_some _ (Heap.get?_push_of_some _ e))
      · cases r₂ with
        | error e => exact hr₂
        | ok fl₂ =>
          cases fl₂ with
          | ret r =>
            obtain ⟨rfl, h', tk, rfl, hS', hk'⟩ := hr₂
            repeat (any_goals (first | assumption | wp_step))
            exact h _ _ hS' hk'
          | _ => exact hr₂.elim
    | _ => exact hr.elim
theorem call_setG_list {l : Addr} {items : Array Value} {xs : List κ} {Q : Value → Shared → Prop}
    (hh : A.handled = none) (hl : s.heap.IsList l items) (hsz : xs.length = items.size) (hval : ∀ (i : Nat) (v : Value), items[i]? = some v → ∃ k, xs[i]? = some k ∧ knd.is k v = true ∧ v.scannable = true) (hb : (ddU xs).length < scanBound)
    (h : ∀ (h' : Heap) (tk : Nat), SetG knd h' s.heap.objs.size (ddU xs) →
      (∀ b o, b < s.heap.objs.size → s.heap.get? b = some o → h'.get? b = some o) → Q (.ref s.heap.objs.size) { s with heap := h', toks := tk }) :
    wpAny (model prog w) A (call (.type "set") [.ref l]) Q E s := by
  obtain ⟨⟨ocls, odict, odata, oslots⟩, hol, hcl, nl, hdl⟩ := hl
  simp only at hcl hdl
  subst hcl; subst hdl
  exact call_setG_seq (itO := { cls := .type "list_iterator", data := .fields #[.ref l, .int 0 0] }) hh PySem.F.sub_list_set PySem.F.sub_list_frozenset (by decide) hol (fun A' s' Q' E' e q => wpAny_pyIter_list ⟨_, e, rfl, nl, rfl⟩ q) rfl
    (fun A' I a b => ⟨_, Walks.list a I l b items, fun h e1 e2 => ⟨⟨_, e1, rfl, rfl⟩, ⟨_, e2, rfl, nl, rfl⟩⟩⟩) hsz hval hb h
theorem call_setG_tuple {l : Addr} {items : Array Value} {xs : List κ} {Q : Value → Shared → Prop}
    (hh : A.handled = none) (hl : s.heap.IsTuple l items) (hsz : xs.length = items.size) (hval : ∀ (i : Nat) (v : Value), items[i]? = some v → ∃ k, xs[i]? = some k ∧ knd.is k v = true ∧ v.scannable = true) (hb : (ddU xs).length < scanBound)
    (h : ∀ (h' : Heap) (tk : Nat), SetG knd h' s.heap.objs.size (ddU xs) →
      (∀ b o, b < s.heap.objs.size → s.heap.get? b = some o → h'.get? b = some o) → Q (.ref s.heap.objs.size) { s with heap := h', toks := tk }) :
    wpAny (model prog w) A (call (.type "set") [.ref l]) Q E s := by
  obtain ⟨⟨ocls, odict, odata, oslots⟩, hol, hcl, nl, hdl⟩ := hl
  simp only at hcl hdl
  subst hcl; subst hdl
  exact call_setG_seq (itO := { cls := .type "tuple_iterator", data := .fields #[.ref l, .int 0 0] }) hh PySem.F.sub_tuple_set PySem.F.sub_tuple_frozenset (by decide) hol (fun A' s' Q' E' e q => wpAny_pyIter_tuple ⟨_, e, rfl, nl, rfl⟩ q) rfl
    (fun A' I a b => ⟨_, Walks.tuple a I l b items, fun h e1 e2 => ⟨⟨_, e1, rfl, rfl⟩, ⟨_, e2, rfl, nl, rfl⟩⟩⟩) hsz hval hb h
end
end CL
/-! CL31: len(set(xs)), sorted(set(xs)) -/
namespace CL
open PySem PySem.Spec PyProof.Rows L2
variable [LamT]
theorem foldU_map {κ μ : Type} [DecidableEq κ] [DecidableEq μ] {f : κ → μ} (inj : ∀ a b, f a = f b → a = b) : ∀ (xs ks : List κ), (xs.map f).foldl addU (ks.map f) = (xs.foldl addU ks).map f
  | [], ks => rfl
  | x :: xs, ks => by
    have e : addU (ks.map f) (f x) = (addU ks x).map f := by
      unfold addU
      by_cases h : x ∈ ks
      · rw [if_pos h, if_pos (List.mem_map_of_mem h)]
      · rw [if_neg h, if_neg (fun z => by
          obtain ⟨y, hy, e⟩ := List.mem_map.mp z
          exact h (inj _ _ e ▸ hy)), List.map_append, List.map_singleton]
    rw [List.map_cons, List.foldl_cons, List.foldl_cons, e, foldU_map inj xs (addU ks x)]
theorem ddU_map {κ μ : Type} [DecidableEq κ] [DecidableEq μ] {f : κ → μ} (inj : ∀ a b, f a = f b → a = b) (xs : List κ) : ddU (xs.map f) = (ddU xs).map f := foldU_map inj xs []
section
variable {P : Program} {w : World} {A : Around} {E : Value → Shared → Prop} {s : Shared} {a : Addr}
end
/-! ### as calls -/
def SetGO (P : Program) (w : World) (a : Addr) (ks : List Key) : HO := .ext fun h => SetG (mixKind P w) h a ks
section
variable {X : Cx}
theorem setGO_new {w : World} {P : Program} {H : Hp} {h : Heap} {a : Addr} {ks : List Key} (R : SetG (mixKind P w) h a ks) : ObjOk P w H h a (SetGO P w a ks) :=
  ⟨R, R.there, fun h1 h2 p k => SetG.at p k⟩
theorem setGO_get {pins : List (Addr × Obj)} {σ : L2.St} {H : Hp} {s : Shared} {a : Addr} {ks : List Key} (I : Inv X pins σ H s) (ha : H a = some (SetGO X.prog X.w a ks)) : SetG (mixKind X.prog X.w) s.heap a ks := (I.hok a _ ha).1
def rSetG (K : Fg) (P : Program) (w : World) : List V → Hp → VK → Prop := fun xs H Q => ∃ (l : Addr) (ks : List Key), xs = [V.ref l] ∧ (SqL K H l (ks.map kV) ∨ SqT K H l (ks.map kV)) ∧ (ddU ks).length < scanBound ∧
  ∀ p, H p = none → Q (.ref p) (upd H p (SetGO P w p (ddU ks)))
theorem keys_at {P : Program} {w : World} : ∀ {ks : List Key} {us : List Value}, Vals (ks.map kV) us → ∀ (i : Nat) (v : Value), us[i]? = some v → ∃ k, ks[i]? = some k ∧ (mixKind P w).is k v = true ∧ v.scannable = true
  | [], _, .nil, i, v, h => by simp at h
  | k :: ks, _, .cons r t, 0, v, h => by
    simp at h; subst h
    exact ⟨k, rfl, kV_is r, key_scan r⟩
  | k :: ks, _, .cons r t, i + 1, v, h => by
    simp only [List.getElem?_cons_succ] at h ⊢
    exact keys_at t i v h
theorem cr_setG (hc : X.calm = true) : CallR X (.type "set") (rSetG X.K X.prog X.w) := by
  intro pins s σ H xs us Q I r h
  obtain ⟨l, ks, rfl, hq, hb, q⟩ := h
  rw [Vals.ref1 r]
  have fin : ∀ (h' : Heap) (tk : Nat), SetG (mixKind X.prog X.w) h' s.heap.objs.size (ddU ks) → (∀ b o, b < s.heap.objs.size → s.heap.get? b = some o → h'.get? b = some o) →
      EP X pins σ Q (.ref s.heap.objs.size) { s with heap := h', toks := tk } := fun h' tk hS hk =>
    ⟨.ref _, upd H s.heap.objs.size (SetGO X.prog X.w s.heap.objs.size (ddU ks)), I.laid (t' := tk) (fun b u e => hk b u (Heap.lt_size e) e) (Nat.le_refl _) (setGO_new hS), rfl, q _ (I.hok.fresh (Nat.le_refl _))⟩
  rcases hq with hq | hq
  · obtain ⟨its, rv, pl, hz⟩ := I.list hq
    exact call_setG_list (knd := mixKind X.prog X.w) (I.ok.hd hc) pl.isList (by rw [List.size_toArray, ← rv.length, List.length_map]) (fun i v hv => keys_at rv i v (by simpa using hv)) hb fin
  · obtain ⟨its, rv, pl, hz⟩ := I.tuple hq
    exact call_setG_tuple (knd := mixKind X.prog X.w) (I.ok.hd hc) pl (by rw [List.size_toArray, ← rv.length, List.length_map]) (fun i v hv => keys_at rv i v (by simpa using hv)) hb fin
def rLenG (P : Program) (w : World) : List V → Hp → VK → Prop := fun xs H Q => ∃ (a : Addr) (ks : List Key), xs = [V.ref a] ∧ H a = some (SetGO P w a ks) ∧ Q (.int ks.length) H
theorem cr_lenG : CallR X (.builtin "len") (rLenG X.prog X.w) := by
  intro pins s σ H xs us Q I r h
  obtain ⟨a, ks, rfl, ha, q⟩ := h
  rw [Vals.ref1 r]
  obtain ⟨o, es, ep, t, ps, ho, hex, hd, ee, g, pm0, nd, hb, hf, hr, hl⟩ := setGO_get I ha
  have hn : es.size = ks.length := setG_len ee pm0
  have hb' : es.size < 4096 := hb
  refine call_len_set ho hex hd hf (by omega) ⟨.int ks.length, H, I.tok _, ⟨_, by rw [hn]⟩, q⟩
end
/-! ### clean readings -/
def asKeys : List Cv → Option (List Key)
  | [] => some []
  | w :: r => (keyC w).bind fun k => (asKeys r).map fun l => k :: l
theorem asKeys_ok {K : Fg} {Z : List Addr} {S : Sto} {H : Hp} : ∀ {ws : List Cv} {vs : List V} {ks : List Key}, Reps K Z S H ws vs → asKeys ws = some ks → vs = ks.map kV
  | [], _, _, .nil, e => by cases e; rfl
  | w :: ws, _, ks, .cons a r, e => by
    obtain ⟨k, e1, e⟩ := bind_some e
    obtain ⟨l, e2, e⟩ := map_some' e
    subst e
    rw [asKeys_ok r e2, keyC_rep e1 a]; rfl
theorem asKeys_strs : ∀ l : List Str, asKeys (l.map Cv.str) = some (l.map Sum.inr)
  | [] => rfl
  | x :: r => by rw [List.map_cons, asKeys, asKeys_strs r]; rfl
/-- len(set(x)) -/
def fLenSet (x : Cv) : Option Cv := (seqOf x).bind fun xs => (asKeys xs).bind fun ks => if decide ((ddU ks).length < 4096) = true then some (.int (ddU ks).length) else none
def cOfD (f : Cv → Option Cv) (te : CE) : CE := fun ws S Q => te ws S fun x S1 => match (deref x S1).bind f with | some v => Q v S1 | none => False
theorem mo_ofD {f : Cv → Option Cv} {te : CE} (h : MonE te) : MonE (cOfD f te) := fun ws S Q Q' g q => h _ _ _ _ (fun x S1 h1 => by
  split at h1
  · exact g _ _ h1
  · exact h1) q
section
variable {X : Cx} {x : Str} {p p2 q pos : Pos} {e : Expr} {te : CE}
theorem s_lenSet (hc : X.calm = true) (hm : X.mg "len" = none) (hm2 : X.mg "set" = none) (he : SE X e te) (hg : Gl X "len" := by rfl) (hg2 : Gl X "set" := by rfl)
    (hs : starEach [e] X.env = (false, eval e X.env) :: starEach [] X.env := by rfl)
    (hs2 : starEach [Expr.Call (.Name "set" p2) [e] [] q] X.env = (false, eval (.Call (.Name "set" p2) [e] [] q) X.env) :: starEach [] X.env := by rfl) :
    SE X (.Call (.Name "len" p) [.Call (.Name "set" p2) [e] [] q] [] pos) (cOfD fLenSet te) :=
  ⟨mo_ofD he.mono, (pe_callB cr_lenG hg hm (by decide +kernel) (pa_cons (pe_callTy (cr_setG hc) hg2 hm2 (by decide +kernel) (pa_cons he.ok pa_nil hs) (by decide) (by decide) hs) pa_nil hs2) (by decide) (by decide) hs2).imp fun σ H Q h => by
    obtain ⟨Z, S, ws, ok, re, h⟩ := h
    refine liftE_of he.mono ok re h fun x S1 vx H1 f1 ok1 r1 q1 => ?_
    split at q1
    · rename_i v ev
      obtain ⟨d, e1, ev⟩ := bind_some ev
      obtain ⟨xs, e2, ev⟩ := bind_some ev
      obtain ⟨ks, e3, ev⟩ := bind_some ev
      obtain ⟨hl, ev⟩ := ite_some ev
      subst ev
      obtain ⟨l, vs, rfl, hq, rr⟩ := (deref_ok ok1 r1 e1).seq e2
      have ek := asKeys_ok rr e3
      subst ek
      refine ⟨l, ks, rfl, hq, of_decide_eq_true hl, fun p hp => ⟨p, ddU ks, rfl, upd_same, ?_⟩⟩
      exact q1 _ _ (f1.trans (Fr.new hp)) (ok1.new hp) (.int _)
    · exact q1.elim⟩
theorem ev_ofD {f : Cv → Option Cv} {a : ME} (h : Ev te a) (hn : ∀ p, f (.ref p) = none) : Ev (cOfD f te) (mUn f a) := ⟨mo_ofD h.mono, fun {S0 S gs ws Q v} V e r => by
  obtain ⟨x, e1, e⟩ := bind_some e
  refine h.ok V e1 ?_
  have ed : deref x S = some x := by
    cases x <;> first | rfl | (rw [hn] at e; cases e)
  rw [ed]
  show match f x with | some v => _ | none => False
  rw [e]; exact r⟩
theorem nr_lenSet (p : Addr) : fLenSet (.ref p) = none := rfl
theorem q_lenSetL {ss : List Str} (h : (ddU ss).length < 4096) : fLenSet (.lst (ss.map Cv.str)) = some (.int (ddU ss).length) := by
  show (asKeys (ss.map Cv.str)).bind _ = _
  rw [asKeys_strs]
  have em : ddU (ss.map (Sum.inr : Str → Key)) = (ddU ss).map Sum.inr := ddU_map (fun a b e => Sum.inr.inj e) ss
  rw [Option.bind_some, em, List.length_map]
  exact if_pos (decide_eq_true h)
end
end CL
/-! CL32: dict displays; setdefault as a statement; statements without effects in X defs; raise where it is not reached -/
namespace CL
open PySem PySem.Spec PyProof.Rows L2
variable [LamT]
section
variable {K : Fg} {Z : List Addr} {S S' : Sto} {H H' : Hp}
mutual
theorem Rep.toOwnG {D : Addr} {ho : HO} {o : Ob} {Z' : List Addr} (hD : D ∈ Z) (hl : H D = some ho) (pl : plainO ho = true) (hz : ∀ a, a ∈ Z' → a ∈ Z) : ∀ {w : Cv} {v : V}, Rep K Z S H w v → Rep K Z' (S.set D o) H w v
  | _, _, .non => .non
  | _, _, .bl b => .bl b
  | _, _, .int i => .int i
  | _, _, .str x => .str x
  | _, _, .tup h n r => .tup h (by
      rw [Sto.set_ne]
      · exact n
      · intro e
        subst e
        rcases h with h | ⟨w, o, h⟩ <;> (rw [hl] at h; cases h; cases pl)) (Reps.toOwnG hD hl pl hz r)
  | _, _, .tupK h r => .tupK h (Reps.toOwnG hD hl pl hz r)
  | _, _, .lst h n z r => .lst h (by rw [Sto.set_ne (fun q => z (by rw [q]; exact hD))]; exact n) (fun q => z (hz _ q)) (Reps.toOwnG hD hl pl hz r)
  | _, _, .scr h n r => .scr h (by
      rw [Sto.set_ne]
      · exact n
      · intro e
        subst e
        rw [hl] at h; cases h; cases pl) (Reps.toOwnG hD hl pl hz r)
  | _, _, .tupF h n r d => .tupF h (by
      rw [Sto.set_ne]
      · exact n
      · intro e
        subst e
        rw [hl] at h; cases h; cases pl) (Reps.toOwnG hD hl pl hz r) d
  | _, _, .scrK h r => .scrK h (Reps.toOwnG hD hl pl hz r)
  | _, _, .dK h n z e r => .dK h (by rw [Sto.set_ne (fun q => z (by rw [q]; exact hD))]; exact n) (fun q => z (hz _ q)) e (Reps.toOwnG hD hl pl hz r)
  | _, _, .dT h n z e r => .dT h (by rw [Sto.set_ne (fun q => z (by rw [q]; exact hD))]; exact n) (fun q => z (hz _ q)) e (Reps.toOwnG hD hl pl hz r)
  | _, _, .ins h n z cq e r => .ins h (by rw [Sto.set_ne (fun q => z (by rw [q]; exact hD))]; exact n) (fun q => z (hz _ q)) cq e (Reps.toOwnG hD hl pl hz r)
  | _, _, .ref a => .ref a
  | _, _, .opq v => .opq v
  | _, _, .exc h n t o hd nd z e r => .exc h (by rw [Sto.set_ne (fun q => by subst q; rw [hl] at h; cases h; cases pl)]; exact n) t o hd (by rw [Sto.set_ne (fun q => z (by rw [q]; exact hD))]; exact nd) (fun q => z (hz _ q)) e (Reps.toOwnG hD hl pl hz r)
  | _, _, .excN h n t o => .excN h (by rw [Sto.set_ne (fun q => by subst q; rw [hl] at h; cases h; cases pl)]; exact n) t o
  | _, _, .lam h n r => .lam h (by rw [Sto.set_ne (fun q => by subst q; rw [hl] at h; cases h; exact Bool.noConfusion (show false = true from pl))]; exact n) (Reps.toOwnG hD hl pl hz r)
  | _, _, .cls h => .cls h
theorem Reps.toOwnG {D : Addr} {ho : HO} {o : Ob} {Z' : List Addr} (hD : D ∈ Z) (hl : H D = some ho) (pl : plainO ho = true) (hz : ∀ a, a ∈ Z' → a ∈ Z) : ∀ {ws : List Cv} {vs : List V}, Reps K Z S H ws vs → Reps K Z' (S.set D o) H ws vs
  | _, _, .nil => .nil
  | _, _, .cons a r => .cons (Rep.toOwnG hD hl pl hz a) (Reps.toOwnG hD hl pl hz r)
end
theorem RepOb.toOwnG {D a : Addr} {ho : HO} {o u : Ob} {Z' : List Addr} (hD : D ∈ Z) (hl : H D = some ho) (pl : plainO ho = true) (hz : ∀ a, a ∈ Z' → a ∈ Z) (h : RepOb K Z S H a u) : RepOb K Z' (S.set D o) H a u := by
  cases u with
  | lst ws => obtain ⟨vs, h1, h2⟩ := h; exact ⟨vs, h1, h2.toOwnG hD hl pl hz⟩
  | dK ws => obtain ⟨vs, h1, h3, h2⟩ := h; exact ⟨vs, h1, h3, h2.toOwnG hD hl pl hz⟩
  | dT ws => obtain ⟨vs, h1, h3, h2⟩ := h; exact ⟨vs, h1, h3, h2.toOwnG hD hl pl hz⟩
  | ins q fs => obtain ⟨vs, h1, h3, h2⟩ := h; exact ⟨vs, h1, h3, h2.toOwnG hD hl pl hz⟩
  | dL C dx fs => obtain ⟨vs, h1, h3, h2⟩ := h; exact ⟨vs, h1, h3, h2.toOwnG hD hl pl hz⟩
end
theorem RoomG.u1 {k : Nat} {A : Around} (r : RoomG k A) : A.units + 1 < cLine := by have := r.u4; omega
/-! ### displays -/
def cPairs : List (CE × CE) → CL.Env → Sto → (List (Cv × Cv) → Sto → Prop) → Prop
  | [], _, S, Q => Q [] S
  | (tk, tv) :: r, ws, S, Q => tk ws S fun x S1 => tv ws S1 fun y S2 => cPairs r ws S2 fun ps S3 => Q ((x, y) :: ps) S3
def keysP : List (Cv × Cv) → Option (List (Key × Cv))
  | [] => some []
  | p :: r => (keyC p.1).bind fun k => (keysP r).map fun l => (k, p.2) :: l
def mergeC (kws more : List (Key × Cv)) : List (Key × Cv) := more.foldl (fun acc kv => putC acc kv.1 kv.2) kws
structure SPs (X : Cx) (pos : Pos) (keys : List (Option Expr)) (values : List Expr) (trs : List (CE × CE)) : Prop where
  mono : ∀ t ∈ trs, MonE t.1 ∧ MonE t.2
  ok : PPs X pos keys values (trs.map fun t => (liftE X.K t.1, liftE X.K t.2))
section
variable {K : Fg} {Z : List Addr} {σ : L2.St} {ws : CL.Env}
end
section
variable {X : Cx} {pos : Pos} {keys : List (Option Expr)} {values : List Expr} {trs : List (CE × CE)}
theorem RepSt.newD {K : Fg} {Z : List Addr} {S : Sto} {H : Hp} {σ : L2.St} {ws : CL.Env} {D : Addr} {o : HO} (h : RepSt K Z S H σ ws) (hD : H D = none) (nt : isTbl o = false := by rfl) : RepSt K (D :: Z) S (upd H D o) σ ws :=
  ⟨h.1, fun i w e => let ⟨v, h1, h2⟩ := h.2 i w e; ⟨v, h1, h2.newD hD nt⟩⟩
end
/-! computed -/
def mPairs : List (ME × ME) → MEnv → Option (List (Cv × Cv))
  | [], _ => some []
  | (a, b) :: r, gs => (a gs).bind fun x => (b gs).bind fun y => (mPairs r gs).map fun l => (x, y) :: l
def mDisp (ms : List (ME × ME)) : ME := fun gs => (mPairs ms gs).bind fun ps => (keysP ps).bind fun kws => if decide (kws.length ≤ 15) = true then some (.dK (mergeC [] kws)) else none
inductive EvPs : List (CE × CE) → List (ME × ME) → Prop
  | nil : EvPs [] []
  | cons {tk tv : CE} {a b : ME} {r : List (CE × CE)} {s : List (ME × ME)} : Ev tk a → Ev tv b → EvPs r s → EvPs ((tk, tv) :: r) ((a, b) :: s)
theorem EvPs.mono : ∀ {r : List (CE × CE)} {s : List (ME × ME)}, EvPs r s → ∀ t ∈ r, MonE t.1 ∧ MonE t.2
  | _, _, .nil, t, h => absurd h (by simp)
  | _, _, .cons a b c, t, h => by
    rcases List.mem_cons.mp h with e | h
    · rw [e]; exact ⟨a.mono, b.mono⟩
    · exact c.mono t h
theorem EvPs.ok : ∀ {r : List (CE × CE)} {s : List (ME × ME)}, EvPs r s → ∀ {S0 S gs ws Q v}, View S0 S gs ws → mPairs s gs = some v → Q v S → cPairs r ws S Q
  | _, _, .nil, _, _, _, _, _, _, V, e, q => by cases e; exact q
  | _, _, .cons a b c, _, _, _, _, _, _, V, e, q => by
    obtain ⟨x, e1, e⟩ := bind_some e
    obtain ⟨y, e2, e⟩ := bind_some e
    obtain ⟨l, e3, e⟩ := map_some' e
    subst e
    exact a.ok V e1 (b.ok V e2 (c.ok V e3 q))
/-! ### setdefault -/
def fSetd : Cv → Cv → Cv → Option (Cv × Cv)
  | .dK kws, y, z => (keyC y).bind fun k => if decide (kws.length < 1000000) = true then some ((valC kws k).getD z, .dK (if (valC kws k).isSome = true then kws else putC kws k z)) else none
  | _, _, _ => none
def mSetd (i : Nat) (k a : ME) : MS := fun gs => ((slO gs[i]?).bind dkOnly).bind fun d => (k gs).bind fun y => (a gs).bind fun z => (fSetd d y z).map fun r => .nx (gs.set i (.ow r.2))
def mAsgSetd (j i : Nat) (k a : ME) : MS := fun gs => ((slO gs[i]?).bind dkOnly).bind fun d => (k gs).bind fun y => (a gs).bind fun z => (fSetd d y z).map fun r => .nx ((gs.set i (.ow r.2)).set j (.pl r.1))
/-! ### statements without effects, in defs with effects -/
def xM (m : MS) : XS := fun gs => (m gs).bind fun | .nx gs' => some (.nx gs') | _ => none
/-! ### raise, not reached -/
end CL
/-! CL33: how the new computed readings rewrite; dicts of texts -/
namespace CL
open PySem PySem.Spec PyProof.Rows L2
variable [LamT]
theorem foldU_le {κ : Type} [DecidableEq κ] : ∀ (xs ks : List κ), (xs.foldl addU ks).length ≤ ks.length + xs.length
  | [], ks => by simp
  | x :: xs, ks => by
    have := foldU_le xs (addU ks x)
    have h : (addU ks x).length ≤ ks.length + 1 := by
      unfold addU
      split
      · omega
      · simp
    rw [List.foldl_cons, List.length_cons]
    omega
theorem ddU_le {κ : Type} [DecidableEq κ] (xs : List κ) : (ddU xs).length ≤ xs.length := by
  have := foldU_le xs []
  rw [List.length_nil] at this
  unfold ddU
  omega
theorem q_dc {ti : MA} {g : MG} {tt : MT} {tk tv : ME} {vs : List Nat} {gs : MEnv} : mDc ti g tt tk tv vs gs = (ti gs).bind fun xs => if lenOk xs.length = true then (mDcL g tt tk tv (mwipe gs vs) xs []).map .dK else none := rfl
theorem q_disp1 {a b : ME} {gs : MEnv} : mDisp [(a, b)] gs = (a gs).bind fun x => (b gs).bind fun y => (keyC x).map fun k => .dK [(k, y)] := by
  show ((a gs).bind fun x => (b gs).bind fun y => (mPairs [] gs).map fun l => (x, y) :: l).bind _ = _
  cases a gs with
  | none => rfl
  | some x =>
    cases b gs with
    | none => rfl
    | some y =>
      show ((keyC x).bind fun k => (keysP []).map fun l => (k, y) :: l).bind _ = (keyC x).map _
      cases keyC x <;> rfl
theorem q_keyS {x : Str} : keyC (.str x) = some (.inr x) := rfl
theorem q_keyI {x : Int} : keyC (.int x) = some (.inl x) := rfl
theorem q_mrg0 {kws : List (Key × Cv)} : mergeC kws [] = kws := rfl
theorem q_mrg {kws r : List (Key × Cv)} {p : Key × Cv} : mergeC kws (p :: r) = mergeC (putC kws p.1 p.2) r := rfl
theorem q_put0 {k : Key} {v : Cv} : putC [] k v = [(k, v)] := rfl
theorem q_dkOnly {kws : List (Key × Cv)} : dkOnly (.dK kws) = some (.dK kws) := rfl
theorem q_dput {i : Nat} {k a : ME} {gs : MEnv} : mDPut i k a gs = ((slO gs[i]?).bind dkOnly).bind fun d => (a gs).bind fun v => (k gs).bind fun y => (mDPut.fDPut d y v).map fun d => .nx (gs.set i (.ow d)) := rfl
theorem q_setd {i : Nat} {k a : ME} {gs : MEnv} : mSetd i k a gs = ((slO gs[i]?).bind dkOnly).bind fun d => (k gs).bind fun y => (a gs).bind fun z => (fSetd d y z).map fun r => .nx (gs.set i (.ow r.2)) := rfl
theorem q_asgSetd {i j : Nat} {k a : ME} {gs : MEnv} : mAsgSetd j i k a gs = ((slO gs[i]?).bind dkOnly).bind fun d => (k gs).bind fun y => (a gs).bind fun z => (fSetd d y z).map fun r => .nx ((gs.set i (.ow r.2)).set j (.pl r.1)) := rfl
theorem q_fDIx {kws : List (Key × Cv)} {y : Cv} : fDIx (.dK kws) y = (keyC y).bind (valC kws) := rfl
theorem q_fDIn {kws : List (Key × Cv)} {y : Cv} {ng : Bool} : fDIn ng y (.dK kws) = (keyC y).map fun k => .bl (if ng = true then !(valC kws k).isSome else (valC kws k).isSome) := rfl
theorem q_dget2 {a b c : ME} {gs : MEnv} : mDGet2 a b c gs = ((a gs).bind dkOnly).bind fun d => (b gs).bind fun y => (c gs).bind fun z => fDGet2 d y z := rfl
theorem q_dget1 {a b : ME} {gs : MEnv} : mDGet1 a b gs = ((a gs).bind dkOnly).bind fun d => (b gs).bind fun y => fDGet1 d y := rfl
theorem q_fget2 {kws : List (Key × Cv)} {y z : Cv} : fDGet2 (.dK kws) y z = (keyC y).map fun k => (valC kws k).getD z := rfl
theorem q_fget1 {kws : List (Key × Cv)} {y : Cv} : fDGet1 (.dK kws) y = (keyC y).map fun k => (valC kws k).getD .non := rfl
def rzN : Rz → Option Rx
  | .nx gs => some (.nx gs)
  | _ => none
theorem w_m {m : MS} {gs : MEnv} : xM m gs = (m gs).bind rzN := by
  unfold xM
  congr 1
theorem w_rzN {gs : MEnv} : rzN (.nx gs) = some (.nx gs) := rfl
end CL
/-! CL34: the shape of drawn conditions and rules -/
namespace CL
open PySem PySem.Spec PyProof.Rows L2
variable [LamT]
theorem q_ev0 : (true = true) = True := eq_self true
mutual
/-- all lists of parts have one to six -/
def wsh : Cd → Bool
  | .rg _ _ _ => true
  | .no c => wsh c
  | .al _ cs => decide (1 ≤ cs.length ∧ cs.length ≤ 6) && wshs cs
def wshs : List Cd → Bool
  | [] => true
  | c :: r => wsh c && wshs r
end
theorem wshs_of : ∀ {cs : List Cd}, (∀ c ∈ cs, wsh c = true) → wshs cs = true
  | [], _ => rfl
  | c :: r, h => by rw [wshs, h c List.mem_cons_self, wshs_of fun d hd => h d (List.mem_cons_of_mem _ hd)]; rfl
theorem wshs_mem : ∀ {cs : List Cd}, wshs cs = true → ∀ c ∈ cs, wsh c = true
  | [], _, c, h => absurd h (by simp)
  | d :: r, w, c, h => by
    rw [wshs, Bool.and_eq_true] at w
    rcases List.mem_cons.mp h with e | e
    · rw [e]; exact w.1
    · exact wshs_mem w.2 c e
/-- drawn at most so deep -/
def shC (k : Nat) (c : Cd) : Prop := wsh c = true ∧ dp c ≤ k ∧ (ins c).length ≤ 3 ^ k
theorem shC.mono {k l : Nat} {c : Cd} (h : shC k c) (hl : k ≤ l) : shC l c := ⟨h.1, by have := h.2.1; omega, Nat.le_trans h.2.2 (Nat.pow_le_pow_right (by decide) hl)⟩
theorem shC_rg {k : Nat} {m lo hi : Int} : shC k (.rg m lo hi) := ⟨rfl, Nat.zero_le _, by
  show 1 ≤ 3 ^ k
  exact Nat.pow_pos (by decide)⟩
theorem shC_no {k : Nat} {c : Cd} (h : shC k c) : shC (k + 1) (.no c) := ⟨h.1, by rw [dp]; have := h.2.1; omega, by rw [ins]; exact Nat.le_trans h.2.2 (Nat.pow_le_pow_right (by decide) (by omega))⟩
theorem shC_al {k : Nat} {b : Bool} {cs : List Cd} (h1 : 1 ≤ cs.length) (h3 : cs.length ≤ 3) (h : ∀ c ∈ cs, shC k c) : shC (k + 1) (.al b cs) := by
  refine ⟨?_, ?_, ?_⟩
  · rw [wsh, wshs_of fun c hc => (h c hc).1, decide_eq_true ⟨h1, by omega⟩]; rfl
  · rw [dp]; have := dps_le (n := k) fun c hc => (h c hc).2.1; omega
  · rw [ins, inss_map]
    have key : ∀ l : List Cd, (∀ c ∈ l, shC k c) → (l.flatMap ins).length ≤ 3 ^ k * l.length := fun l hl => by
      induction l with
      | nil => simp
      | cons c l ih =>
        have a := (hl c List.mem_cons_self).2.2
        have b := ih fun d hd => hl d (List.mem_cons_of_mem _ hd)
        rw [List.flatMap_cons, List.length_append, List.length_cons, Nat.mul_add]
        omega
    have a := key cs h
    have b : 3 ^ k * cs.length ≤ 3 ^ k * 3 := Nat.mul_le_mul_left _ h3
    have e : 3 ^ (k + 1) = 3 ^ k * 3 := rfl
    omega
/-- drawn rules: t, behind so many rows the conditions are small -/
structure shR (t : Nat) (r : Rl) : Prop where
  rows : r.rows.length ≤ 6
  cd : ∀ x ∈ r.rows, shC 2 x.2
  few : t < r.rows.length → ∀ x ∈ r.rows, shC 1 x.2
  names : ∃ ss : List Str, ss.length ≤ 5 ∧ (∀ x ∈ ss, x ∈ forms8) ∧ r.last ∈ ss ∧ ∀ x ∈ r.rows, x.1 ∈ ss
/-- rules near them -/
structure shB (r : Rl) : Prop where
  rows : r.rows.length ≤ 7
  cd : ∀ x ∈ r.rows, shC 2 x.2
theorem shR.B {t : Nat} {r : Rl} (h : shR t r) : shB r := ⟨by have := h.rows; omega, h.cd⟩
/-! loops, by what stands behind so many turns -/
theorem m_forS {G : MG} {p : MS} {vs : List Nat} {v : Cv} {xs : List Cv} {gs g2 : MEnv} (h : (G v gs).bind p = some (.nx g2)) : mForL G p vs (v :: xs) gs = mForL G p vs xs (mwipe g2 vs) := by
  obtain ⟨g1, e1, e2⟩ := bind_some h
  rw [q_forL, e1, Option.bind_some, e2, Option.bind_some, q_loopN]
theorem m_forP_go {α : Type} (e : α → Cv) {G : MG} {p : MS} {vs : List Nat} (St : List α → MEnv) : ∀ (l2 l1 : List α), (∀ m1 a m2, l1 ++ l2 = m1 ++ a :: m2 → ∃ g2, (G (e a) (St m1)).bind p = some (.nx g2) ∧ mwipe g2 vs = St (m1 ++ [a])) → mForL G p vs (l2.map e) (St l1) = some (.nx (St (l1 ++ l2)))
  | [], l1, _ => by rw [List.append_nil]; rfl
  | a :: l2, l1, h => by
    obtain ⟨g2, e1, e2⟩ := h l1 a l2 rfl
    rw [List.map_cons, m_forS e1, e2, m_forP_go e St l2 (l1 ++ [a]) fun m1 b m2 q => h m1 b m2 (by rw [← q, List.append_assoc]; rfl), List.append_assoc]
    rfl
theorem m_forP {α : Type} (e : α → Cv) {G : MG} {p : MS} {vs : List Nat} (St : List α → MEnv) (as : List α) (h : ∀ m1 a m2, as = m1 ++ a :: m2 → ∃ g2, (G (e a) (St m1)).bind p = some (.nx g2) ∧ mwipe g2 vs = St (m1 ++ [a])) : mForL G p vs (as.map e) (St []) = some (.nx (St as)) :=
  m_forP_go e St as [] h
theorem q_rngN {n : Nat} (h : n ≤ 1000000000) : fRng1 [.int ((n : Nat) : Int)] = some ((List.range' 0 n).map fun (k : Nat) => Cv.int (k : Nat)) := by
  rw [q_rngI (k := ((n : Nat) : Int)) (by omega), iota_nat, Int.toNat_natCast]
end CL
/-! CL35: own dicts read where they stand; written in defs that draw -/
namespace CL
open PySem PySem.Spec PyProof.Rows L2
variable [LamT]
def mOIx (i : Nat) (b : ME) : ME := fun gs => ((slO gs[i]?).bind dkOnly).bind fun d => (b gs).bind fun y => fDIx d y
def mOIn (ng : Bool) (b : ME) (i : Nat) : ME := fun gs => (b gs).bind fun y => ((slO gs[i]?).bind dkOnly).bind fun d => fDIn ng y d
def mOGet2 (i : Nat) (b c : ME) : ME := fun gs => ((slO gs[i]?).bind dkOnly).bind fun d => (b gs).bind fun y => (c gs).bind fun z => fDGet2 d y z
def mOGet1 (i : Nat) (b : ME) : ME := fun gs => ((slO gs[i]?).bind dkOnly).bind fun d => (b gs).bind fun y => fDGet1 d y
section
variable {ty tz : CE} {b c : ME} {i : Nat}
theorem q_oIx {gs : MEnv} : mOIx i b gs = ((slO gs[i]?).bind dkOnly).bind fun d => (b gs).bind fun y => fDIx d y := rfl
theorem q_oIn {ng : Bool} {gs : MEnv} : mOIn ng b i gs = (b gs).bind fun y => ((slO gs[i]?).bind dkOnly).bind fun d => fDIn ng y d := rfl
theorem q_oGet2 {gs : MEnv} : mOGet2 i b c gs = ((slO gs[i]?).bind dkOnly).bind fun d => (b gs).bind fun y => (c gs).bind fun z => fDGet2 d y z := rfl
theorem q_oGet1 {gs : MEnv} : mOGet1 i b gs = ((slO gs[i]?).bind dkOnly).bind fun d => (b gs).bind fun y => fDGet1 d y := rfl
end
end CL
/-! CL36: rules by how great they are -/
namespace CL
open PySem PySem.Spec PyProof.Rows L2
variable [LamT]
structure gC (D N : Nat) (c : Cd) : Prop where
  sh : wsh c = true
  dp : CL.dp c ≤ D
  ins : (CL.ins c).length ≤ N
  ok : ∀ g ∈ CL.ins c, okRg g
theorem gC.mono {D N D' N' : Nat} {c : Cd} (h : gC D N c) (hd : D ≤ D') (hn : N ≤ N') : gC D' N' c := ⟨h.sh, Nat.le_trans h.dp hd, Nat.le_trans h.ins hn, h.ok⟩
mutual
theorem ins_pos : ∀ {c : Cd}, wsh c = true → 1 ≤ (ins c).length
  | .rg _ _ _, _ => Nat.le_refl _
  | .no c, h => by rw [ins]; exact ins_pos (c := c) h
  | .al b cs, h => by
    rw [wsh, Bool.and_eq_true, decide_eq_true_eq] at h
    rw [ins]
    exact Nat.le_trans h.1.1 (inss_pos h.2)
theorem inss_pos : ∀ {cs : List Cd}, wshs cs = true → cs.length ≤ (inss cs).length
  | [], _ => Nat.zero_le _
  | c :: r, h => by
    rw [wshs, Bool.and_eq_true] at h
    have a := ins_pos h.1
    have b := inss_pos h.2
    rw [inss, List.length_append, List.length_cons]; omega
end
mutual
theorem blk_le : ∀ {c : Cd}, wsh c = true → ∀ {D : Nat}, dp c ≤ D → blk (enc c) ≤ (ins c).length * (7 + 6 * D)
  | .rg _ _ _, _, D, _ => by
    show 6 ≤ 1 * (7 + 6 * D)
    omega
  | .no c, h, D, hd => by
    rw [dp] at hd
    obtain ⟨D, rfl⟩ : ∃ E, D = E + 1 := ⟨D - 1, by omega⟩
    have a := blk_le (c := c) h (D := D) (by omega)
    have p := ins_pos (c := c) h
    rw [enc, ins]
    show 3 + 1 + (blk (enc c) + 1 + 0) ≤ _
    have : (ins c).length * (7 + 6 * (D + 1)) = (ins c).length * (7 + 6 * D) + (ins c).length * 6 := by
      rw [← Nat.mul_add, show 7 + 6 * (D + 1) = 7 + 6 * D + 6 by omega]
    omega
  | .al b cs, h, D, hd => by
    rw [wsh, Bool.and_eq_true, decide_eq_true_eq] at h
    rw [dp] at hd
    obtain ⟨D, rfl⟩ : ∃ E, D = E + 1 := ⟨D - 1, by omega⟩
    have a := blks_le' h.2 (D := D) (by omega)
    have p := inss_pos h.2
    have e : blk (.str (if b = true then "all" else "any")) = 3 := by cases b <;> rfl
    rw [enc, ins]
    show blk (.str (if b = true then "all" else "any")) + 1 + (blks (encs cs) + 1 + 0) ≤ _
    rw [e]
    have : (inss cs).length * (7 + 6 * (D + 1)) = (inss cs).length * (7 + 6 * D) + (inss cs).length * 6 := by
      rw [← Nat.mul_add, show 7 + 6 * (D + 1) = 7 + 6 * D + 6 by omega]
    omega
theorem blks_le' : ∀ {cs : List Cd}, wshs cs = true → ∀ {D : Nat}, dps cs ≤ D → blks (encs cs) ≤ (inss cs).length * (7 + 6 * D) + cs.length
  | [], _, D, _ => Nat.zero_le _
  | c :: r, h, D, hd => by
    rw [wshs, Bool.and_eq_true] at h
    rw [dps] at hd
    have a := blk_le h.1 (D := D) (by omega)
    have b := blks_le' h.2 (D := D) (by omega)
    rw [encs, inss, List.length_append, List.length_cons, Nat.add_mul]
    show blk (enc c) + 1 + blks (encs r) ≤ _
    omega
end
mutual
theorem wd_le : ∀ {c : Cd}, wsh c = true → wd c ≤ 6
  | .rg _ _ _, _ => Nat.zero_le _
  | .no c, h => by rw [wd]; exact wd_le (c := c) h
  | .al b cs, h => by
    rw [wsh, Bool.and_eq_true, decide_eq_true_eq] at h
    have := wds_le6 h.2
    rw [wd]; omega
theorem wds_le6 : ∀ {cs : List Cd}, wshs cs = true → wds cs ≤ 6
  | [], _ => Nat.zero_le _
  | c :: r, h => by
    rw [wshs, Bool.and_eq_true] at h
    have a := wd_le h.1
    have b := wds_le6 h.2
    rw [wds]; omega
end
theorem gC.D {D N : Nat} {c : Cd} (h : gC D N c) (hd : D ≤ 5) (hn : N ≤ 150) : goodD c := by
  refine ⟨Nat.le_trans h.dp hd, by have := h.ins; omega, h.ok, by have := wd_le h.sh; omega, ?_⟩
  have a := blk_le h.sh (D := 5) (Nat.le_trans h.dp hd)
  have b : (CL.ins c).length ≤ 150 := Nat.le_trans h.ins hn
  omega
structure gR (D N W : Nat) (r : Rl) : Prop where
  rows : r.rows.length ≤ W
  last : isWord r.last = true
  cd : ∀ x ∈ r.rows, isWord x.1 = true ∧ gC D N x.2
theorem gR.B {D N W : Nat} {r : Rl} (h : gR D N W r) (hd : D ≤ 5 := by decide) (hn : N ≤ 150 := by decide) (hw : W ≤ 20 := by decide) : goodB r :=
  ⟨Nat.le_trans h.rows hw, h.last, fun x hx => ⟨(h.cd x hx).1, (h.cd x hx).2.D hd hn⟩⟩
theorem gR.mono {D N W D' N' W' : Nat} {r : Rl} (h : gR D N W r) (hd : D ≤ D' := by decide) (hn : N ≤ N' := by decide) (hw : W ≤ W' := by decide) : gR D' N' W' r :=
  ⟨Nat.le_trans h.rows hw, h.last, fun x hx => ⟨(h.cd x hx).1, (h.cd x hx).2.mono hd hn⟩⟩
theorem gC.shC {c : Cd} (h : gC 2 9 c) : shC 2 c := ⟨h.sh, h.dp, h.ins⟩
theorem gR.shB {r : Rl} (h : gR 2 9 7 r) : shB r := ⟨h.rows, fun x hx => (h.cd x hx).2.shC⟩
theorem gR.sub {D N W : Nat} {r s : Rl} (h : gR D N W r) (e : s.last = r.last) (hl : s.rows.length ≤ r.rows.length) (hs : ∀ x ∈ s.rows, x ∈ r.rows) : gR D N W s :=
  ⟨Nat.le_trans hl h.rows, by rw [e]; exact h.last, fun x hx => h.cd x (hs x hx)⟩
theorem goodB.small {r : Rl} (h : goodB r) : smallV (eR r) = true ∧ dep (eR r) ≤ 14 ∧ blk (eR r) ≤ 128450 := by
  obtain ⟨h1, h2, h3⟩ := h
  obtain ⟨l1, l2⟩ := word_small h2
  obtain ⟨a, b⟩ := rowsB_small h3
  refine ⟨?_, ?_, ?_⟩
  · show (smallVs (r.rows.map eRow) && (smallV (.str r.last) && true)) = true
    rw [a, l1]; rfl
  · show max (deps (r.rows.map eRow) + 1) (max (dep (.str r.last)) 0) + 1 ≤ 14
    have e : dep (.str r.last) = 0 := rfl
    omega
  · have bl : ∀ l : List (Str × Cd), (∀ x ∈ l, blk (eRow x) ≤ 6420) → blks (l.map eRow) ≤ 6421 * l.length := fun l => by
      induction l with
      | nil => intro _; exact Nat.zero_le _
      | cons x l ih =>
        intro hx
        have a := hx x List.mem_cons_self
        have b := ih fun y hy => hx y (List.mem_cons_of_mem _ hy)
        show blk (eRow x) + 1 + blks (l.map eRow) ≤ _
        rw [List.length_cons]
        omega
    have := bl r.rows fun x hx => by
      have f2 := (word_small (h3 x hx).1).2
      have c4 := (h3 x hx).2.2.2.2.2
      show blk (.str x.1) + 1 + (blk (enc x.2) + 1 + 0) ≤ 6420
      omega
    show blks (r.rows.map eRow) + 1 + (blk (.str r.last) + 1 + 0) ≤ 128450
    omega
/-! dicts by their keys -/
theorem valC_put {κ : Type} [DecidableEq κ] {kws : List (κ × Cv)} {k k' : κ} {v : Cv} : valC (putC kws k v) k' = if k' = k then some v else valC kws k' := by
  unfold valC putC
  by_cases h : (kws.any fun kv => decide (kv.1 = k)) = true
  · rw [if_pos h]
    induction kws with
    | nil => simp at h
    | cons p r ih =>
      rw [List.map_cons, List.find?_cons, List.find?_cons]
      by_cases hp : p.1 = k
      · rw [if_pos hp]
        by_cases e : k' = k
        · rw [if_pos e, show decide (p.1 = k') = true from decide_eq_true (by rw [hp, e])]; rfl
        · rw [if_neg e, show decide (p.1 = k') = false from decide_eq_false (by rw [hp]; exact fun z => e z.symm)]
          by_cases hr : (r.any fun kv => decide (kv.1 = k)) = true
          · have := ih hr
            rw [if_neg e] at this
            exact this
          · have er : r.map (fun kv => if kv.1 = k then (kv.1, v) else kv) = r := by
              conv => rhs; rw [← List.map_id r]
              refine List.map_congr_left fun q hq => ?_
              by_cases hk : q.1 = k
              · exact absurd (List.any_eq_true.mpr ⟨q, hq, decide_eq_true hk⟩) hr
              · rw [if_neg hk]; rfl
            simp only [er]
      · rw [if_neg hp]
        rw [List.any_cons, decide_eq_false hp, Bool.false_or] at h
        cases hd : decide (p.1 = k') with
        | true =>
          have := of_decide_eq_true hd
          rw [if_neg (fun e => hp (by rw [this, e]))]
        | false => exact ih h
  · rw [if_neg h, List.find?_append]
    by_cases e : k' = k
    · subst e
      have : kws.find? (fun kv => decide (kv.1 = k')) = none := by
        rw [List.find?_eq_none]
        intro q hq hk
        exact h (List.any_eq_true.mpr ⟨q, hq, hk⟩)
      rw [this, if_pos rfl, List.find?_cons, decide_eq_true rfl]; rfl
    · rw [if_neg e, List.find?_cons, decide_eq_false (fun z => e z.symm)]
      cases kws.find? (fun kv => decide (kv.1 = k')) <;> rfl
end CL
/-! CL37: sorted(d.items()) of a dict from texts to texts -/
namespace CL
open PySem PySem.Spec PyProof.Rows L2
variable [LamT]
open Srt SrtO
section
variable {prog : Program} {w : World} {A : Around} {E : Value → Shared → Prop} {s : Shared}
/-- a tuple of two texts -/
def IsP2 (h : Heap) (v : Value) (p : Str × Str) : Prop := ∃ (a : Addr) (o : Obj) (t u : Tok) (n : Nat), v = .ref a ∧ h.get? a = some o ∧ o.cls = .type "tuple" ∧ o.data = .seq #[.str p.1 t, .str p.2 u] n
theorem IsP2.keeps {h h' : Heap} {v : Value} {p : Str × Str} (x : IsP2 h v p) (k : ∀ b o, h.get? b = some o → o.cls = .type "tuple" → h'.get? b = some o) : IsP2 h' v p := by
  obtain ⟨a, o, t, u, n, e, ho, hc, hd⟩ := x
  exact ⟨a, o, t, u, n, e, k _ _ ho hc, hc, hd⟩
end
section
variable {X : Cx}
end
/-! ### clean -/
section
variable {X : Cx} {p q pos apos : Pos} {e : Expr} {te : CE}
end
end CL
/-! CL38: tuples that stand in the module; max of a tuple -/
namespace CL
open PySem PySem.Spec PyProof.Rows L2
variable [LamT]
section
variable {X : Cx} {x : Str} {pos : Pos} {ws : List Cv}
end
/-! ### max of a tuple -/
end CL
/-! CL39: name = {k: v for ..}, the name a local -/
namespace CL
open PySem PySem.Spec PyProof.Rows L2
variable [LamT]
section
variable {X : Cx} {pos py spos : Pos} {kx vx tg iter : Expr} {ifs : List Expr} {scope : Scope} {own : List (Str × Nat)}
variable {ti : CI} {g : CG} {is : List Nat} {tt : CT} {tk tv : CE}
end
end CL
/-! CL41: a sign in a text -/
namespace CL
open PySem PySem.Spec PyProof.Rows L2
variable [LamT]
def fInS : Cv → Cv → Option Cv
  | .str x, .str z => match x.cps.toList with
    | [c] => some (.bl (decide (c ∈ z.cps.toList)))
    | _ => none
  | _, _ => none
theorem q_inS {c : Nat} {z : Str} : fInS (.str ⟨#[c]⟩) (.str z) = some (.bl (decide (c ∈ z.cps.toList))) := rfl
end CL
/-! CL42: t[::-1] of a tuple -/
namespace CL
open PySem PySem.Spec PyProof.Rows L2
variable [LamT]
section
variable {prog : Program} {w : World} {A : Around} {E : Value → Shared → Prop} {s : Shared}
end
section
variable {X : Cx}
def fRevT : Cv → Option Cv
  | .tup xs => some (.tup xs.reverse)
  | _ => none
def mRevT (a : ME) : ME := fun gs => (a gs).bind fRevT
def fIsBB (g : Bool → Bool) : Cv → Cv → Option Cv
  | .bl a, .bl b => some (.bl (g (decide (a = b))))
  | _, _ => none
theorem q_isBB {g : Bool → Bool} {a b : Bool} : fIsBB g (.bl a) (.bl b) = some (.bl (g (decide (a = b)))) := rfl
theorem q_revT {a : ME} {gs : MEnv} : mRevT a gs = (a gs).bind fRevT := rfl
theorem q_fRevT {xs : List Cv} : fRevT (.tup xs) = some (.tup xs.reverse) := rfl
end
end CL
/-! CL43: l[i] = v of an own list, in readings that compute -/
namespace CL
open PySem PySem.Spec PyProof.Rows L2
variable [LamT]
def fSetV : Cv → Cv → Cv → Option Cv
  | .lst xs, .int n, v => (ixN xs.length n).map fun j => .lst (xs.set j v)
  | _, _, _ => none
theorem q_msetL {i : Nat} {k a : ME} {gs : MEnv} : mSetL i k a gs = ((slO gs[i]?).bind lstOnly).bind fun o => (a gs).bind fun v => (k gs).bind fun n => (fSetV o n v).map fun o => .nx (gs.set i (.ow o)) := by
  unfold mSetL
  cases gs[i]? with
  | none => rfl
  | some s => cases s with
    | no => rfl
    | pl v => rfl
    | ow v =>
      cases v <;> first | rfl | skip
      show (a gs).bind _ = (a gs).bind _
      congr 1; funext v
      congr 1; funext n
      cases n <;> first | rfl | skip
      unfold fSetV
      simp only
      split
      · rename_i h; rw [h]; rfl
      · rename_i h; rw [h]; rfl
end CL
/-! CL40: tuples that are known to have no dict of their own: made by tuple(a list); dict(them) -/
namespace CL
open PySem PySem.Spec PyProof.Rows L2
variable [LamT]
section
variable {X : Cx}
end
end CL
/-! CL44: plain tuples; dict(pairs); l.index(x); divmod -/
namespace CL
open PySem PySem.Spec PyProof.Rows L2
variable [LamT]
/-! ### a plain tuple as a tuple -/
def wkC : Cv → Cv
  | .tupF xs => if wkOk xs = true then .tup xs else .tupF xs
  | w => w
def fWk : Cv → Option Cv := fun v => some (wkC v)
theorem q_wkF {xs : List Cv} (h : wkOk xs = true) : fWk (.tupF xs) = some (.tup xs) := by
  show some (if wkOk xs = true then Cv.tup xs else .tupF xs) = _
  rw [if_pos h]
theorem q_wkT {xs : List Cv} : fWk (.tup xs) = some (.tup xs) := rfl
theorem q_wkL {xs : List Cv} : fWk (.lst xs) = some (.lst xs) := rfl
theorem q_wkN : fWk .non = some .non := rfl
theorem q_wkS {x : Str} : fWk (.str x) = some (.str x) := rfl
theorem q_wkI {i : Int} : fWk (.int i) = some (.int i) := rfl
theorem q_wkB {b : Bool} : fWk (.bl b) = some (.bl b) := rfl
section
variable {X : Cx}
/-! ### tuple(a list), plain -/
def fTupleF : List Cv → Option Cv
  | [.lst xs] => some (.tupF xs)
  | _ => none
theorem q_tupleF {xs : List Cv} : fTupleF [.lst xs] = some (.tupF xs) := rfl
/-! ### dict(pairs) -/
def pairsC : List Cv → Option (List (Key × Cv))
  | [] => some []
  | .tup [k, w] :: r => (keyC k).bind fun k => (pairsC r).map fun l => (k, w) :: l
  | _ :: _ => none
def fDictOf : List Cv → Option Cv
  | [.lst ws] => (pairsC ws).map fun l => .dK (mergeC [] l)
  | [.tupF ws] => (pairsC ws).map fun l => .dK (mergeC [] l)
  | _ => none
theorem q_dictL {ws : List Cv} : fDictOf [.lst ws] = (pairsC ws).map fun l => .dK (mergeC [] l) := rfl
theorem q_dictF {ws : List Cv} : fDictOf [.tupF ws] = (pairsC ws).map fun l => .dK (mergeC [] l) := rfl
/-! ### l.index(x) -/
def idxC (xs : List Cv) (y : Cv) : Option Nat := if flatC y = true ∧ xs.all flatC = true then xs.findIdx? (fun z => ceq z y) else none
def fIndexL : Cv → List Cv → Option Cv
  | .lst xs, [y] => (idxC xs y).map fun j => .int ((j : Nat) : Int)
  | _, _ => none
def cIndexL : CM := fun o us S Q => match fIndexL o us with
  | some v => Q v S
  | none => False
theorem mo_indexL : MonM cIndexL := fun o us S Q Q' f h => by
  unfold cIndexL at h ⊢
  split at h
  · exact f _ _ h
  · exact h
theorem m_indexL : SM X "list.index" cIndexL := sm_of (fun o us S Q Q' f h => by
    unfold cIndexL at h ⊢
    split at h
    · exact f _ _ h
    · exact h) fun pins s σ H x xs v us Q Z S o ws I rx rv ok ro re q => by
  unfold cIndexL at q
  split at q
  · rename_i v' ev
    unfold fIndexL at ev
    split at ev
    · obtain ⟨j, e1, ev⟩ := map_some' ev
      subst ev
      unfold idxC at e1
      split at e1
      · rename_i zs y hh
        rw [List.findIdx?_eq_some_iff_getElem] at e1
        obtain ⟨hj, h1, h2⟩ := e1
        cases re with
        | cons a b =>
          cases b
          cases ro with
          | lst h0 n z rr =>
            obtain ⟨u, hu, ru⟩ := rr.get (List.getElem?_eq_getElem hj)
            have fl := List.all_eq_true.mp hh.2
            refine mt_index pins s σ H _ _ v us Q I rx rv ⟨_, _, _, j, u, rfl, rfl, .inl (.inl h0), rep_flat a hh.1, reps_flat rr hh.2, hu, ?_, fun m z' hm hz => ?_, q _ H (Fr.refl S H) ok (.int _)⟩
            · rw [rep_eqV ru a (fl _ (List.getElem_mem hj)) hh.1]; exact h1
            · obtain ⟨w, hw, rw'⟩ := rr.getV hz
              have hml : m < zs.length := by omega
              rw [List.getElem?_eq_getElem hml] at hw
              cases hw
              rw [rep_eqV rw' a (fl _ (List.getElem_mem hml)) hh.1]
              have := h2 m hm
              simpa using this
      · cases e1
    · cases ev
  · exact q.elim
def mMth (f : Cv → List Cv → Option Cv) (a : ME) (u : MA) : ME := fun gs => (a gs).bind fun o => (u gs).bind fun us => f o us
theorem ev_bmL {r : CM} {f : Cv → List Cv → Option Cv} {to : CE} {ta : CA} {a : ME} {u : MA} (hr : MonM r) (hl : ∀ o us v, f o us = some v → ∃ xs, o = .lst xs) (hf : ∀ o us v S (Q : Cv → Sto → Prop), f o us = some v → Q v S → r o us S Q) (ho : Ev to a) (hu : EvA ta u) : Ev (cBM "list" r to ta) (mMth f a u) := ⟨cBM_mono hr ho.mono hu.mono, fun V e q => by
  obtain ⟨o, e1, e⟩ := bind_some e
  obtain ⟨us, e2, e⟩ := bind_some e
  refine ho.ok V e1 ⟨?_, hu.ok V e2 (hf _ _ _ _ _ e q)⟩
  obtain ⟨xs, rfl⟩ := hl _ _ _ e
  rfl⟩
theorem ev_indexL {to : CE} {ta : CA} {a : ME} {u : MA} (ho : Ev to a) (hu : EvA ta u) : Ev (cBM "list" cIndexL to ta) (mMth fIndexL a u) :=
  ev_bmL mo_indexL (fun o us v e => by
    unfold fIndexL at e
    split at e
    · exact ⟨_, rfl⟩
    · cases e) (fun o us v S Q e q => by unfold cIndexL; rw [e]; exact q) ho hu
theorem q_mth {f : Cv → List Cv → Option Cv} {a : ME} {u : MA} {gs : MEnv} : mMth f a u gs = (a gs).bind fun o => (u gs).bind fun us => f o us := rfl
theorem q_fIndexL {xs : List Cv} {y : Cv} : fIndexL (.lst xs) [y] = (idxC xs y).map fun j => .int ((j : Nat) : Int) := rfl
end
end CL
/-! CL45: list(range(..)); for a, b in zip(..); divmod -/
namespace CL
open PySem PySem.Spec PyProof.Rows L2
variable [LamT]
section
variable {X : Cx}
/-! ### list(range(..)) -/
def rgB (i j : Int) : Bool := decide (-1000000 ≤ i ∧ i ≤ 1000000 ∧ -1000000 ≤ j ∧ j ≤ 1000000)
theorem rgB_ok {i j : Int} (h : rgB i j = true) : RgOk i j := by
  have := of_decide_eq_true h
  exact ⟨by omega, by omega, by omega, by omega, by omega⟩
theorem reps_iota {K : Fg} {Z : List Addr} {S : Sto} {H : Hp} (a : Int) (l : List Nat) : Reps K Z S H (l.map fun (i : Nat) => Cv.int (a + i)) (l.map fun i => V.int (a + (i : Nat))) := by
  induction l with
  | nil => exact .nil
  | cons i l ih => exact .cons (.int _) ih
def fLr1 : Cv → Option Cv
  | .int j => if rgB 0 j = true then some (.lst (iota 0 j.toNat)) else none
  | _ => none
def cLr1 : C1 := fun a S Q => match fLr1 a with | some v => Q v S | none => False
theorem mo_lr1 : Mon1 cLr1 := fun a S Q Q' f h => by
  unfold cLr1 at h ⊢
  split at h
  · exact f _ _ h
  · exact h
theorem e1_lr1 : E1 cLr1 fLr1 := ⟨mo_lr1, fun {a S Q v} e q => by unfold cLr1; rw [e]; exact q⟩
theorem s_listRg1 {e : Expr} {te : CE} {p p2 pos pos2 : Pos} (hc : X.calm = true) (hm : X.mg "list" = none) (hm2 : X.mg "range" = none) (he : SE X e te) (hg : Gl X "list" := by rfl) (hg2 : Gl X "range" := by rfl) (na : starEach [e] X.env = (false, eval e X.env) :: starEach [] X.env := by rfl) : SE X (.Call (.Name "list" p) [.Call (.Name "range" p2) [e] [] pos2] [] pos) (cUn cLr1 te) :=
  ⟨mo_un mo_lr1 he.mono, (pe_listRg hc hg hm (prg_1 hg2 hm2 he.ok (na := na))).imp fun σ H Q h => by
    obtain ⟨Z, S, ws, ok, re, h⟩ := h
    refine liftE_of he.mono ok re h fun x S1 v1 H1 f1 ok1 r1 q1 => ?_
    unfold cLr1 at q1
    split at q1
    · rename_i v ev
      unfold fLr1 at ev
      split at ev
      · obtain ⟨hb, ev⟩ := ite_some ev
        subst ev
        cases r1
        refine ⟨_, rfl, rgB_ok hb, fun q hq => ?_⟩
        refine q1 _ _ (f1.trans (Fr.new hq)) (ok1.new hq) (.lst upd_same (ok1.free hq) (ok1.notZ hq) ?_)
        unfold iota rgV
        rw [Int.sub_zero]
        exact reps_iota 0 _
      · cases ev
    · exact q1.elim⟩
theorem q_lr1 {k : Int} (h : -1000000 ≤ k ∧ k ≤ 1000000) : fLr1 (.int k) = some (.lst (iota 0 k.toNat)) := if_pos (decide_eq_true ⟨by decide, by decide, h.1, h.2⟩)
/-! ### zip -/
def zipC : List Cv → List Cv → List Cv
  | x :: xs, y :: ys => .tup [x, y] :: zipC xs ys
  | _, _ => []
section
variable {K : Fg} {Z Z' : List Addr} {S S' : Sto} {H H' : Hp}
end
section
variable {e e2 : Expr} {p pos tpos : Pos} {elts : List Expr} {kk : Nat}
def fZip : List Cv → Option (List Cv)
  | [.lst xs, .lst ys] => some (zipC xs ys)
  | [.tup xs, .tup ys] => some (zipC xs ys)
  | _ => none
def mZipI (u : MA) : MA := fun gs => (u gs).bind fZip
theorem q_zipI {u : MA} {gs : MEnv} : mZipI u gs = (u gs).bind fZip := rfl
theorem q_fZipL {xs ys : List Cv} : fZip [.lst xs, .lst ys] = some (zipC xs ys) := rfl
theorem q_fZipT {xs ys : List Cv} : fZip [.tup xs, .tup ys] = some (zipC xs ys) := rfl
/-! ### divmod -/
end
end
end CL
/-! CL46: plain tuple displays; ord, str(an int) -/
namespace CL
open PySem PySem.Spec PyProof.Rows L2
variable [LamT]
section
variable {X : Cx} {es : List Expr} {pos : Pos}
def fTupF (r : List Cv) : Option Cv := if lenOk r.length = true then some (.tupF r) else none
def mTupF (u : MA) : ME := fun gs => (u gs).bind fTupF
theorem q_mtupF {u : MA} {gs : MEnv} : mTupF u gs = (u gs).bind fTupF := rfl
theorem q_tupF1 {v : Cv} : fTupF [v] = some (.tupF [v]) := rfl
theorem q_tupF2 {v w : Cv} : fTupF [v, w] = some (.tupF [v, w]) := rfl
theorem q_tupF3 {v w u : Cv} : fTupF [v, w, u] = some (.tupF [v, w, u]) := rfl
/-! ### ord, str -/
def fOrd : List Cv → Option Cv
  | [.str x] => if decide (x.length = 1) = true then some (.int (x.cps.getD 0 0 : Nat)) else none
  | _ => none
theorem q_ord {c : Nat} : fOrd [.str ⟨#[c]⟩] = some (.int (c : Nat)) := rfl
end
end CL
/-! CL47: l.count(x), flat items -/
namespace CL
open PySem PySem.Spec PyProof.Rows L2
variable [LamT]
section
variable {X : Cx}
end
end CL
/-! CL48: objects of a def's own, handed back with what they hold; a dict of lists that grow -/
namespace CL
open PySem PySem.Spec PyProof.Rows L2
variable [LamT]
mutual
/-- an own object, and what it holds, as a clean value -/
inductive Fz (S1 S2 : Sto) : Cv → Cv → Prop
  | refl (w : Cv) : Fz S1 S2 w w
  | lst {a : Addr} {xs ys : List Cv} : S1 a = some (.lst xs) → S2 a = none → Fzs S1 S2 xs ys → Fz S1 S2 (.ref a) (.lst ys)
  | dK {a : Addr} {kws kys : List (Key × Cv)} : S1 a = some (.dK kws) → S2 a = none → kys.map Prod.fst = kws.map Prod.fst → Fzs S1 S2 (kws.map Prod.snd) (kys.map Prod.snd) → Fz S1 S2 (.ref a) (.dK kys)
inductive Fzs (S1 S2 : Sto) : List Cv → List Cv → Prop
  | nil : Fzs S1 S2 [] []
  | cons {w u : Cv} {ws us : List Cv} : Fz S1 S2 w u → Fzs S1 S2 ws us → Fzs S1 S2 (w :: ws) (u :: us)
end
section
variable {K : Fg} {Z : List Addr} {S1 S2 : Sto} {H : Hp}
mutual
theorem rep_fz (ok : StOk K Z S1 H) (hs : ∀ a o, S2 a = some o → S1 a = some o) : ∀ {w u : Cv}, Fz S1 S2 w u → ∀ {v : V}, Rep K Z S1 H w v → Rep K Z S2 H u v
  | _, _, .refl w, _, r => r.less hs
  | _, _, .lst (a := a) e n f, _, r => by
    cases r
    obtain ⟨vs, h1, h2⟩ := ok.ob a _ e
    exact .lst h1 n (fun z => by rw [(ok.hid a z).1] at e; cases e) (reps_fz ok hs f h2)
  | _, _, .dK (a := a) e n k f, _, r => by
    cases r
    obtain ⟨kvs, h1, h3, h2⟩ := ok.ob a _ e
    exact .dK h1 n (fun z => by rw [(ok.hid a z).1] at e; cases e) (k.trans h3) (reps_fz ok hs f h2)
theorem reps_fz (ok : StOk K Z S1 H) (hs : ∀ a o, S2 a = some o → S1 a = some o) : ∀ {ws us : List Cv}, Fzs S1 S2 ws us → ∀ {vs : List V}, Reps K Z S1 H ws vs → Reps K Z S2 H us vs
  | _, _, .nil, _, .nil => .nil
  | _, _, .cons f g, _, .cons a r => .cons (rep_fz ok hs f a) (reps_fz ok hs g r)
end
end
def HandD (S : Sto) (w : Cv) (S' : Sto) (Q : Cv → Sto → Prop) : Prop := ∃ S'' w', (∀ a o, S'' a = some o → S' a = some o) ∧ Fz S' S'' w w' ∧ Q w' S''
theorem HandD.mono {S S' : Sto} {w : Cv} {Q Q' : Cv → Sto → Prop} (f : ∀ w S', Q w S' → Q' w S') (h : HandD S w S' Q) : HandD S w S' Q' := by
  obtain ⟨S2, w2, a, b, q⟩ := h
  exact ⟨S2, w2, a, b, f _ _ q⟩
def bodyEndsD (S : Sto) (Q : Cv → Sto → Prop) : CEnds := { nx := fun _ S' => HandD S .non S' Q, rt := fun w S' => HandD S w S' Q }
structure PLD (N ps : List Str) (sp : CSp) (t : CS) : Prop where
  mono : MonSp sp
  len : ∀ us S Q E, sp us S Q E → us.length = ps.length
  go : ∀ us S Q E, sp us S Q E → t (bodyEndsD S Q) (cstart N us) S
section
variable {P : Program} {w : World} {K : Fg} {mg : Str → Option Value} {base : Heap}
end
/-! ### the places of each word -/
/-- the state in between: the dict at d, its lists at the addresses of ps -/
structure PlSt (S0 S : Sto) (d : Addr) (ps : List (Str × Addr)) (L : Str → List Nat) : Prop where
  dict : S d = some (.dK (ps.map fun p => (Sum.inr p.1, .ref p.2)))
  at' : ∀ p ∈ ps, S p.2 = some (.lst ((L p.1).map fun i : Nat => Cv.int (i : Nat)))
  ne : ∀ p ∈ ps, p.2 ≠ d ∧ S0 p.2 = none
  d0 : S0 d = none
  dis : (ps.map (·.2)).Nodup
  base : ∀ a o, S0 a = some o → S a = some o
end CL
/-! CL49: t.index(x) of a plain tuple of texts -/
namespace CL
open PySem PySem.Spec PyProof.Rows L2
variable [LamT]
section
variable {X : Cx}
variable {o e : Expr} {es : List Expr} {name : Str} {apos cpos : Pos} {T idn : String}
variable {to : CE} {ta : CA} {rm : CM}
/-! ### the place of a text -/
end
end CL
/-! CL50: calls of defs by the names of their arguments -/
namespace CL
open PySem PySem.Spec PyProof.Rows L2
variable [LamT]
def permL {α : Type} (ix : List Nat) (us : List α) : List α := ix.filterMap fun i => us[i]?
def KB (K : Fg) (fd : FuncData) (ps ks : List Str) (ix : List Nat) : Prop :=
  ∀ (s : Shared) (us : List Value), K.In s.heap → (permL ix us).length = ps.length → BindsTo s fd ⟨[], ks.zip us⟩ (ps.zip (permL ix us))
theorem FnF.kb {K : Fg} {mg : Str → Option Value} {x : Str} {st : Stmt} {f : Addr} {fd : FuncData} {ps ks : List Str} {ix : List Nat} (F : FnF K mg x st f fd ps)
    (h : ∀ (kV doc pm : Value) (an : Option Addr) (cdv ct : Value) (us : List Value), (permL ix us).length = ps.length → bindArgs (PySem.W.fnOf x x (defArgs st) (defBody st) (defScope st) .none kV doc pm an cdv ct) ⟨[], ks.zip us⟩ = pure (ps.zip (permL ix us))) : KB K fd ps ks ix := fun s us _ hl => by
  obtain ⟨oc, od, kV, doc, pm, an, cdv, ct, osl, rfl, lk, hcd⟩ := F.F.ex
  exact .of_eq (h kV doc pm an cdv ct us hl)
section
variable {X : Cx} {k : Nat} {f : Addr} {fd : FuncData} {ps ks : List Str} {ix : List Nat} {sp : CSp} {x : Str} {p pos : Pos} {kws : List Keyword} {ta : CA}
def argK (ix : List Nat) (m : List Cv → Option Cv) (us : List Cv) : Option Cv := m (permL ix us)
theorem q_argK1 {m : List Cv → Option Cv} {a : Cv} : argK [0] m [a] = m [a] := rfl
theorem q_argK2 {m : List Cv → Option Cv} {a b : Cv} : argK [0, 1] m [a, b] = m [a, b] := rfl
theorem q_argK2' {m : List Cv → Option Cv} {a b : Cv} : argK [1, 0] m [a, b] = m [b, a] := rfl
theorem q_argK3a {m : List Cv → Option Cv} {a b c : Cv} : argK [0, 1, 2] m [a, b, c] = m [a, b, c] := rfl
theorem q_argK3b {m : List Cv → Option Cv} {a b c : Cv} : argK [0, 2, 1] m [a, b, c] = m [a, c, b] := rfl
theorem q_argK3c {m : List Cv → Option Cv} {a b c : Cv} : argK [1, 0, 2] m [a, b, c] = m [b, a, c] := rfl
theorem q_argK3d {m : List Cv → Option Cv} {a b c : Cv} : argK [1, 2, 0] m [a, b, c] = m [b, c, a] := rfl
theorem q_argK3e {m : List Cv → Option Cv} {a b c : Cv} : argK [2, 0, 1] m [a, b, c] = m [c, a, b] := rfl
theorem q_argK3f {m : List Cv → Option Cv} {a b c : Cv} : argK [2, 1, 0] m [a, b, c] = m [c, b, a] := rfl
end
end CL
/-! CL51: texts compared by <, texts times a number; plain tuple displays with draws -/
namespace CL
open PySem PySem.Spec PyProof.Rows L2
variable [LamT]
def fLtS : Cv → Cv → Option Cv
  | .str x, .str y => some (.bl (decide (x.cps.toList < y.cps.toList)))
  | _, _ => none
section
variable {X : Cx}
end
theorem q_ltS {x y : Str} : fLtS (.str x) (.str y) = some (.bl (decide (x.cps.toList < y.cps.toList))) := rfl
def xTupF (u : XA) : XE := fun gs => bx (u gs) fun r g => lift (fTupF r) g
theorem w_tupF {u : XA} {gs : MEnv} : xTupF u gs = bx (u gs) fun r g => lift (fTupF r) g := rfl
end CL
/-! CL52: repr of values with dicts in them -/
namespace CL
open PySem PySem.Spec PyProof.Rows L2
variable [LamT]
def pyK : Key → PyData
  | .inl i => .int i
  | .inr x => .str x
mutual
def pyE : Cv → PyData
  | .bl b => .bool b
  | .int i => .int i
  | .str x => .str x
  | .tup xs => .tuple (pyEs xs)
  | .lst xs => .list (pyEs xs)
  | .dK kvs => .dict (pyEk kvs)
  | _ => .none
def pyEs : List Cv → List PyData
  | [] => []
  | x :: r => pyE x :: pyEs r
def pyEk : List (Key × Cv) → List (PyData × PyData)
  | [] => []
  | kv :: r => pyEp kv :: pyEk r
def pyEp : Key × Cv → PyData × PyData
  | (k, v) => (pyK k, pyE v)
end
mutual
def isE : Cv → Bool
  | .non | .bl _ | .int _ | .str _ => true
  | .tup xs => isEs xs
  | .lst xs => isEs xs
  | .dK kvs => isEk kvs
  | _ => false
def isEs : List Cv → Bool
  | [] => true
  | x :: r => isE x && isEs r
def isEk : List (Key × Cv) → Bool
  | [] => true
  | kv :: r => isEp kv && isEk r
def isEp : Key × Cv → Bool
  | (_, v) => isE v
end
theorem pyEk_fst : ∀ kvs : List (Key × Cv), (pyEk kvs).map (·.1) = (kvs.map (·.1)).map pyK
  | [] => rfl
  | (k, v) :: r => by
    show pyK k :: (pyEk r).map (·.1) = pyK k :: (r.map (·.1)).map pyK
    rw [pyEk_fst r]
section
variable {X : Cx} {pins : List (Addr × Obj)} {σ : L2.St} {H : Hp} {s : Shared} {Z : List Addr} {S : Sto}
theorem keys_read {P : Program} {w : World} {h : Heap} : ∀ {es : List DictEntry} {vs : List (Key × Value)}, Pairs (mixKind P w) es vs → ReadsAll h (es.map (·.key)) ((vs.map (·.1)).map pyK) [] ∧ es.map (·.val) = vs.map (·.2)
  | _, _, .nil => ⟨.nil, rfl⟩
  | _, _, .cons (e := e) (kv := kv) h1 h2 r => by
    obtain ⟨i1, i2⟩ := keys_read (h := h) r
    refine ⟨?_, ?_⟩
    · show ReadsAll h (e.key :: _) (pyK kv.1 :: _) []
      have hk : Reads h e.key (pyK kv.1) [] := by
        rcases keyIs_shape (show keyIs kv.1 e.key = true from h1) with ⟨i, t, e1, e2⟩ | ⟨x, t, e1, e2⟩
        · rw [e1, e2]; exact .int i t
        · rw [e1, e2]; exact .str x t
      exact ReadsAll.cons hk i1
    · rw [List.map_cons, List.map_cons, h2, i2]
theorem kv_vals : ∀ {kvs : List (Key × V)} {vs : List (Key × Value)}, KV kvs vs → Vals (kvs.map (·.2)) (vs.map (·.2)) ∧ kvs.map (·.1) = vs.map (·.1)
  | _, _, .nil => ⟨.nil, rfl⟩
  | _, _, .cons h r => by
    obtain ⟨i1, i2⟩ := kv_vals r
    exact ⟨.cons h.2 i1, by rw [List.map_cons, List.map_cons, h.1, i2]⟩
mutual
theorem readsE (I : Inv X pins σ H s) (hS : H sysModules = none) : ∀ (w : Cv) {v : V} {u : Value}, isE w = true → Rep X.K Z S H w v → RelV v u → ∃ as, Reads s.heap u (pyE w) as ∧ sysModules ∉ as
  | .non, _, _, _, r, rv => by
    cases r; cases rv
    exact ⟨[], by simp only [pyE]; exact .none, by simp⟩
  | .bl b, _, _, _, r, rv => by
    cases r; cases rv
    exact ⟨[], by simp only [pyE]; exact .bool b, by simp⟩
  | .int i, _, _, _, r, rv => by
    cases r
    obtain ⟨t, rfl⟩ := rv
    exact ⟨[], by simp only [pyE]; exact .int i t, by simp⟩
  | .str x, _, _, _, r, rv => by
    cases r
    obtain ⟨t, rfl⟩ := rv
    exact ⟨[], by simp only [pyE]; exact .str x t, by simp⟩
  | .tup xs, v, u, e, r, rv => by
    obtain ⟨a, vs, rfl, ht, rr⟩ := RepD.tupH r
    cases rv
    obtain ⟨its, rvs, ⟨o, ho, hc, n, hd⟩, _⟩ := I.tuple ht
    obtain ⟨as, hr, hn⟩ := readsEs I hS xs (by simpa only [isE] using e) rr rvs
    exact ⟨as, by simp only [pyE]; exact Reads.tuple ho hc hd hr, hn⟩
  | .lst xs, v, u, e, r, rv => by
    cases r with
    | lst h1 n z rr =>
      rename_i a vs
      cases rv
      obtain ⟨its, rvs, ⟨o, n, ho, hc, _, hd⟩, _⟩ := I.list (show SqL X.K H a vs from .inl (.inl h1))
      obtain ⟨as, hr, hn⟩ := readsEs I hS xs (by simpa only [isE] using e) rr rvs
      refine ⟨a :: as, by simp only [pyE]; exact Reads.list ho hc hd hr, fun hm => ?_⟩
      rcases List.mem_cons.mp hm with e2 | e2
      · rw [e2, h1] at hS; cases hS
      · exact hn e2
  | .dK kws, v, u, e, r, rv => by
    cases r with
    | dK h1 n z ek rr =>
      rename_i a kvs
      cases rv
      obtain ⟨hz, hsy, vs, kv, o, es, ep, ho, ex, hd, hk, hp, nd⟩ := (show ObjOk X.prog X.w H s.heap a (.dK kvs) from I.hok a _ h1)
      obtain ⟨k1, k2⟩ := keys_read (h := s.heap) hp
      obtain ⟨k3, k4⟩ := kv_vals kv
      obtain ⟨as, hr, hn⟩ := readsEk I hS kws (by simpa only [isE] using e) rr k3
      refine ⟨a :: [] ++ as, ?_, fun hm => ?_⟩
      · simp only [pyE]
        refine Reads.dict ho ex.1 hd ?_ ?_
        · rw [pyEk_fst, show kws.map (·.1) = vs.map (·.1) from ek.trans k4]; exact k1
        · rw [k2]; exact hr
      · rcases List.mem_cons.mp hm with e2 | e2
        · rw [e2, h1] at hS; cases hS
        · exact hn (by simpa using e2)
  | .dT _, _, _, e, _, _ => by simp [isE] at e
  | .ins _ _, _, _, e, _, _ => by simp [isE] at e
  | .ref _, _, _, e, _, _ => by simp [isE] at e
  | .opq _, _, _, e, _, _ => by simp [isE] at e
  | .scr _, _, _, e, _, _ => by simp [isE] at e
  | .tupF _, _, _, e, _, _ => by simp [isE] at e
  | .exc _ _, _, _, e, _, _ => by simp [isE] at e
  | .lam _ _ _ _ _, _, _, e, _, _ => by simp [isE] at e
  | .cls _, _, _, e, _, _ => by simp [isE] at e
termination_by w => sizeOf w
theorem readsEs (I : Inv X pins σ H s) (hS : H sysModules = none) : ∀ (ws : List Cv) {vs : List V} {us : List Value}, isEs ws = true → Reps X.K Z S H ws vs → Vals vs us → ∃ as, ReadsAll s.heap us (pyEs ws) as ∧ sysModules ∉ as
  | [], _, _, _, r, rv => by
    cases r; cases rv
    exact ⟨[], by simp only [pyEs]; exact .nil, by simp⟩
  | w :: ws, _, _, e, r, rv => by
    cases r with
    | cons r1 r2 =>
      cases rv with
      | cons v1 v2 =>
        have e' : isE w = true ∧ isEs ws = true := by simpa only [isEs, Bool.and_eq_true] using e
        obtain ⟨as, h1, n1⟩ := readsE I hS w e'.1 r1 v1
        obtain ⟨bs, h2, n2⟩ := readsEs I hS ws e'.2 r2 v2
        exact ⟨as ++ bs, by simp only [pyEs]; exact .cons h1 h2, fun hm => (List.mem_append.mp hm).elim n1 n2⟩
termination_by ws => sizeOf ws
theorem readsEk (I : Inv X pins σ H s) (hS : H sysModules = none) : ∀ (ws : List (Key × Cv)) {vs : List V} {us : List Value}, isEk ws = true → Reps X.K Z S H (ws.map Prod.snd) vs → Vals vs us → ∃ as, ReadsAll s.heap us ((pyEk ws).map (·.2)) as ∧ sysModules ∉ as
  | [], _, _, _, r, rv => by
    cases r; cases rv
    exact ⟨[], by simp only [pyEk]; exact .nil, by simp⟩
  | (k, w) :: ws, _, _, e, r, rv => by
    cases r with
    | cons r1 r2 =>
      cases rv with
      | cons v1 v2 =>
        have e' : isE w = true ∧ isEk ws = true := by simpa only [isEk, isEp, Bool.and_eq_true] using e
        obtain ⟨as, h1, n1⟩ := readsE I hS w e'.1 r1 v1
        obtain ⟨bs, h2, n2⟩ := readsEk I hS ws e'.2 r2 v2
        exact ⟨as ++ bs, by simp only [pyEk, pyEp, List.map_cons]; exact .cons h1 h2, fun hm => (List.mem_append.mp hm).elim n1 n2⟩
termination_by ws => sizeOf ws
end
/-! ### repr -/
end
end CL
/-! CL53: laws that ask repr of dicts: the end of such a law; small values -/
namespace CL
open PySem PySem.Spec PyProof.Rows L2
variable [LamT]
/-! ### repr, computed -/
def okRb (w : Cv) : Bool := isE w && (pyE w).showable && (pyE w).leavesShort 40 && decide ((pyE w).depth ≤ 64) && decide ((pyE w).bulk ≤ 390000)
/-- small: at most so deep, at most so big -/
structure SmE (w : Cv) (d b : Nat) : Prop where
  e : isE w = true
  s : (pyE w).showable = true
  l : (pyE w).leavesShort 40 = true
  d : (pyE w).depth ≤ d
  b : (pyE w).bulk ≤ b
structure SmEs (ws : List Cv) (d b : Nat) : Prop where
  e : isEs ws = true
  s : PyData.showableAll (pyEs ws) = true
  l : PyData.leavesShortAll 40 (pyEs ws) = true
  d : PyData.depthAll (pyEs ws) ≤ d
  b : PyData.bulkAll (pyEs ws) ≤ b
theorem SmE.ok {w : Cv} {d b : Nat} (h : SmE w d b) (hd : d ≤ 64) (hb : b ≤ 390000) : okRb w = true := by
  unfold okRb
  rw [h.e, h.s, h.l, decide_eq_true (Nat.le_trans h.d hd), decide_eq_true (Nat.le_trans h.b hb)]; rfl
theorem SmE.mono {w : Cv} {d b d' b' : Nat} (h : SmE w d b) (hd : d ≤ d') (hb : b ≤ b') : SmE w d' b' := ⟨h.e, h.s, h.l, Nat.le_trans h.d hd, Nat.le_trans h.b hb⟩
theorem SmEs.nil {d : Nat} : SmEs [] d 0 := ⟨rfl, rfl, rfl, Nat.zero_le _, Nat.le_refl _⟩
theorem SmEs.cons {w : Cv} {ws : List Cv} {d b c : Nat} (h : SmE w d b) (r : SmEs ws d c) : SmEs (w :: ws) d (b + 1 + c) := by
  refine ⟨?_, ?_, ?_, ?_, ?_⟩
  · simp only [isEs, h.e, r.e]; rfl
  · simp only [pyEs, PyData.showableAll, h.s, r.s]; rfl
  · simp only [pyEs, PyData.leavesShortAll, h.l, r.l]; rfl
  · simp only [pyEs, PyData.depthAll]
    exact Nat.max_le.mpr ⟨h.d, r.d⟩
  · simp only [pyEs, PyData.bulkAll]
    have := h.b
    have := r.b
    omega
theorem SmEs.mono {ws : List Cv} {d b d' b' : Nat} (h : SmEs ws d b) (hd : d ≤ d') (hb : b ≤ b') : SmEs ws d' b' := ⟨h.e, h.s, h.l, Nat.le_trans h.d hd, Nat.le_trans h.b hb⟩
theorem SmEs.of {d b : Nat} : ∀ {ws : List Cv}, (∀ w ∈ ws, SmE w d b) → SmEs ws d ((b + 1) * ws.length)
  | [], _ => SmEs.nil
  | w :: ws, h => by
    have := SmEs.cons (h w List.mem_cons_self) (SmEs.of fun z hz => h z (List.mem_cons_of_mem _ hz))
    exact this.mono (Nat.le_refl _) (by rw [List.length_cons, Nat.mul_succ]; omega)
theorem SmE.tup {ws : List Cv} {d b : Nat} (h : SmEs ws d b) : SmE (.tup ws) (d + 1) b := by
  refine ⟨?_, ?_, ?_, ?_, ?_⟩
  · simp only [isE]; exact h.e
  · simp only [pyE, PyData.showable]; exact h.s
  · simp only [pyE, PyData.leavesShort]; exact h.l
  · simp only [pyE, PyData.depth]
    have := h.d
    omega
  · simp only [pyE, PyData.bulk]; exact h.b
theorem SmE.lst {ws : List Cv} {d b : Nat} (h : SmEs ws d b) : SmE (.lst ws) (d + 1) b := by
  refine ⟨?_, ?_, ?_, ?_, ?_⟩
  · simp only [isE]; exact h.e
  · simp only [pyE, PyData.showable]; exact h.s
  · simp only [pyE, PyData.leavesShort]; exact h.l
  · simp only [pyE, PyData.depth]
    have := h.d
    omega
  · simp only [pyE, PyData.bulk]; exact h.b
end CL
/-! CL54: TEXT.join(a list of texts), TEXT.upper() -/
namespace CL
open PySem PySem.Spec PyProof.Rows L2
variable [LamT]
section
variable {X : Cx}
end
def xMth (f : Cv → List Cv → Option Cv) (a : XE) (u : XA) : XE := fun gs => bx (a gs) fun o g => bx (u g) fun us g1 => lift (f o us) g1
theorem w_mth {f : Cv → List Cv → Option Cv} {a : XE} {u : XA} {gs : MEnv} : xMth f a u gs = bx (a gs) fun o g => bx (u g) fun us g1 => lift (f o us) g1 := rfl
end CL
/-! CL55: a tuple of anything == () and != () -/
namespace CL
open PySem PySem.Spec PyProof.Rows L2
variable [LamT]
section
variable {X : Cx}
end
end CL
/-! CL56: + - * where the left side may be a bool or a text -/
namespace CL
open PySem PySem.Spec PyProof.Rows L2
variable [LamT]
def b1 (b : Bool) : Int := if b = true then 1 else 0
section
variable {X : Cx}
end
end CL
/-! CL57: hooks for laws of any value -/
namespace CL
open PySem PySem.Spec PyProof.Rows L2
variable [LamT]
section
variable {X : Cx}
end
end CL
/-! CL58: values of any kind whose numbers and texts grow -/
namespace CL
open PySem PySem.Spec PyProof.Rows L2
variable [LamT]
def ascB (x : Str) : Bool := x.cps.toList.all fun c => decide (c < 128)
theorem asc_of {x : Str} (h : ascB x = true) : ∀ c ∈ x.cps.toList, c < 128 := fun c hc => of_decide_eq_true (List.all_eq_true.mp h c hc)
theorem len_int {i : Int} {k : Nat} (hk : 0 < k) (h : i.natAbs < 10 ^ k) : ((toString i : String) : Str).length ≤ k + 1 := by
  have e := int_text_length_le10 hk h
  show (Str.ofString (toString i)).length ≤ k + 1
  rw [PySem.ofString_length]; exact e
mutual
def lvK (k : Nat) : Cv → Bool
  | .non | .bl _ => true
  | .int i => decide (i.natAbs < 10 ^ k)
  | .str x => ascB x
  | .tup xs => lvKs k xs
  | .lst xs => lvKs k xs
  | .dK kvs => lvKd k kvs
  | _ => false
def lvKs (k : Nat) : List Cv → Bool
  | [] => true
  | x :: r => lvK k x && lvKs k r
def lvKd (k : Nat) : List (Key × Cv) → Bool
  | [] => true
  | kv :: r => lvKp k kv && lvKd k r
def lvKp (k : Nat) : Key × Cv → Bool
  | (.inr x, v) => ascB x && lvK k v
  | (.inl _, _) => false
end
theorem leaf_str {x : Str} (h : ascB x = true) : (x.cps.toList.all fun c => decide (c < 16 ^ 8)) = true := List.all_eq_true.mpr fun c hc => decide_eq_true (by have := asc_of h c hc; omega)
theorem leaf_int {k : Nat} {i : Int} (hk : k ≤ 38) (h : i.natAbs < 10 ^ k) : (PyData.int i).showable = true ∧ (PyData.int i).leavesShort 40 = true := by
  have h38 : i.natAbs < 10 ^ 38 := Nat.lt_of_lt_of_le h (Nat.pow_le_pow_right (by decide) hk)
  constructor
  · simp only [PyData.showable]
    refine decide_eq_true ?_
    by_cases h0 : i.natAbs = 0
    · rw [h0]; decide
    · have : i.natAbs.log2 < 200 := (Nat.log2_lt h0).mpr (Nat.lt_trans h38 (by decide +kernel))
      omega
  · simp only [PyData.leavesShort]
    refine decide_eq_true ?_
    have := len_int (k := 38) (by decide) h38
    rw [PyData.shown_int]
    exact Nat.le_trans this (by decide)
mutual
theorem lvK_ok {k : Nat} (hk : k ≤ 38) : ∀ w : Cv, lvK k w = true → isE w = true ∧ (pyE w).showable = true ∧ (pyE w).leavesShort 40 = true
  | .non, _ => ⟨rfl, rfl, rfl⟩
  | .bl _, _ => ⟨rfl, rfl, rfl⟩
  | .int i, h => by
    have h : i.natAbs < 10 ^ k := by simpa only [lvK, decide_eq_true_eq] using h
    exact ⟨rfl, (leaf_int hk h).1, (leaf_int hk h).2⟩
  | .str x, h => ⟨rfl, rfl, by
    have h : ascB x = true := by simpa only [lvK] using h
    simp only [pyE, PyData.leavesShort]
    exact leaf_str h⟩
  | .tup xs, h => by
    obtain ⟨h1, h2, h3⟩ := lvKs_ok hk xs (by simpa only [lvK] using h)
    exact ⟨by simp only [isE]; exact h1, by simp only [pyE, PyData.showable]; exact h2, by simp only [pyE, PyData.leavesShort]; exact h3⟩
  | .lst xs, h => by
    obtain ⟨h1, h2, h3⟩ := lvKs_ok hk xs (by simpa only [lvK] using h)
    exact ⟨by simp only [isE]; exact h1, by simp only [pyE, PyData.showable]; exact h2, by simp only [pyE, PyData.leavesShort]; exact h3⟩
  | .dK kvs, h => by
    obtain ⟨h1, h2, h3⟩ := lvKd_ok hk kvs (by simpa only [lvK] using h)
    exact ⟨by simp only [isE]; exact h1, by simp only [pyE, PyData.showable]; exact h2, by simp only [pyE, PyData.leavesShort]; exact h3⟩
  | .dT _, h => by simp [lvK] at h
  | .ins _ _, h => by simp [lvK] at h
  | .ref _, h => by simp [lvK] at h
  | .opq _, h => by simp [lvK] at h
  | .scr _, h => by simp [lvK] at h
  | .tupF _, h => by simp [lvK] at h
  | .exc _ _, h => by simp [lvK] at h
  | .lam _ _ _ _ _, h => by simp [lvK] at h
  | .cls _, h => by simp [lvK] at h
termination_by w => sizeOf w
theorem lvKs_ok {k : Nat} (hk : k ≤ 38) : ∀ ws : List Cv, lvKs k ws = true → isEs ws = true ∧ PyData.showableAll (pyEs ws) = true ∧ PyData.leavesShortAll 40 (pyEs ws) = true
  | [], _ => ⟨rfl, rfl, rfl⟩
  | w :: ws, h => by
    have h' : lvK k w = true ∧ lvKs k ws = true := by simpa only [lvKs, Bool.and_eq_true] using h
    obtain ⟨a1, a2, a3⟩ := lvK_ok hk w h'.1
    obtain ⟨b1, b2, b3⟩ := lvKs_ok hk ws h'.2
    exact ⟨by simp only [isEs, a1, b1]; rfl, by simp only [pyEs, PyData.showableAll, a2, b2]; rfl, by simp only [pyEs, PyData.leavesShortAll, a3, b3]; rfl⟩
termination_by ws => sizeOf ws
theorem lvKd_ok {k : Nat} (hk : k ≤ 38) : ∀ ws : List (Key × Cv), lvKd k ws = true → isEk ws = true ∧ PyData.showableKv (pyEk ws) = true ∧ PyData.leavesShortKv 40 (pyEk ws) = true
  | [], _ => ⟨rfl, rfl, rfl⟩
  | (.inl _, w) :: ws, h => by simp [lvKd, lvKp] at h
  | (.inr x, w) :: ws, h => by
    have h' : (ascB x = true ∧ lvK k w = true) ∧ lvKd k ws = true := by simpa only [lvKd, lvKp, Bool.and_eq_true] using h
    obtain ⟨a1, a2, a3⟩ := lvK_ok hk w h'.1.2
    obtain ⟨b1, b2, b3⟩ := lvKd_ok hk ws h'.2
    have hx := leaf_str h'.1.1
    exact ⟨by simp only [isEk, isEp, a1, b1]; rfl, by simp only [pyEk, pyEp, pyK, PyData.showableKv, PyData.showable, a2, b2]; rfl, by simp only [pyEk, pyEp, pyK, PyData.leavesShortKv, PyData.leavesShort, hx, a3, b3]; rfl⟩
termination_by ws => sizeOf ws
end
mutual
theorem lvK_mono {k l : Nat} (hk : k ≤ l) : ∀ w : Cv, lvK k w = true → lvK l w = true
  | .non, _ => rfl
  | .bl _, _ => rfl
  | .int i, h => by
    have h : i.natAbs < 10 ^ k := by simpa only [lvK, decide_eq_true_eq] using h
    simp only [lvK]
    exact decide_eq_true (Nat.lt_of_lt_of_le h (Nat.pow_le_pow_right (by decide) hk))
  | .str x, h => by simpa only [lvK] using h
  | .tup xs, h => by
    simp only [lvK] at h ⊢
    exact lvKs_mono hk xs h
  | .lst xs, h => by
    simp only [lvK] at h ⊢
    exact lvKs_mono hk xs h
  | .dK kvs, h => by
    simp only [lvK] at h ⊢
    exact lvKd_mono hk kvs h
  | .dT _, h => by simp [lvK] at h
  | .ins _ _, h => by simp [lvK] at h
  | .ref _, h => by simp [lvK] at h
  | .opq _, h => by simp [lvK] at h
  | .scr _, h => by simp [lvK] at h
  | .tupF _, h => by simp [lvK] at h
  | .exc _ _, h => by simp [lvK] at h
  | .lam _ _ _ _ _, h => by simp [lvK] at h
  | .cls _, h => by simp [lvK] at h
termination_by w => sizeOf w
theorem lvKs_mono {k l : Nat} (hk : k ≤ l) : ∀ ws : List Cv, lvKs k ws = true → lvKs l ws = true
  | [], _ => rfl
  | w :: ws, h => by
    have h' : lvK k w = true ∧ lvKs k ws = true := by simpa only [lvKs, Bool.and_eq_true] using h
    simp only [lvKs, lvK_mono hk w h'.1, lvKs_mono hk ws h'.2]; rfl
termination_by ws => sizeOf ws
theorem lvKd_mono {k l : Nat} (hk : k ≤ l) : ∀ ws : List (Key × Cv), lvKd k ws = true → lvKd l ws = true
  | [], _ => rfl
  | (.inl _, w) :: ws, h => by simp [lvKd, lvKp] at h
  | (.inr x, w) :: ws, h => by
    have h' : (ascB x = true ∧ lvK k w = true) ∧ lvKd k ws = true := by simpa only [lvKd, lvKp, Bool.and_eq_true] using h
    simp only [lvKd, lvKp, h'.1.1, lvK_mono hk w h'.1.2, lvKd_mono hk ws h'.2]; rfl
termination_by ws => sizeOf ws
end
/-- small: at most so deep, at most so big, the numbers with at most so many digits -/
structure Bw (w : Cv) (d b k : Nat) : Prop where
  l : lvK k w = true
  d : (pyE w).depth ≤ d
  b : (pyE w).bulk ≤ b
structure Bws (ws : List Cv) (d b k : Nat) : Prop where
  l : lvKs k ws = true
  d : PyData.depthAll (pyEs ws) ≤ d
  b : PyData.bulkAll (pyEs ws) ≤ b
theorem Bw.mono {w : Cv} {d b k d' b' k' : Nat} (h : Bw w d b k) (hd : d ≤ d') (hb : b ≤ b') (hk : k ≤ k') : Bw w d' b' k' := ⟨lvK_mono hk w h.l, Nat.le_trans h.d hd, Nat.le_trans h.b hb⟩
theorem Bws.mono {w : List Cv} {d b k d' b' k' : Nat} (h : Bws w d b k) (hd : d ≤ d') (hb : b ≤ b') (hk : k ≤ k') : Bws w d' b' k' := ⟨lvKs_mono hk w h.l, Nat.le_trans h.d hd, Nat.le_trans h.b hb⟩
theorem Bws.nil {d k : Nat} : Bws [] d 0 k := ⟨rfl, Nat.zero_le _, Nat.le_refl _⟩
theorem Bws.cons {w : Cv} {ws : List Cv} {d b c k : Nat} (h : Bw w d b k) (r : Bws ws d c k) : Bws (w :: ws) d (b + 1 + c) k := by
  refine ⟨?_, ?_, ?_⟩
  · simp only [lvKs, h.l, r.l]; rfl
  · simp only [pyEs, PyData.depthAll]
    exact Nat.max_le.mpr ⟨h.d, r.d⟩
  · simp only [pyEs, PyData.bulkAll]
    have := h.b
    have := r.b
    omega
theorem Bws.head {w : Cv} {ws : List Cv} {d b k : Nat} (h : Bws (w :: ws) d b k) : ∃ b1 b2, b1 + 1 + b2 = b ∧ Bw w d b1 k ∧ Bws ws d b2 k := by
  have h1 : lvK k w = true ∧ lvKs k ws = true := by simpa only [lvKs, Bool.and_eq_true] using h.l
  have h2 : max (pyE w).depth (PyData.depthAll (pyEs ws)) ≤ d := by simpa only [pyEs, PyData.depthAll] using h.d
  have h3 : (pyE w).bulk + 1 + PyData.bulkAll (pyEs ws) ≤ b := by simpa only [pyEs, PyData.bulkAll] using h.b
  have h2 := Nat.max_le.mp h2
  exact ⟨(pyE w).bulk, b - 1 - (pyE w).bulk, by omega, ⟨h1.1, h2.1, Nat.le_refl _⟩, ⟨h1.2, h2.2, by omega⟩⟩
theorem Bws.app {d k : Nat} : ∀ {ws zs : List Cv} {b c : Nat}, Bws ws d b k → Bws zs d c k → Bws (ws ++ zs) d (b + c) k
  | [], zs, b, c, _, h => h.mono (Nat.le_refl _) (by omega) (Nat.le_refl _)
  | w :: ws, zs, b, c, h, r => by
    obtain ⟨b1, b2, e, h1, h2⟩ := h.head
    have := Bws.cons h1 (h2.app r)
    exact this.mono (Nat.le_refl _) (by omega) (Nat.le_refl _)
/-- a list parted -/
theorem Bws.split {d k : Nat} : ∀ {ws zs : List Cv} {b : Nat}, Bws (ws ++ zs) d b k → ∃ b1 b2, b1 + b2 = b ∧ Bws ws d b1 k ∧ Bws zs d b2 k
  | [], zs, b, h => ⟨0, b, by omega, Bws.nil, h⟩
  | w :: ws, zs, b, h => by
    obtain ⟨b1, b2, e, h1, h2⟩ := h.head
    obtain ⟨c1, c2, e', h3, h4⟩ := h2.split
    exact ⟨b1 + 1 + c1, c2, by omega, Bws.cons h1 h3, h4⟩
theorem Bws.rev {d k : Nat} : ∀ {ws : List Cv} {b : Nat}, Bws ws d b k → Bws ws.reverse d b k
  | [], b, h => h
  | w :: ws, b, h => by
    obtain ⟨b1, b2, e, h1, h2⟩ := h.head
    rw [List.reverse_cons]
    have := h2.rev.app (Bws.cons h1 Bws.nil)
    exact this.mono (Nat.le_refl _) (by omega) (Nat.le_refl _)
theorem Bws.of {d b k : Nat} : ∀ {ws : List Cv}, (∀ w ∈ ws, Bw w d b k) → Bws ws d ((b + 1) * ws.length) k
  | [], _ => Bws.nil
  | w :: ws, h => by
    have := Bws.cons (h w List.mem_cons_self) (Bws.of fun z hz => h z (List.mem_cons_of_mem _ hz))
    exact this.mono (Nat.le_refl _) (by rw [List.length_cons, Nat.mul_succ]; omega) (Nat.le_refl _)
theorem Bws.len {d k : Nat} : ∀ {ws : List Cv} {b : Nat}, Bws ws d b k → ws.length ≤ b
  | [], b, _ => Nat.zero_le _
  | w :: ws, b, h => by
    obtain ⟨b1, b2, e, h1, h2⟩ := h.head
    have := h2.len
    rw [List.length_cons]; omega
theorem Bw.tup {ws : List Cv} {d b k : Nat} (h : Bws ws d b k) : Bw (.tup ws) (d + 1) b k := by
  refine ⟨by simp only [lvK]; exact h.l, ?_, by simp only [pyE, PyData.bulk]; exact h.b⟩
  simp only [pyE, PyData.depth]
  have := h.d
  omega
theorem Bw.lst {ws : List Cv} {d b k : Nat} (h : Bws ws d b k) : Bw (.lst ws) (d + 1) b k := by
  refine ⟨by simp only [lvK]; exact h.l, ?_, by simp only [pyE, PyData.bulk]; exact h.b⟩
  simp only [pyE, PyData.depth]
  have := h.d
  omega
theorem Bw.parts {ws : List Cv} {d b k : Nat} (h : Bw (.tup ws) d b k) : 1 ≤ d ∧ Bws ws (d - 1) b k := by
  have h1 := h.d
  simp only [pyE, PyData.depth] at h1
  refine ⟨by omega, by simpa only [lvK] using h.l, by omega, by simpa only [pyE, PyData.bulk] using h.b⟩
theorem Bw.str {x : Str} {d b k : Nat} (h : ascB x = true) (hl : x.cps.size ≤ b) : Bw (.str x) d b k := by
  refine ⟨by simp only [lvK]; exact h, ?_, by simp only [pyE, PyData.bulk]; exact hl⟩
  simp only [pyE, PyData.depth]; exact Nat.zero_le _
theorem Bw.int {i : Int} {d b k : Nat} (h : i.natAbs < 10 ^ k) : Bw (.int i) d b k := by
  refine ⟨by simp only [lvK]; exact decide_eq_true h, ?_, by simp only [pyE, PyData.bulk]; exact Nat.zero_le _⟩
  simp only [pyE, PyData.depth]; exact Nat.zero_le _
theorem Bw.bl {p : Bool} {d b k : Nat} : Bw (.bl p) d b k := by
  refine ⟨rfl, ?_, by simp only [pyE, PyData.bulk]; exact Nat.zero_le _⟩
  simp only [pyE, PyData.depth]; exact Nat.zero_le _
/-- the size of a drawn condition -/
theorem pw31 {k : Nat} (hk : 31 ≤ k) {i : Int} (h0 : 0 ≤ i) (h1 : i < 5000) : i.natAbs < 10 ^ k := Nat.lt_of_lt_of_le (by omega : i.natAbs < 10 ^ 31) (Nat.pow_le_pow_right (by decide) hk)
mutual
theorem enc_size {k : Nat} (hk : 31 ≤ k) : ∀ c : Cd, wsh c = true → (∀ r ∈ ins c, okRg r) → 1 ≤ (ins c).length ∧ Bw (enc c) (2 * dp c + 1) ((ins c).length * (6 + 6 * dp c)) k
  | .rg m lo hi, _, h => by
    have h := h (m, lo, hi) (by rw [ins]; exact List.mem_cons_self)
    obtain ⟨a1, a2, a3, a4, a5, a6, _⟩ := h
    refine ⟨by rw [ins]; exact Nat.le_refl _, ?_⟩
    have b1 : Bw (.str "in") 0 2 k := Bw.str (by decide +kernel) (by decide +kernel)
    have b2 : Bw (.int m) 0 0 k := Bw.int (pw31 hk a1 a2)
    have b3 : Bw (.int lo) 0 0 k := Bw.int (pw31 hk a3 a4)
    have b4 : Bw (.int hi) 0 0 k := Bw.int (pw31 hk a5 a6)
    have := Bw.tup (Bws.cons b1 (Bws.cons b2 (Bws.cons b3 (Bws.cons b4 Bws.nil))))
    rw [enc, ins, dp]
    exact this.mono (Nat.le_refl _) (by simp) (Nat.le_refl _)
  | .no c, w, h => by
    obtain ⟨h1, h2⟩ := enc_size hk c (by simpa only [wsh] using w) (by simpa only [ins] using h)
    rw [enc, ins, dp]
    refine ⟨h1, ?_⟩
    have b1 : Bw (.str "not") (2 * dp c + 1) 3 k := Bw.str (by decide +kernel) (by decide +kernel)
    have := Bw.tup (Bws.cons b1 (Bws.cons h2 Bws.nil))
    refine this.mono (by omega) ?_ (Nat.le_refl _)
    have e : (ins c).length * (6 + 6 * (dp c + 1)) = (ins c).length * (6 + 6 * dp c) + (ins c).length * 6 := by rw [← Nat.mul_add]; congr 1
    omega
  | .al b cs, w, h => by
    have w : (1 ≤ cs.length ∧ cs.length ≤ 6) ∧ wshs cs = true := by simpa only [wsh, Bool.and_eq_true, decide_eq_true_eq] using w
    obtain ⟨h1, h2⟩ := encs_size hk (D := dps cs) cs w.2 (by simpa only [ins] using h) fun c hc => dps_mem hc
    rw [enc, ins, dp]
    refine ⟨by omega, ?_⟩
    have b1 : Bw (.str (if b = true then "all" else "any")) (2 * dps cs + 2) 3 k := by cases b <;> exact Bw.str (by decide +kernel) (by decide +kernel)
    have := Bw.tup (Bws.cons b1 (Bws.cons (Bw.tup h2) Bws.nil))
    refine this.mono (by omega) ?_ (Nat.le_refl _)
    have e : (inss cs).length * (6 + 6 * (dps cs + 1)) = (inss cs).length * (6 + 6 * dps cs) + (inss cs).length * 6 := by rw [← Nat.mul_add]; congr 1
    omega
theorem encs_size {k : Nat} (hk : 31 ≤ k) {D : Nat} : ∀ cs : List Cd, wshs cs = true → (∀ r ∈ inss cs, okRg r) → (∀ c ∈ cs, dp c ≤ D) → cs.length ≤ (inss cs).length ∧ Bws (encs cs) (2 * D + 1) ((inss cs).length * (6 + 6 * D) + cs.length) k
  | [], _, _, _ => ⟨Nat.le_refl _, Bws.nil.mono (Nat.le_refl _) (Nat.zero_le _) (Nat.le_refl _)⟩
  | c :: r, w, h, hD => by
    have w : wsh c = true ∧ wshs r = true := by simpa only [wshs, Bool.and_eq_true] using w
    rw [inss] at h ⊢
    obtain ⟨h1, h2⟩ := enc_size hk c w.1 fun z hz => h z (List.mem_append_left _ hz)
    obtain ⟨h3, h4⟩ := encs_size hk r w.2 (fun z hz => h z (List.mem_append_right _ hz)) fun z hz => hD z (List.mem_cons_of_mem _ hz)
    have hd := hD c List.mem_cons_self
    rw [List.length_append, List.length_cons]
    refine ⟨by omega, ?_⟩
    rw [encs]
    have m : (ins c).length * (6 + 6 * dp c) ≤ (ins c).length * (6 + 6 * D) := Nat.mul_le_mul_left _ (by omega)
    have := Bws.cons (h2.mono (d' := 2 * D + 1) (b' := (ins c).length * (6 + 6 * D)) (k' := k) (by omega) m (Nat.le_refl _)) h4
    refine this.mono (Nat.le_refl _) ?_ (Nat.le_refl _)
    rw [Nat.add_mul]; omega
end
/-! how many "in": never more than the value's size -/
mutual
theorem insB : ∀ c : Cd, (ins c).length ≤ (pyE (enc c)).bulk
  | .rg m lo hi => by simp only [ins, enc, pyE, pyEs, PyData.bulk, PyData.bulkAll, List.length_cons, List.length_nil]; omega
  | .no c => by
    have := insB c
    simp only [ins, enc, pyE, pyEs, PyData.bulk, PyData.bulkAll]; omega
  | .al b cs => by
    have := inssB cs
    simp only [ins, enc, pyE, pyEs, PyData.bulk, PyData.bulkAll]; omega
theorem inssB : ∀ cs : List Cd, (inss cs).length ≤ PyData.bulkAll (pyEs (encs cs))
  | [] => Nat.zero_le _
  | c :: r => by
    have := insB c
    have := inssB r
    simp only [inss, encs, pyEs, PyData.bulkAll, List.length_append]; omega
end
end CL
/-! CL59: a tuple times 0 or 1 -/
namespace CL
open PySem PySem.Spec PyProof.Rows L2
variable [LamT]
section
variable {X : Cx}
end
end CL
/-! CL60: dicts whose keys are tuples of ints and texts -/
namespace CL
open PySem PySem.Spec PyProof.Rows L2
variable [LamT]
def keysL : List Cv → Option (List Key)
  | [] => some []
  | x :: r => (keyC x).bind fun k => (keysL r).map fun l => k :: l
/-- a key that is a tuple -/
def keyT : Cv → Option (List Key)
  | .tup xs => keysL xs
  | _ => none
section
variable {K : Fg} {Z : List Addr} {S : Sto} {H : Hp}
end
section
variable {X : Cx} {o i e f : Expr} {td ty tz : CE} {pos apos cpos : Pos}
end
def fTIx : Cv → Cv → Option Cv
  | .dT kws, y => (keyT y).bind (valC kws)
  | _, _ => none
def fTIn (ng : Bool) (y d : Cv) : Option Cv := match d with
  | .dT kws => (keyT y).map fun k => .bl (if ng = true then !(valC kws k).isSome else (valC kws k).isSome)
  | _ => none
def fTGet2 : Cv → Cv → Cv → Option Cv
  | .dT kws, y, z => (keyT y).map fun k => (valC kws k).getD z
  | _, _, _ => none
def fTGet1 (d y : Cv) : Option Cv := fTGet2 d y .non
def dtOnly : Cv → Option Cv
  | .dT kws => some (.dT kws)
  | _ => none
def mTGet2 (a b c : ME) : ME := fun gs => ((a gs).bind dtOnly).bind fun d => (b gs).bind fun y => (c gs).bind fun z => fTGet2 d y z
def mTGet1 (a b : ME) : ME := fun gs => ((a gs).bind dtOnly).bind fun d => (b gs).bind fun y => fTGet1 d y
section
variable {td ty tz : CE} {a b c : ME}
end
/-! ### setdefault, by the hand layer's road -/
section
variable {X : Cx} {pins : List (Addr × Obj)} {σ : L2.St} {H : Hp} {s : Shared} {a b : Addr} {r : Value} {d : V} {k : List Key} {A : Around} {E : Value → Shared → Prop}
end
/-! ### made -/
section
variable {X : Cx} {pos pos' : Pos} {o i e f value : Expr} {td ty tz tv : CE}
/-! ### written -/
end
end CL
/-! CL61: list(d.items()), tuple(d.items()) of dicts whose keys are tuples -/
namespace CL
open PySem PySem.Spec PyProof.Rows L2
variable [LamT]
section
variable {prog : Program} {w : World} {A : Around} {E : Value → Shared → Prop} {s : Shared} {r d : Addr} {es : Array DictEntry} {ep : Nat}
end
section
variable {X : Cx} {pins : List (Addr × Obj)} {σ : L2.St} {H : Hp} {s : Shared}
end
/-! ### clean -/
def keyCv : Key → Cv
  | .inl i => .int i
  | .inr x => .str x
/-- a key as a value -/
def keyW (k : List Key) : Cv := .tup (k.map keyCv)
def itemW (p : List Key × Cv) : Cv := .tup [keyW p.1, p.2]
def fLstIt : Cv → Option Cv
  | .dT kws => some (.lst (kws.map itemW))
  | _ => none
def fTupIt : Cv → Option Cv
  | .dT kws => some (.tup (kws.map itemW))
  | _ => none
section
variable {X : Cx} {p q pos apos : Pos} {e : Expr} {te : CE}
theorem q_lstIt {kws : List (List Key × Cv)} : fLstIt (.dT kws) = some (.lst (kws.map itemW)) := rfl
theorem q_tupIt {kws : List (List Key × Cv)} : fTupIt (.dT kws) = some (.tup (kws.map itemW)) := rfl
end
end CL
/-! CL62: own dicts whose keys are tuples, computed -/
namespace CL
open PySem PySem.Spec PyProof.Rows L2
variable [LamT]
/-! own dicts -/
def mTPut (i : Nat) (k a : ME) : MS := fun gs => ((slO gs[i]?).bind dtOnly).bind fun d => (a gs).bind fun v => (k gs).bind fun y => (fTPut d y v).map fun d => .nx (gs.set i (.ow d)) where
  fTPut : Cv → Cv → Cv → Option Cv
  | .dT kws, y, v => if decide (kws.length < 1000000) = true then (keyT y).map fun k => .dT (putC kws k v) else none
  | _, _, _ => none
/-! ### setdefault -/
def fTSetd : Cv → Cv → Cv → Option (Cv × Cv)
  | .dT kws, y, z => (keyT y).bind fun k => if decide (kws.length < 1000000) = true then some ((valC kws k).getD z, .dT (if (valC kws k).isSome = true then kws else putC kws k z)) else none
  | _, _, _ => none
def mTSetd (i : Nat) (k a : ME) : MS := fun gs => ((slO gs[i]?).bind dtOnly).bind fun d => (k gs).bind fun y => (a gs).bind fun z => (fTSetd d y z).map fun r => .nx (gs.set i (.ow r.2))
def mAsgTSetd (j i : Nat) (k a : ME) : MS := fun gs => ((slO gs[i]?).bind dtOnly).bind fun d => (k gs).bind fun y => (a gs).bind fun z => (fTSetd d y z).map fun r => .nx ((gs.set i (.ow r.2)).set j (.pl r.1))
def mTOIx (i : Nat) (b : ME) : ME := fun gs => ((slO gs[i]?).bind dtOnly).bind fun d => (b gs).bind fun y => fTIx d y
def mTOIn (ng : Bool) (b : ME) (i : Nat) : ME := fun gs => (b gs).bind fun y => ((slO gs[i]?).bind dtOnly).bind fun d => fTIn ng y d
def mTOGet2 (i : Nat) (b c : ME) : ME := fun gs => ((slO gs[i]?).bind dtOnly).bind fun d => (b gs).bind fun y => (c gs).bind fun z => fTGet2 d y z
def mTOGet1 (i : Nat) (b : ME) : ME := fun gs => ((slO gs[i]?).bind dtOnly).bind fun d => (b gs).bind fun y => fTGet1 d y
section
variable {ty tz : CE} {b c : ME} {i : Nat}
theorem q_tOIx {gs : MEnv} : mTOIx i b gs = ((slO gs[i]?).bind dtOnly).bind fun d => (b gs).bind fun y => fTIx d y := rfl
theorem q_tOIn {ng : Bool} {gs : MEnv} : mTOIn ng b i gs = (b gs).bind fun y => ((slO gs[i]?).bind dtOnly).bind fun d => fTIn ng y d := rfl
theorem q_tOGet2 {gs : MEnv} : mTOGet2 i b c gs = ((slO gs[i]?).bind dtOnly).bind fun d => (b gs).bind fun y => (c gs).bind fun z => fTGet2 d y z := rfl
theorem q_tOGet1 {gs : MEnv} : mTOGet1 i b gs = ((slO gs[i]?).bind dtOnly).bind fun d => (b gs).bind fun y => fTGet1 d y := rfl
end
theorem q_tOnly {kws : List (List Key × Cv)} : dtOnly (.dT kws) = some (.dT kws) := rfl
theorem q_tput {i : Nat} {k a : ME} {gs : MEnv} : mTPut i k a gs = ((slO gs[i]?).bind dtOnly).bind fun d => (a gs).bind fun v => (k gs).bind fun y => (mTPut.fTPut d y v).map fun d => .nx (gs.set i (.ow d)) := rfl
theorem q_tsetd {i : Nat} {k a : ME} {gs : MEnv} : mTSetd i k a gs = ((slO gs[i]?).bind dtOnly).bind fun d => (k gs).bind fun y => (a gs).bind fun z => (fTSetd d y z).map fun r => .nx (gs.set i (.ow r.2)) := rfl
theorem q_asgTsetd {i j : Nat} {k a : ME} {gs : MEnv} : mAsgTSetd j i k a gs = ((slO gs[i]?).bind dtOnly).bind fun d => (k gs).bind fun y => (a gs).bind fun z => (fTSetd d y z).map fun r => .nx ((gs.set i (.ow r.2)).set j (.pl r.1)) := rfl
theorem q_fTIx {kws : List (List Key × Cv)} {y : Cv} : fTIx (.dT kws) y = (keyT y).bind (valC kws) := rfl
theorem q_fTIn {kws : List (List Key × Cv)} {y : Cv} {ng : Bool} : fTIn ng y (.dT kws) = (keyT y).map fun k => .bl (if ng = true then !(valC kws k).isSome else (valC kws k).isSome) := rfl
theorem q_tget2 {a b c : ME} {gs : MEnv} : mTGet2 a b c gs = ((a gs).bind dtOnly).bind fun d => (b gs).bind fun y => (c gs).bind fun z => fTGet2 d y z := rfl
theorem q_tget1 {a b : ME} {gs : MEnv} : mTGet1 a b gs = ((a gs).bind dtOnly).bind fun d => (b gs).bind fun y => fTGet1 d y := rfl
end CL
/-! CL63: defs with a starred parameter -/
namespace CL
open PySem PySem.Spec PyProof.Rows L2
variable [LamT]
structure FnS (P : Program) (w : World) (K : Fg) (mg : Str → Option Value) (base : Heap) (CX : CXT) (k : Nat) (f : Addr) (sp : CSp) : Prop where
  mono : MonSp sp
  run : ∀ (A : Around) (outer : List PySem.Env) (s : Shared) (H : Hp) (us : List Value) (vs : List V) (Q : VK) (E : XK), RoomG k A → Env0 P w K mg base A outer s H → Vals vs us → liftSp K sp vs H Q E →
    codeAny (model P w) A (.call (.ref f) ⟨us, []⟩) (CR CX outer P w H s Q E) s
theorem FnS.mono_k {P : Program} {w : World} {K : Fg} {mg : Str → Option Value} {base : Heap} {CX : CXT} {j k : Nat} {f : Addr} {sp : CSp} (F : FnS P w K mg base CX j f sp) (h : j ≤ k) : FnS P w K mg base CX k f sp :=
  ⟨F.mono, fun A outer s H us vs Q E hr => F.run A outer s H us vs Q E (hr.mono h)⟩
/-- how a call of such a def binds -/
def BindsS (fd : FuncData) (ps : List Str) (pv : Str) : Prop := ∀ us rest : List Value, us.length = ps.length → bindArgs fd ⟨us ++ rest, []⟩ = (newTuple rest >>= fun t => pure (ps.zip us ++ [(pv, t)]))
structure FnFS (K : Fg) (mg : Str → Option Value) (x : Str) (st : Stmt) (f : Addr) (fd : FuncData) (ps : List Str) (pv : Str) : Prop where
  F : Fun K x x st f fd
  b : BindsS fd ps pv
  m : mg x = some (.ref f)
  k : PySem.W.keepIn K (.ref f) = true
section
variable {P : Program} {w : World} {K : Fg} {mg : Str → Option Value} {base : Heap}
end
section
variable {X : Cx} {k : Nat} {f : Addr} {sp : CSp} {x : Str} {p pos sp_ : Pos} {e : Expr} {es : List Expr} {ta : CA} {te : CE}
end
/-! ### computed -/
end CL
/-! CL64: k in d as a test -/
namespace CL
open PySem PySem.Spec PyProof.Rows L2
variable [LamT]
section
variable {X : Cx} {o i : Expr} {td ty : CE} {pos : Pos} {σ : L2.St} {H : Hp} {Q : VK}
theorem dNotIn_go (hi : MonE ty) (ho : MonE td) (h : liftE X.K (cDIn true ty td) σ H Q) : tDNotIn (liftE X.K ty) (liftE X.K td) σ H Q := by
  obtain ⟨Z, S, ws, ok, re, h⟩ := h
  refine liftE_of hi ok re h fun y S1 vy H1 f1 ok1 r1 q1 => ?_
  refine liftE_of ho ok1 (re.fr f1) q1 fun x S2 vx H2 f2 ok2 r2 q2 => ?_
  split at q2
  · rename_i kws k ek ey
    obtain ⟨a, kvs, rfl, hh, rk⟩ := derefK_ok ok2 r2 ek
    obtain ⟨g1, g2, _⟩ := dget_of hh rk ey (r1.fr f2)
    exact ⟨a, _, rfl, g1, q2 _ H2 (f1.trans f2) ok2 (by rw [g2]; exact .bl _)⟩
  · exact q2.elim
theorem st_dNotIn (hu : X.A.units + 1 < cLine) (hi : SE X i ty) (ho : SE X o td) (hm : behindInMarks .NotIn o = false := by first | exact nomark _ | rfl) : ST X (.Compare i [.NotIn] [o] pos) (cB (cDIn true ty td)) :=
  ⟨cB_mono (mo_dIn hi.mono ho.mono), (pt_cmp (pc_dnotin hu hi.ok ho.ok) hm).imp fun σ H Q h => dNotIn_go hi.mono ho.mono (cB_ok (mo_dIn hi.mono ho.mono) h)⟩
end
end CL
/-! CL65: an expression that changes the first parameter's object alone, and reads the def's own objects: they are frozen while it runs -/
namespace CL
open PySem PySem.Spec PyProof.Rows L2
variable [LamT]
section
variable {K : Fg} {Z : List Addr} {S : Sto} {H : Hp}
mutual
theorem Rep.tt' {S' : Sto} (nt : ∀ {a : Addr} {o : Ob} {vs : List V}, S' a = some o → Rd H a (.tup vs) → False) : ∀ {w : Cv} {v : V}, ttv w = true → Rep K Z S H w v → Rep K Z S' H w v
  | _, _, _, .non => .non
  | _, _, _, .bl b => .bl b
  | _, _, _, .int i => .int i
  | _, _, _, .str x => .str x
  | _, _, h, .tup (a := a) hr n r => .tup hr (by
      cases e : S' a with
      | none => rfl
      | some o => exact (nt e hr.rd).elim) (Reps.tt' nt h r)
  | _, _, h, .tupK hr r => .tupK hr (Reps.tt' nt h r)
  | _, _, h, .lst _ _ _ _ => by cases h
  | _, _, h, .scr _ _ _ => by cases h
  | _, _, h, .tupF _ _ _ _ => by cases h
  | _, _, h, .scrK _ _ => by cases h
  | _, _, h, .dK _ _ _ _ _ => by cases h
  | _, _, h, .dT _ _ _ _ _ => by cases h
  | _, _, h, .ref _ => by cases h
  | _, _, h, .opq _ => by cases h
  | _, _, h, .exc _ _ _ _ _ _ _ _ _ => by cases h
  | _, _, h, .excN _ _ _ _ => by cases h
  | _, _, h, .lam _ _ _ => by cases h
  | _, _, h, .cls _ => by cases h
theorem Reps.tt' {S' : Sto} (nt : ∀ {a : Addr} {o : Ob} {vs : List V}, S' a = some o → Rd H a (.tup vs) → False) : ∀ {ws : List Cv} {vs : List V}, ttvs ws = true → Reps K Z S H ws vs → Reps K Z S' H ws vs
  | _, _, _, .nil => .nil
  | _, _, h, .cons a r => .cons (Rep.tt' nt (Bool.and_eq_true_iff.mp h).1 a) (Reps.tt' nt (Bool.and_eq_true_iff.mp h).2 r)
end
end
/-! computed: the first slot alone stays own -/
def fFlat (v : Cv) (rest g1 : MEnv) : Option (Oc Cv) := match g1 with
  | .ow (.lst xs) :: _ => if (ttv v && ttvs xs) = true then some (.ok v (.ow (.lst xs) :: rest)) else none
  | _ => none
def xBor (a : XE) : XE := fun gs => match gs with
  | .ow s :: rest => match a (.ow s :: rest.map thaw) with
    | some (.ok v g1) => fFlat v rest g1
    | _ => none
  | _ => none
theorem w_bor {a : XE} {s : Cv} {rest : MEnv} : xBor a (.ow s :: rest) = match a (.ow s :: rest.map thaw) with
    | some (.ok v g1) => fFlat v rest g1
    | _ => none := rfl
end CL
/-! CL66: own list + list as a new own list -/
namespace CL
open PySem PySem.Spec PyProof.Rows L2
variable [LamT]
def fAddN (o : Cv) (y : Cv) : Option Cv := match o, y with
  | .lst xs, .lst ys => if lenOk (xs.length + ys.length) = true then some (.lst (xs ++ ys)) else none
  | _, _ => none
def xAddN (i : Nat) (e : XE) : XE := fun gs => ((slO gs[i]?).bind lstOnly).bind fun _ => bx (e gs) fun y g1 => lift ((slO g1[i]?).bind fun o => fAddN o y) g1
theorem w_addN {i : Nat} {e : XE} {gs : MEnv} : xAddN i e gs = ((slO gs[i]?).bind lstOnly).bind fun _ => bx (e gs) fun y g1 => lift ((slO g1[i]?).bind fun o => fAddN o y) g1 := rfl
end CL
/-! CL67: a sign not in a text -/
namespace CL
open PySem PySem.Spec PyProof.Rows L2
variable [LamT]
def fNotInS : Cv → Cv → Option Cv
  | .str x, .str z => match x.cps.toList with
    | [c] => some (.bl (!decide (c ∈ z.cps.toList)))
    | _ => none
  | _, _ => none
theorem q_notInS {c : Nat} {z : Str} : fNotInS (.str ⟨#[c]⟩) (.str z) = some (.bl (!decide (c ∈ z.cps.toList))) := rfl
end CL
/-! CL68: an own dict that is locked while it is walked -/
namespace CL
open PySem PySem.Spec PyProof.Rows L2
variable [LamT]
section
variable {K : Fg} {Z : List Addr} {S : Sto} {H : Hp} {p : Addr} {od : Obj} {kvs : List (Key × V)} {kws : List (Key × Cv)}
end
/-! ### the walks -/
section
variable {K : Fg} {Z : List Addr} {S : Sto} {H : Hp} {a : Addr} {od : Obj} {kvs : List (Key × V)} {kws : List (Key × Cv)}
end
section
variable {X : Cx} {e : Expr} {td ty : CE} {apos cpos : Pos}
end
/-! ### computed -/
/-- readings inside a walk over the keys of slot i, which may read that dict -/
structure EvK (i : Nat) (te : CE) (φ : List (Key × Cv) → ME) : Prop where
  mono : MonE te
  ok : ∀ {B S gs ws Q v p od kvs kws}, View B S gs ws → ws[i]? = some (some (.ref p)) → S p = some (.dL od kvs kws) → φ kws gs = some v → Q v S → te ws S Q
structure EvKA (i : Nat) (ta : CA) (φ : List (Key × Cv) → MA) : Prop where
  mono : MonA ta
  ok : ∀ {B S gs ws Q v p od kvs kws}, View B S gs ws → ws[i]? = some (some (.ref p)) → S p = some (.dL od kvs kws) → φ kws gs = some v → Q v S → ta ws S Q
section
variable {i : Nat} {te ta tb ty : CE} {ua : CA} {a b : List (Key × Cv) → ME} {u : List (Key × Cv) → MA}
end
end CL
/-! CL69: sorted(list of pairs of texts with unlike firsts) -/
namespace CL
open PySem PySem.Spec PyProof.Rows L2
variable [LamT]
open Srt SrtO
section
variable {X : Cx}
end
section
variable {K : Fg} {Z : List Addr} {S : Sto} {H : Hp}
end
end CL
/-! CL70: plain tuple + plain tuple -/
namespace CL
open PySem PySem.Spec PyProof.Rows L2
variable [LamT]
section
variable {X : Cx}
end
end CL
/-! CL71: v not in NAME, NAME a tuple of texts of the module (where such tuples are no clean values) -/
namespace CL
open PySem PySem.Spec PyProof.Rows L2
variable [LamT]
section
variable {X : Cx} {x : Str} {pos p : Pos} {ws : List Cv} {l : Expr} {tl : CE}
end
def fNotInG (ws : List Cv) (v : Cv) : Option Cv := fInB true v (.tup ws)
theorem q_notInG {ws : List Cv} {v : Cv} : fNotInG ws v = fNotIn v (.tup ws) := rfl
end CL
/-! CL72: an error that is caught and kept: its object is tracked behind the try -/
namespace CL
open PySem PySem.Spec PyProof.Rows L2
variable [LamT]
section
variable {X : Cx} {pins : List (Addr × Obj)} {σ : L2.St} {H : Hp} {s : Shared} {a : Addr} {oe : Obj} {vs : Array Value}
end
end CL
set_option maxHeartbeats 2000000
/-! CL73: try: .. except C as n: y = n -/
namespace CL
open PySem PySem.Spec PyProof.Rows L2
variable [LamT]
section
variable {X : Cx} {x n y : Str} {c : Value} {i j : Nat} {body : List Stmt} {np ny nn pa ph pos : Pos} {tb : WX → TS} {Wout : WX}
end
end CL
set_option maxHeartbeats 1000000
/-! CL74: raise, try, calls that may raise, as clean readings; isinstance of a kept error, its fields -/
namespace CL
open PySem PySem.Spec PyProof.Rows L2
variable [LamT]
/-! ### calls that may raise -/
section
variable {X : Cx} {k : Nat} {f : Addr} {fd : FuncData} {ps : List Str} {sp : CSp} {x y : Str} {p p' pos pos' : Pos} {e : Expr} {es : List Expr} {ta : CA}
end
/-! ### try -/
section
variable {X : Cx} {x n y : Str} {i j : Nat} {body : List Stmt} {np ny nn pa ph pos : Pos} {t : CS} {D : Addr}
end
/-! ### raise -/
/-- what the module knows of an error class of one field, and its __init__ -/
def spInit (K : Fg) (C : Addr) (f : Str) : Sp := fun vs H Q _ => ∃ (a : Addr) (y : V), vs = [.ref a, y] ∧ OexC K C ∧ PySem.W.findIn K (.ref C) f = some none ∧ H a = some (exo a C none) ∧ ∀ dx, H dx = none → dx ≠ a → Q .non (upd (upd H dx (exd dx [(f, y)])) a (exo a C (some dx)))
section
variable {X : Cx} {x f : Str} {C fI : Addr} {k : Nat} {fd : FuncData} {ps : List Str} {ts : List (Str × Bool)} {p pos pos' : Pos} {e : Expr} {te : CE}
end
end CL
/-! CL75: names of classes, isinstance of a kept error, its fields -/
namespace CL
open PySem PySem.Spec PyProof.Rows L2
variable [LamT]
section
variable {X : Cx} {x : Str} {pos : Pos}
/-! ### isinstance -/
end
/-! ### fields -/
end CL
set_option maxHeartbeats 2000000
/-! CL76: the __init__ of an error class of the program: super().__init__(), self.f = f -/
namespace CL
open PySem PySem.W PySem.Spec PyProof.Rows L2
variable [LamT]
/-- of the class at C: what its __init__ leans on -/
structure SupC (K : Fg) (C : Addr) : Prop where
  op : PySem.W.nsIn K cStatics "thirdparty.any" = some none
  su : ks_superIn K C C "__init__" = some (some (.builtin "ValueError.__init__"))
  ve : PySem.W.subIn K (.ref C) (.type "ValueError") = some true
  me : PySem.W.mroIn K C (.ref C) = some true
section
variable {P : Program} {w : World} {A : Around} {E : Value → Shared → Prop} {h : Heap} {g : Array GenState} {d : Drawn} {t : Nat} {os : OsState}
end
section
variable {P : Program} {w : World} {K : Fg} {mg : Str → Option Value} {base : Heap}
/-- the body of such an __init__ -/
def initBody (f : Str) (p0 p1 p2 p3 p4 p5 p6 p7 p8 : Pos) : List Stmt :=
  [.Expr (.Call (.Attribute (.Call (.Name "super" p0) [] [] p1) "__init__" p2) [] [] p3) p4, .Assign [.Attribute (.Name "self" p5) f p6] (.Name f p7) p8]
structure InitS (qual f : Str) (params : Arguments) (body : List Stmt) (sc : Scope) : Prop where
  ps : params.posonlyargs = [] ∧ ∃ a b : Arg, params.args = [a, b] ∧ a.arg = "self" ∧ b.arg = f
  bd : ∃ p0 p1 p2 p3 p4 p5 p6 p7 p8, body = initBody f p0 p1 p2 p3 p4 p5 p6 p7 p8 ∧ ∀ env, ∃ pl, eval (.Call (.Attribute (.Call (.Name "super" p0) [] [] p1) "__init__" p2) [] [] p3) env =
    (attributeBase (.Call (.Name "super" p0) [] [] p1) "__init__" env (eval (.Call (.Name "super" p0) [] [] p1) env) >>= fun ov => do { standAt p2.atName; let (g, first) ← holding [ov] (getMethod ov "__init__" pl); callWith p3 g first (backTo p3 (starEach [] env)) [] })
  nc : ∀ x ∈ sc.names, x.2 ≠ .cell
  se : sc.names.lookup (β := NameKind) ("self" : Str) = some .local
  fl : sc.names.lookup f = some .local
  cl : sc.names.lookup (β := NameKind) ("__class__" : Str) = some .free
  su : sc.names.lookup (β := NameKind) ("super" : Str) = some .globalImplicit
  co : sc.isCoroutine = false
  ge : sc.isGenerator = false
  ki : sc.kind = .function
  ne : f ≠ "self"
  nd : (f == ("__debug__" : Str)) = false
/-- the def's record, its code, its cell -/
structure InitK (P : Program) (K : Fg) (C fI : Addr) (fd : FuncData) (qual f : Str) (params : Arguments) (body : List Stmt) (sc : Scope) : Prop where
  rc : ∃ (oc dV kV doc pm ct : Value) (od an : Option Addr) (osl : Array (Option Value)) (cc cda : Addr), fd = PySem.W.ksFn "__init__" qual params body sc dV kV doc pm an (.ref cda) ct cc ∧ K.lookup fI = some ⟨oc, od, .func fd, osl⟩ ∧ PySem.W.codeIn K (.ref cda) qual = true ∧
    (∃ (ccl : Value) (cdd : Option Addr) (vs : Array Value) (ccs : Array (Option Value)) (file : Str) (tf : Tok), K.lookup cda = some ⟨ccl, cdd, .fields vs, ccs⟩ ∧ vs[2]? = some (.str file tf) ∧ ((P.main.file : Str) == file) = true) ∧
    ∃ (cl : Value) (cld : Option Addr) (csl : Array (Option Value)), K.lookup cc = some ⟨cl, cld, .cell (some (.ref C)), csl⟩
end
end CL
set_option maxHeartbeats 1000000
/-! CL77: defs that may raise: their contract, their computed readings -/
namespace CL
open PySem PySem.Spec PyProof.Rows L2
variable [LamT]
def bodyEndsE (S : Sto) (Q : Cv → Sto → Prop) (E : Ex → Sto → Prop) : CEnds := { bodyEnds S Q with ex := fun x _ S' => ∃ S'', (∀ a o, S'' a = some o → S' a = some o) ∧ E x S'' }
structure PLE (N ps : List Str) (sp : CSp) (t : CS) : Prop where
  mono : MonSp sp
  len : ∀ us S Q E, sp us S Q E → us.length = ps.length
  go : ∀ us S Q E, sp us S Q E → t (bodyEndsE S Q E) (cstart N us) S
section
variable {P : Program} {w : World} {K : Fg} {mg : Str → Option Value} {base : Heap}
end
/-! ### computed -/
/-- what such a def gives: a value, or an error -/
abbrev Re := Cv ⊕ Ex
def spE (n : Nat) (m : List Cv → Option Re) : CSp := fun us S Q E => us.length = n ∧ ∃ r, m us = some r ∧ (match r with | .inl v => Q v S | .inr x => E x S)
theorem spE_mono {n : Nat} {m : List Cv → Option Re} : MonSp (spE n m) := fun us S Q Q' E E' f g ⟨l, r, e, q⟩ => ⟨l, r, e, by
  cases r with
  | inl v => exact f _ _ q
  | inr x => exact g _ _ q⟩
def outE (φ : MS) (gs : MEnv) : Option Re := (φ gs).bind fun | .rt v => some (.inl v) | .nx _ => some (.inl .non) | .ex x => some (.inr x) | _ => none
theorem PLE.ofEv {N ps : List Str} {t : CS} {φ : MS} (h : EvS t φ) : PLE N ps (spE ps.length fun us => outE φ (mstart N us)) t :=
  ⟨spE_mono, fun us S Q E ⟨l, _⟩ => l, fun us S Q E ⟨l, r, e, q⟩ => by
    obtain ⟨z, e1, e⟩ := bind_some e
    refine h.ok view_start e1 ?_
    cases z with
    | nx gs => cases e; exact fun S' ws' V => ⟨S, _, V.base, .inl rfl, q⟩
    | rt v => cases e; exact fun S' b => ⟨S, _, b, .inl rfl, q⟩
    | bk gs => cases e
    | ct gs => cases e
    | ex x => cases e; exact fun S' ws' b => ⟨S, b, q⟩⟩
section
variable {te : CE} {a : ME} {ua : CA} {u : MA}
end
/-! ### rewriting -/
section
variable {gs : MEnv} {u : MA} {a : ME} {i j k n : Nat} {m : List Cv → Option Re} {y f : Str} {ts : List (Str × Bool)} {fs : List (Str × Cv)} {v : Cv} {x : Ex} {cs : List Cv}
end
end CL
/-! CL78: what the module says of its error classes -/
namespace CL
open PySem PySem.W PySem.Spec PyProof.Rows L2
variable [LamT]
/-- an error class of one field, as the module has it -/
structure ErrF (P : Program) (w : World) (K : Fg) (mg : Str → Option Value) (base : Heap) (x f : Str) (ts : List (Str × Bool)) : Prop where
  ex : ∃ (C fI : Addr) (fd : FuncData) (ps : List Str), mg x = some (.ref C) ∧ OexC K C ∧ ExT K C ts [f] ∧ findIn K (.ref C) "__init__" = some (some (.ref fI)) ∧ typeIn K (.ref fI) = some (.type "function") ∧
    (∀ k, FnOk P w K mg base CX0 k fI fd ps (spInit K C f)) ∧ L2.Binds K fd ps []
section
variable {X : Cx} {x f : Str} {k : Nat} {ts : List (Str × Bool)} {p pos pos' : Pos} {e : Expr} {te : CE}
end
end CL
/-! CL79: a lambda without parameters handed to a def that calls it -/
namespace CL
open PySem PySem.Spec PyProof.Rows L2 LamX
variable [LamT]
/-! ### the lambda called, in the def that got it -/
section
variable {X : Cx} {pins : List (Addr × Obj)} {σ : L2.St} {H : Hp} {s : Shared}
end
/-! ### clean -/
/-- the reading of an expression that may raise -/
abbrev RE := CL.Env → Sto → (Cv → Sto → Prop) → (Ex → Sto → Prop) → Prop
def MonR (tr : RE) : Prop := ∀ ws S (Q Q' : Cv → Sto → Prop) (E E' : Ex → Sto → Prop), (∀ w S', Q w S' → Q' w S') → (∀ x S', E x S' → E' x S') → tr ws S Q E → tr ws S Q' E'
def peE (X : Cx) (W : WX) (tr : RE) : TE := fun σ H Q => ∃ Z S ws, StOk X.K Z S H ∧ RepSt X.K Z S H σ ws ∧ tr ws S (fun w S2 => ∀ v H', Fr S H S2 H' → StOk X.K Z S2 H' → Rep X.K Z S2 H' w v → Q v H') fun x S2 => ∀ H', Fr S H S2 H' → StOk X.K Z S2 H' → ExAt X.K Z S2 H' x fun c d => W c d σ H'
structure SR (X : Cx) (e : Expr) (tr : RE) : Prop where
  mono : MonR tr
  ok : PE X e (peE X (WofX X) tr)
section
variable {X : Cx} {k : Nat} {f : Addr} {fd : FuncData} {ps : List Str} {sp : CSp} {x y : Str} {p p' pos pos' : Pos} {e : Expr} {es : List Expr} {ta : CA}
end
/-! ### the call -/
section
variable {K : Fg} {Z : List Addr} {S : Sto} {H : Hp} {σ : L2.St} {ws : CL.Env}
end
section
variable {X : Cx}
end
end CL
/-! CL80: lambdas, computed -/
namespace CL
open PySem PySem.Spec PyProof.Rows L2 LamX
variable [LamT]
def retE (r : Re) (S : Sto) (Q : Cv → Sto → Prop) (E : Ex → Sto → Prop) : Prop := match r with | .inl v => Q v S | .inr x => E x S
structure EvR (tr : RE) (φ : MEnv → Option Re) : Prop where
  mono : MonR tr
  ok : ∀ {S0 S gs ws Q E r}, View S0 S gs ws → φ gs = some r → retE r S Q E → tr ws S Q E
/-! ### what the lambda holds on to -/
/-! ### in the def that gets it -/
/-! ### the call -/
end CL
/-! CL81: defs that make lambdas: their tables -/
namespace CL
open PySem PySem.Spec PyProof.Rows L2
variable [LamT]
section
variable {P : Program} {w : World} {K : Fg} {mg : Str → Option Value} {base : Heap}
end
end CL
/-! CL82: split and partition of texts -/
namespace CL
open PySem PySem.Spec PyProof.Rows L2
variable [LamT]
section
variable {X : Cx}
end
/-! ### a def that may raise, where it does not -/
section
variable {X : Cx} {k : Nat} {f : Addr} {fd : FuncData} {ps : List Str} {sp : CSp} {x : Str} {p pos : Pos} {e : Expr} {es : List Expr} {ta : CA}
end
end CL
/-! CL83: texts compared by > and <= -/
namespace CL
open PySem PySem.Spec PyProof.Rows L2
variable [LamT]
section
variable {X : Cx}
end
end CL
/-! CL84: list(zip(xs, ys)) of two lists -/
namespace CL
open PySem PySem.Spec PyProof.Rows L2
variable [LamT]
structure ZlG (xs ys : Array Value) (lo : Addr) (h : Heap) (as : List Addr) : Prop where
  rise : as.Pairwise (· < ·)
  above : ∀ a ∈ as, lo < a
  pairs : ∀ (j : Nat) (a : Addr), as[j]? = some a → ∃ x y, xs[j]? = some x ∧ ys[j]? = some y ∧ h.get? a = some { cls := .type "tuple", data := .seq #[x, y] }
theorem ZlG.there {xs ys : Array Value} {lo : Addr} {h : Heap} {as : List Addr} (g : ZlG xs ys lo h as) {a : Addr} (ha : a ∈ as) : a < h.objs.size := by
  obtain ⟨j, hj⟩ := List.mem_iff_getElem?.mp ha
  obtain ⟨_, _, _, _, e⟩ := g.pairs j a hj
  exact Heap.lt_size e
structure ZlSt (h : Heap) (z TI TO i1 i2 l1 l2 S : Addr) (xs ys : Array Value) (i : Nat) : Prop where
  ti : IsPair h TI (.ref i1) (.ref i2)
  h1 : h.IsListIter i1 l1 i
  h2 : h.IsListIter i2 l2 i
  l1 : h.IsList l1 xs
  l2 : h.IsList l2 ys
  hz : (IsZip h z TI TO .none ∧ ∃ a b, IsPair h TO a b) ∨ ∃ (T : Addr) (f : Bool) (oT : Obj), IsZipHeld h z TI TO T f ∧ h.get? T = some oT ∧ T ≠ z ∧ T ≠ i1 ∧ T ≠ i2 ∧ T ≠ S
/-- all of it lies below the list -/
structure ZlOff (z TI TO i1 i2 l1 l2 S : Addr) : Prop where
  z : z < S
  ti : TI < S
  to : TO < S
  i1 : i1 < S
  i2 : i2 < S
  l1 : l1 < S
  l2 : l2 < S
theorem ZlSt.keep {h h' : Heap} {z TI TO i1 i2 l1 l2 S : Addr} {xs ys : Array Value} {i : Nat} (O : ZlOff z TI TO i1 i2 l1 l2 S) (st : ZlSt h z TI TO i1 i2 l1 l2 S xs ys i) (hk : ∀ b o, b ≠ S → h.get? b = some o → h'.get? b = some o) : ZlSt h' z TI TO i1 i2 l1 l2 S xs ys i := by
  have k : ∀ b o, b < S → h.get? b = some o → h'.get? b = some o := fun b o l e => hk b o (Nat.ne_of_lt l) e
  refine ⟨k _ _ O.ti st.ti, st.h1.at fun o e => k _ o O.i1 e, st.h2.at fun o e => k _ o O.i2 e, st.l1.at fun o e => k _ o O.l1 e, st.l2.at fun o e => k _ o O.l2 e, ?_⟩
  rcases st.hz with ⟨hz, a, b, hTO⟩ | ⟨T, f, oT, hz, hT, r1, r2, r3, r4⟩
  · exact .inl ⟨k _ _ O.z hz, a, b, k _ _ O.to hTO⟩
  · exact .inr ⟨T, f, oT, k _ _ O.z hz, hk _ _ r4 hT, r1, r2, r3, r4⟩
section
variable {prog : Program} {w : World} {A : Around} {E : Value → Shared → Prop} {s : Shared} {z TI TO i1 i2 l1 l2 S : Addr} {xs ys : Array Value}
end
section
variable {prog : Program} {w : World} {A : Around} {s : Shared} {R : Result → Shared → Prop} {z TI TO i1 i2 l1 l2 S : Addr} {xs ys : Array Value}
end
section
variable {prog : Program} {w : World} {A : Around} {E : Value → Shared → Prop} {s : Shared} {z TI TO i1 i2 l1 l2 S : Addr} {xs ys : Array Value}
end
/-! ### in the walk -/
section
variable {X : Cx} {e e2 : Expr} {p p2 pos pos2 : Pos}
/-! ### clean -/
end
end CL
/-! CL85: instances of the program's own classes: fields, stores, methods, making -/
namespace CL
open PySem PySem.Spec PyProof.Rows L2
variable [LamT]
/-- what is known of a class of the module -/
structure ClsI (K : Fg) (q : Str) (C : Addr) : Prop where
  at_ : PySem.W.nsIn K mainGlobals q = some (some (.ref C))
  cl : Cls K C
/-- a method of a class of the module -/
structure FnM (K : Fg) (q x qual : Str) (st : Stmt) (f : Addr) (fd : FuncData) (ps : List Str) : Prop where
  F : Fun K x qual st f fd
  b : Binds K fd ps []
  me : ∃ C, ClsI K q C ∧ Meth K C x f
section
variable {K : Fg} {Z : List Addr} {S : Sto} {H : Hp}
end
/-! ### a field is read -/
/-! ### a field of an own instance is written -/
section
variable {X : Cx} {q f : Str} {i : Nat} {x : Str} {e : Expr} {te : CE} {p p' pos : Pos}
end
/-! ### methods -/
section
variable {X : Cx} {k : Nat} {q m qual : Str} {st : Stmt} {f : Addr} {fd : FuncData} {ps : List Str} {sp : CSp} {i : Nat} {o e : Expr} {es : List Expr} {apos pos : Pos} {ta : CA} {pl : Sem Bool}
end
end CL
/-! CL86: an instance that is made and asked at once; computed readings of instances -/
namespace CL
open PySem PySem.Spec PyProof.Rows L2
variable [LamT]
/-- the __init__ of a class of the module, and that the class makes instances -/
structure FnI (K : Fg) (mg : Str → Option Value) (q qual : Str) (st : Stmt) (f : Addr) (fd : FuncData) (ps : List Str) : Prop where
  F : Fun K "__init__" qual st f fd
  b : Binds K fd ps []
  made : ∃ C, ClsI K q C ∧ Mk K C f ∧ mg q = some (.ref C)
section
variable {X : Cx} {k : Nat} {q m qual qual2 x : Str} {st st2 : Stmt} {f f2 : Addr} {fd fd2 : FuncData} {ps ps2 : List Str} {sp sp2 : CSp} {e : Expr} {es : List Expr} {p apos pos pos2 : Pos} {ta : CA}
end
/-! ### computed -/
section
variable {W : WX'} {ua : CA} {u : XA} {te : CE} {a : XE} {q m f : Str} {i n : Nat}
/-- targets that may change own objects -/
structure EvH (b : Pn) (g : CG) (γ : MG) : Prop where
  mono : MonG g
  ok : ∀ {B S gs ws Q gs' w}, View B S gs ws → γ w gs = some gs' → (∀ S' ws', View B S' gs' ws' → (∀ k, b k = true → ws'[k]? = ws[k]?) → Q ws' S') → g w ws S Q
structure EvHs (b : Pn) (g : CGs) (γ : MGs) : Prop where
  mono : MonGs g
  ok : ∀ {B S gs ws Q gs' w}, View B S gs ws → γ w gs = some gs' → (∀ S' ws', View B S' gs' ws' → (∀ k, b k = true → ws'[k]? = ws[k]?) → Q ws' S') → g w ws S Q
/-! an instance made and asked at once -/
end
end CL
/-! CL87: text.find(piece, start); int(text); stores to fields as assignments -/
namespace CL
open PySem PySem.Spec PyProof.Rows L2
variable [LamT]
section
variable {X : Cx}
end
end CL
/-! CL88: long texts by times -/
namespace CL
open PySem PySem.Spec PyProof.Rows L2
variable [LamT]
section
variable {X : Cx}
end
end CL
set_option maxHeartbeats 2000000
/-! CL89: an error class of one's own, called with arguments by place and by name -/
namespace CL
open PySem
section
variable {M : Model} {A : Around} {E : Value → Shared → Prop} {h : Heap} {g : Array GenState} {d : Drawn} {t : Nat} {os : OsState}
variable {nm q : Str} {C N : Addr} {bs bm bmB : List Value} {hdct : Bool} {sn : List Str} {sub : List Value} {ab : Bool} {col : Option Bool} {dd : Option Addr} {k0 k1 k2 k3 k5 : Option Value} {B newId initId : String}
end
section
variable {prog : Program} {w : World} {A : Around} {E : Value → Shared → Prop} {R : Result → Shared → Prop} {h : Heap} {g : Array GenState} {d : Drawn} {t : Nat} {os : OsState}
variable {nm q : Str} {C N : Addr} {bs bm bmB : List Value} {hdct : Bool} {sn : List Str} {sub : List Value} {ab : Bool} {col : Option Bool} {dd : Option Addr} {k0 k1 k2 k3 k5 : Option Value} {B newId initId : String}
end
end CL
/-! CL90: an error of one or more fields, made by place or by name, as a clean value -/
namespace CL
open PySem PySem.Spec PyProof.Rows L2
variable [LamT]
/-- an __init__ that stores its arguments -/
def spInitL (K : Fg) (C : Addr) (fl : List Str) : Sp := fun vs H Q _ => ∃ (a : Addr) (ys : List V), vs = .ref a :: ys ∧ ys.length = fl.length ∧ OexC K C ∧ (∀ f ∈ fl, PySem.W.findIn K (.ref C) f = some none) ∧ H a = some (exo a C none) ∧ ∀ dx, H dx = none → dx ≠ a → Q .non (upd (upd H dx (exd dx (fl.zip ys).reverse)) a (exo a C (some dx)))
/-- which names in which order stand for which places -/
structure ErrM (P : Program) (w : World) (K : Fg) (mg : Str → Option Value) (base : Heap) (x : Str) (fl : List Str) (ts : List (Str × Bool)) (ks : List (List Str × List Nat)) : Prop where
  nn : fl ≠ []
  ex : ∃ (C fI : Addr) (fd : FuncData), mg x = some (.ref C) ∧ OexC K C ∧ ExT K C ts fl.reverse ∧ PySem.W.findIn K (.ref C) "__init__" = some (some (.ref fI)) ∧ PySem.W.typeIn K (.ref fI) = some (.type "function") ∧
    (∀ k, FnOk P w K mg base CX0 k fI fd (("self" : Str) :: fl) (spInitL K C fl)) ∧
    (∀ (s : Shared) (u : Value) (us : List Value), us.length = fl.length → BindsTo s fd ⟨u :: us, []⟩ ((("self" : Str) :: fl).zip (u :: us))) ∧
    (∀ (s : Shared) (u : Value) (us : List Value), ∀ p ∈ ks, us.length = fl.length → BindsTo s fd ⟨[u], p.1.zip us⟩ ((("self" : Str) :: fl).zip (u :: permL p.2 us)))
section
variable {X : Cx} {C fI : Addr} {k : Nat} {fd : FuncData} {fl : List Str}
end
section
variable {X : Cx} {x : Str} {k : Nat} {ts : List (Str × Bool)} {fl : List Str} {kss : List (List Str × List Nat)} {ix : List Nat} {p pos : Pos} {e : Expr} {es : List Expr} {kws : List Keyword} {ta : CA}
/-- an error class without an __init__ of its own -/
structure Err0 (K : Fg) (mg : Str → Option Value) (x : Str) (ts : List (Str × Bool)) : Prop where
  ex : ∃ C : Addr, mg x = some (.ref C) ∧ OexC K C ∧ ExT K C ts [] ∧ PySem.W.excIn K C PySem.HandSPX.veTail "ValueError.__new__" = true
end
end CL
/-! CL91: the __init__ of an error class of two fields -/
namespace CL
open PySem PySem.W PySem.Spec PyProof.Rows L2
variable [LamT]
section
variable {P : Program} {w : World} {K : Fg} {mg : Str → Option Value} {base : Heap}
def initBody2 (f f2 : Str) (p0 p1 p2 p3 p4 p5 p6 p7 p8 p9 pa pb pc : Pos) : List Stmt :=
  [.Expr (.Call (.Attribute (.Call (.Name "super" p0) [] [] p1) "__init__" p2) [] [] p3) p4, .Assign [.Attribute (.Name "self" p5) f p6] (.Name f p7) p8, .Assign [.Attribute (.Name "self" p9) f2 pa] (.Name f2 pb) pc]
structure InitS2 (qual f f2 : Str) (params : Arguments) (body : List Stmt) (sc : Scope) : Prop where
  ps : params.posonlyargs = [] ∧ ∃ a b c : Arg, params.args = [a, b, c] ∧ a.arg = "self" ∧ b.arg = f ∧ c.arg = f2
  bd : ∃ p0 p1 p2 p3 p4 p5 p6 p7 p8 p9 pa pb pc, body = initBody2 f f2 p0 p1 p2 p3 p4 p5 p6 p7 p8 p9 pa pb pc ∧ ∀ env, ∃ pl, eval (.Call (.Attribute (.Call (.Name "super" p0) [] [] p1) "__init__" p2) [] [] p3) env =
    (attributeBase (.Call (.Name "super" p0) [] [] p1) "__init__" env (eval (.Call (.Name "super" p0) [] [] p1) env) >>= fun ov => do { standAt p2.atName; let (g, first) ← holding [ov] (getMethod ov "__init__" pl); callWith p3 g first (backTo p3 (starEach [] env)) [] })
  nc : ∀ x ∈ sc.names, x.2 ≠ .cell
  se : sc.names.lookup (β := NameKind) ("self" : Str) = some .local
  fl : sc.names.lookup f = some .local
  fl2 : sc.names.lookup f2 = some .local
  cl : sc.names.lookup (β := NameKind) ("__class__" : Str) = some .free
  su : sc.names.lookup (β := NameKind) ("super" : Str) = some .globalImplicit
  co : sc.isCoroutine = false
  ge : sc.isGenerator = false
  ki : sc.kind = .function
  ne : f ≠ "self"
  ne2 : f2 ≠ "self"
  nf : f ≠ f2
  nd : (f == ("__debug__" : Str)) = false
  nd2 : (f2 == ("__debug__" : Str)) = false
end
end CL
/-! CL92: enumerate over a text -/
namespace CL
open PySem PySem.Spec PyProof.Rows L2
variable [LamT]
open Sem (wp)
section
variable {X : Cx} {e : Expr} {p pos tpos : Pos} {elts : List Expr} {kk : Nat}
end
section
variable {X : Cx} {e : Expr} {p pos tpos : Pos} {elts : List Expr} {kk : Nat}
end
end CL
/-! CL93: None in a list of any data -/
namespace CL
open PySem PySem.Spec PyProof.Rows L2
variable [LamT]
end CL
set_option maxHeartbeats 1000000
/-! CL94: if and for in the body of a generator -/
namespace PySem
open Sem (wp)
section
variable {M : Model} {A : Around} {R : GenEnd} {Y : Protocol} {n : Nat} {s₀ : Shared} {c : Code} {fs : List Frame} {s : Shared} {env : Env}
  {K : Flow → Sem Fin} {J : Value → Sem Fin} {gd : Bool → Bool} {lv : List Value → List Value}
end
section
variable {prog : Program} {w : World} {A : Around} {R : GenEnd} {Y : Protocol} {n : Nat} {s₀ : Shared} {fs : List Frame} {s : Shared} {env : Env}
end
end PySem
namespace L2
open PySem PySem.Spec PyProof.Rows GenW
section
variable {X : Cx}
end
end L2
/-! CL95: generators of ints: what a body hands out, computed; list(g(..)) -/
namespace CL
open PySem PySem.Spec PyProof.Rows L2
variable [LamT]
/-- what is wanted at an end -/
def OutGn (K : Fg) (Z : List Addr) (S0 S : Sto) (H : Hp) (D : GEnds) (ys : List Int) : Rz → Prop
  | .nx gs => ∀ σ' H' S' ws', Fr S H S' H' → StOk K Z S' H' → RepSt K Z S' H' σ' ws' → View S0 S' gs ws' → D.nx (ys.map V.int) σ' H'
  | .bk gs => ∀ σ' H' S' ws', Fr S H S' H' → StOk K Z S' H' → RepSt K Z S' H' σ' ws' → View S0 S' gs ws' → D.bk (ys.map V.int) σ' H'
  | .ct gs => ∀ σ' H' S' ws', Fr S H S' H' → StOk K Z S' H' → RepSt K Z S' H' σ' ws' → View S0 S' gs ws' → D.ct (ys.map V.int) σ' H'
  | _ => False
theorem OutGn.fr {K : Fg} {Z : List Addr} {S0 S S1 : Sto} {H H1 : Hp} {D : GEnds} {ys : List Int} {r : Rz} (f : Fr S H S1 H1) (h : OutGn K Z S0 S H D ys r) : OutGn K Z S0 S1 H1 D ys r := by
  cases r with
  | nx gs => exact fun σ' H' S' ws' a b c d => h σ' H' S' ws' (f.trans a) b c d
  | bk gs => exact fun σ' H' S' ws' a b c d => h σ' H' S' ws' (f.trans a) b c d
  | ct gs => exact fun σ' H' S' ws' a b c d => h σ' H' S' ws' (f.trans a) b c d
  | rt v => exact h
  | ex x => exact h
theorem _root_.L2.GS.imp {X : Cx} {st : Stmt} {t t' : TGn} (h : GS X st t) (f : ∀ D ys σ H, t' D ys σ H → t D ys σ H) : GS X st t' := ⟨fun A S ip R n ys s₀ c fs K J gd lv s σ H D a b k g q => h.run A S ip R n ys s₀ c fs K J gd lv s σ H D a b k g (f _ _ _ _ q)⟩
theorem _root_.L2.GSs.imp {X : Cx} {st : List Stmt} {t t' : TGn} (h : GSs X st t) (f : ∀ D ys σ H, t' D ys σ H → t D ys σ H) : GSs X st t' := ⟨fun A S ip R n ys s₀ c fs K J gd lv s σ H D a b k g q => h.run A S ip R n ys s₀ c fs K J gd lv s σ H D a b k g (f _ _ _ _ q)⟩
section
variable {X : Cx} {st : Stmt} {rest body orelse : List Stmt} {pos : Pos} {e test iter tg : Expr}
end
/-! ### the def's promise -/
def liftSpG (K : Fg) (n : Nat) (m : List Cv → Option (List Int)) : SpG := fun vs H cont E => ∃ Z S us ns, StOk K Z S H ∧ Reps K Z S H us vs ∧ us.length = n ∧ m us = some ns ∧ ns.length ≤ 1000000 ∧ ∀ H', Fr S H S H' → StOk K Z S H' → cont (ns.map V.int) H'
structure GnG (P : Program) (w : World) (K : Fg) (mg : Str → Option Value) (base : Heap) (k : Nat) (f : Addr) (fd : FuncData) (ps : List Str) (m : List Cv → Option (List Int)) : Prop where
  fn : GFn P w K mg base k f fd ps (liftSpG K ps.length m)
section
variable {X : Cx} {k n : Nat} {f : Addr} {fd : FuncData} {ps : List Str} {m : List Cv → Option (List Int)} {x nm : Str} {p p2 pos pos2 : Pos} {e : Expr} {es : List Expr} {ta : CA}
end
theorem GnG.mono_k {P : Program} {w : World} {K : Fg} {mg : Str → Option Value} {base : Heap} {j k : Nat} {f : Addr} {fd : FuncData} {ps : List Str} {m : List Cv → Option (List Int)} (F : GnG P w K mg base j f fd ps m) (h : j ≤ k) : GnG P w K mg base k f fd ps m :=
  ⟨⟨F.fn.len, fun A outer s H args us vs Q E hr e0 hb r q => codeAny_mono (F.fn.run A outer s H args us vs Q E (hr.mono h) e0 hb r q) fun rr s' hq => by
    cases rr with
    | error e => exact hq
    | ok fl =>
      cases fl with
      | ret u =>
        obtain ⟨a, g, c, e1, e2, e3, e4, e5, e6, e7, e8, e9, go⟩ := hq
        exact ⟨a, g, c, e1, e2, e3, e4, e5, e6, e7, e8, e9, fun A S s2 hrw hf hS hk hSo ho hb => go A S s2 (hrw.mono h) hf hS hk hSo ho hb⟩
      | next => exact hq
      | brk => exact hq
      | cont => exact hq⟩⟩
end CL
/-! CL96: for a, b, c in zip(a tuple, a list, a list) -/
namespace Z3
open PySem
open PySem.Sem (wp)
abbrev Is3 (h : Heap) (T : Addr) (a b c : Value) : Prop := h.get? T = some { cls := .type "tuple", data := .seq #[a, b, c] }
theorem na {a b : Nat} (h : a ≠ b) : @Ne Addr a b := h
section
variable {prog : Program} {w : World} {A : Around} {E : Value → Shared → Prop} {s : Shared}
/-- where it all stands: made one after the other behind n objects -/
structure St3 (h : Heap) (n l1 l2 l3 k : Nat) (xs ys zs : Array Value) (f0 : Value) (a b c : Value) : Prop where
  z : IsZip h (n + 5) (n + 3) (n + 4) f0
  TI : Is3 h (n + 3) (.ref n) (.ref (n + 1)) (.ref (n + 2))
  TO : Is3 h (n + 4) a b c
  i1 : h.IsTupleIter n l1 k
  i2 : h.IsListIter (n + 1) l2 k
  i3 : h.IsListIter (n + 2) l3 k
  t1 : h.IsTuple l1 xs
  t2 : h.IsList l2 ys
  t3 : h.IsList l3 zs
  b1 : l1 < n
  b2 : l2 < n
  b3 : l3 < n
end
abbrev o1 (l : Addr) : Obj := { cls := .type "tuple_iterator", data := .fields #[.ref l, .int 0 0] }
abbrev o2 (l : Addr) : Obj := { cls := .type "list_iterator", data := .fields #[.ref l, .int 0 0] }
abbrev H1 (h : Heap) (l1 : Addr) : Heap := h.push (o1 l1)
abbrev H2 (h : Heap) (l1 l2 : Addr) : Heap := (H1 h l1).push (o2 l2)
abbrev H3 (h : Heap) (l1 l2 l3 : Addr) : Heap := (H2 h l1 l2).push (o2 l3)
abbrev H4 (h : Heap) (l1 l2 l3 : Addr) : Heap := (H3 h l1 l2 l3).push { cls := .type "tuple", data := .seq #[.ref h.objs.size, .ref (H1 h l1).objs.size, .ref (H2 h l1 l2).objs.size] }
abbrev H5 (h : Heap) (l1 l2 l3 : Addr) : Heap := (H4 h l1 l2 l3).push { cls := .type "tuple", data := .seq #[.none, .none, .none] }
abbrev H6 (h : Heap) (l1 l2 l3 : Addr) : Heap := (H5 h l1 l2 l3).push { cls := .type "zip", data := .fields #[.none, .bool false, .bool false, .ref (H3 h l1 l2 l3).objs.size, .ref (H4 h l1 l2 l3).objs.size] }
section
variable {prog : Program} {w : World} {A : Around} {E : Value → Shared → Prop} {s : Shared}
end
end Z3
namespace Z3
open PySem PySem.Spec PyProof.Rows L2
/-- the iterator's own objects, apart from the sequences -/
structure Own3 (h : Heap) (n : Nat) (a b c : Addr) (k : Nat) : Prop where
  z : IsZip h (n + 5) (n + 3) (n + 4) .none
  TI : Is3 h (n + 3) (.ref n) (.ref (n + 1)) (.ref (n + 2))
  TO : ∃ x y v, Is3 h (n + 4) x y v
  i1 : h.IsTupleIter n a k
  i2 : h.IsListIter (n + 1) b k
  i3 : h.IsListIter (n + 2) c k
end Z3
namespace CL
open PySem PySem.Spec PyProof.Rows L2
variable [LamT]
section
variable {K : Fg} {Z Z' : List Addr} {S S' : Sto} {H H' : Hp}
end
section
variable {X : Cx} {e e2 e3 : Expr} {p pos tpos : Pos} {elts : List Expr} {kk : Nat}
end
end CL
/-! CL97: defs and methods that may raise and change their first parameter -/
namespace CL
open PySem PySem.Spec PyProof.Rows L2
variable [LamT]
/-! ### the contract -/
/-! ### statements that may raise, in defs with effects -/
structure EvXR (b : Pn) (t : CS) (φ : XS) : Prop where
  mono : MonS t
  ok : ∀ {P B S gs ws D r}, (∀ k, P k ≠ none → b k = true) → XV P B S gs ws → φ gs = some r → OutS P D.ex B D r → t D ws S
theorem EvXR.of {b : Pn} {t : CS} {φ : XS} (h : ∀ W, EvXS b W t φ) : EvXR b t φ := ⟨(h fun _ _ _ => False).mono, fun {P B S gs ws D r} hb V e q => (h D.ex).ok hb V e q⟩
section
variable {b : Pn} {t t' : CS} {m m' : XS} {c : CT} {mc : XT} {te : CE} {a : XE}
end
/-! ### expressions that may raise, with effects -/
def OutRX (B : Sto) (ws : CL.Env) (Q : Cv → Sto → Prop) (E : Ex → Sto → Prop) : Oc Cv → Prop
  | .ok a gs => ∀ S, View B S gs ws → Q a S
  | .ex x gs => ∀ S, View B S gs ws → E x S
structure EvRX (tr : RE) (φ : XE) : Prop where
  mono : MonR tr
  ok : ∀ {B S gs ws Q E r}, View B S gs ws → φ gs = some r → OutRX B ws Q E r → tr ws S Q E
section
variable {X : Cx} {e e' : Expr} {te : CE}
end
/-! a if c else b -/
/-! ### the call -/
/-! ### a method that may raise -/
section
variable {X : Cx} {k : Nat} {q m qual : Str} {st : Stmt} {f : Addr} {fd : FuncData} {ps : List Str} {sp : CSp} {i : Nat} {o e : Expr} {es : List Expr} {apos pos : Pos} {ta : CA} {pl : Sem Bool}
end
/-! ### statements of such expressions -/
section
variable {b : Pn} {tr : RE} {a : XE}
end
end CL
/-! CL98: a lambda that holds on to an object of the caller's own, and changes it -/
namespace CL
open PySem PySem.Spec PyProof.Rows L2
variable [LamT]
/-! ### (c, a()) -/
/-! ### what a() does to the object at p -/
/-- a statement of the def that got the lambda; the object at p goes from v to v' -/
structure EvSA (p : Addr) (v v' : Cv) (t : CS) (φ : MS) : Prop where
  mono : MonS t
  ok : ∀ {B S gs ws D z}, (∃ o, B p = some o ∧ obv o = some v) → View B S gs ws → φ gs = some z → (∀ o', obv o' = some v' → OutC (B.set p o') D z) → t D ws S
section
variable {p : Addr} {v v' : Cv} {t t' : CS} {m m' : MS}
end
/-! ### what the lambda holds on to, one of it an own object -/
end CL
/-! CL99: an own instance in a slot is asked: properties, len(o), o[x], x in o, o(x, y); C(x) that may raise -/
namespace CL
open PySem PySem.Spec PyProof.Rows L2
variable [LamT]
/-- a def of the module that a class has under a special name -/
structure SpcI (K : Fg) (q m qual : Str) (st : Stmt) (f : Addr) (fd : FuncData) (ps : List Str) : Prop where
  F : Fun K m qual st f fd
  b : Binds K fd ps []
  ex : ∃ C, ClsI K q C ∧ PySem.W.findIn K (.ref C) m = some (some (.ref f)) ∧ PySem.W.isFn K (.ref f) = true ∧ PySem.W.fnIn K f = true ∧ PySem.W.noSeq K C = true
/-- a property of a class -/
structure PrpI (K : Fg) (q m qual : Str) (st : Stmt) (f : Addr) (fd : FuncData) (ps : List Str) : Prop where
  F : Fun K m qual st f fd
  b : Binds K fd ps []
  ex : ∃ C p, ClsI K q C ∧ PropOf K C m p f
/-! ### without errors -/
/-! ### the reading -/
section
variable {X : Cx} {k : Nat} {f : Addr} {fd : FuncData} {ps : List Str} {sp : CSp}
theorem RoomG.in1 {A : Around} (h : RoomG (k + 1) A) : RoomG k A.in1 := ⟨h.room.in1, h.gd⟩
end
/-! ### o.f, a property -/
section
variable {X : Cx} {k : Nat} {f : Addr} {fd : FuncData} {ps : List Str} {sp : CSp} {q m qual : Str} {st : Stmt} {i : Nat} {o e : Expr} {es : List Expr} {pos : Pos} {ta : CA} {te : CE}
/-! ### o[x] -/
/-! ### x in o -/
/-! ### len(o) -/
/-! ### o(x, ..) -/
end
end CL
/-! CL100: a dict that a field of an own instance holds is walked -/
namespace CL
open PySem PySem.Spec PyProof.Rows L2
variable [LamT]
/-! values without dicts -/
mutual
def noD : Cv → Bool
  | .non => true
  | .bl _ => true
  | .int _ => true
  | .str _ => true
  | .tup ws => noDs ws
  | .tupF ws => noDs ws
  | .ref _ => true
  | .opq _ => true
  | _ => false
def noDs : List Cv → Bool
  | [] => true
  | w :: ws => noD w && noDs ws
end
section
variable {K : Fg} {Z : List Addr} {S S1 : Sto} {H H1 : Hp}
mutual
theorem Rep.noD (hS : ∀ b (vs : List V) (ws : List Cv), TRd H b vs ws → S b = none → TRd H1 b vs ws ∧ S1 b = none) (hF : ∀ b (o : Obj) (vs : List V), H b = some (.frz o (.tup vs)) → S b = none → H1 b = some (.frz o (.tup vs)) ∧ S1 b = none) : ∀ {w : Cv} {v : V}, CL.noD w = true → Rep K Z S H w v → Rep K Z S1 H1 w v
  | _, _, _, .non => .non
  | _, _, _, .bl b => .bl b
  | _, _, _, .int i => .int i
  | _, _, _, .str x => .str x
  | _, _, h0, .tup h n r => .tup (hS _ _ _ h n).1 (hS _ _ _ h n).2 (Reps.noD hS hF (by simpa only [CL.noD] using h0) r)
  | _, _, h0, .tupK h r => .tupK h (Reps.noD hS hF (by simpa only [CL.noD] using h0) r)
  | _, _, h0, .lst _ _ _ _ => by simp [CL.noD] at h0
  | _, _, h0, .scr _ _ _ => by simp [CL.noD] at h0
  | _, _, h0, .tupF h n r d => .tupF (hF _ _ _ h n).1 (hF _ _ _ h n).2 (Reps.noD hS hF (by simpa only [CL.noD] using h0) r) d
  | _, _, h0, .scrK _ _ => by simp [CL.noD] at h0
  | _, _, h0, .dK _ _ _ _ _ => by simp [CL.noD] at h0
  | _, _, h0, .dT _ _ _ _ _ => by simp [CL.noD] at h0
  | _, _, h0, .ins _ _ _ _ _ _ => by simp [CL.noD] at h0
  | _, _, _, .ref a => .ref a
  | _, _, _, .opq v => .opq v
  | _, _, h0, .exc _ _ _ _ _ _ _ _ _ => by simp [CL.noD] at h0
  | _, _, h0, .excN _ _ _ _ => by simp [CL.noD] at h0
  | _, _, h0, .cls _ => by simp [CL.noD] at h0
  | _, _, h0, .lam _ _ _ => by simp [CL.noD] at h0
theorem Reps.noD (hS : ∀ b (vs : List V) (ws : List Cv), TRd H b vs ws → S b = none → TRd H1 b vs ws ∧ S1 b = none) (hF : ∀ b (o : Obj) (vs : List V), H b = some (.frz o (.tup vs)) → S b = none → H1 b = some (.frz o (.tup vs)) ∧ S1 b = none) : ∀ {ws : List Cv} {vs : List V}, CL.noDs ws = true → Reps K Z S H ws vs → Reps K Z S1 H1 ws vs
  | _, _, _, .nil => .nil
  | _, _, h0, .cons a r =>   .cons (Rep.noD hS hF (Bool.and_eq_true_iff.mp h0).1 a) (Reps.noD hS hF (Bool.and_eq_true_iff.mp h0).2 r)
end
end
/-! what is own, its contents not looked at -/
/-! ### the reading -/
end CL
/-! CL101: {**d, k: v} and (*t, x) -/
namespace CL
open PySem PySem.Spec PyProof.Rows L2
variable [LamT]
section
variable {prog : Program} {w : World} {κ : Type} [DecidableEq κ] {knd : PySem.KeyKind prog w κ} {A : Around} {E : Value → Shared → Prop} {s : Shared}
end
end CL
/-! CL102: {**o.f, x: y}; (*o.f, ..) -/
namespace CL
open PySem PySem.Spec PyProof.Rows L2
variable [LamT]
section
variable {M : Model} {A : Around} {E : Value → Shared → Prop} {s : Shared}
end
/-! a heap that says more -/
section
variable {K : Fg} {Z : List Addr} {S : Sto} {H H' : Hp}
theorem Fr.ext (e : ∀ b o, H b = some o → H' b = some o) : Fr S H S H' := ⟨fun b o h n _ => ⟨e b o h, n⟩, fun b h o z => h o (e b o z)⟩
theorem StOk.ext (ok : StOk K Z S H) (e : ∀ b o, H b = some o → H' b = some o) : StOk K Z S H' := by
  refine ⟨fun b o h => ?_, fun b z => ?_, fun p m => ?_⟩
  · obtain ⟨u, hu⟩ := (ok.ob b o h).there
    exact (ok.ob b o h).fr (Fr.ext e) ((e b u hu).trans hu.symm)
  · obtain ⟨n, u, h1, h2⟩ := ok.hid b z
    exact ⟨n, u, e b u h1, h2⟩
  · obtain ⟨ps, h1, h2, h3⟩ := ok.tab p m
    refine ⟨ps, e _ _ h1, h2, fun pos cv ep => ?_⟩
    obtain ⟨c, e1, e2⟩ := h3 pos cv ep
    exact ⟨c, e1, e _ _ e2⟩
end
section
variable {X : Cx} {q f x y : Str} {i j l : Nat} {o : Expr} {px py pa pos : Pos}
end
end CL
/-! CL103: own instances, computed; C(e, ..) as an object of the def's own -/
namespace CL
open PySem PySem.Spec PyProof.Rows L2
variable [LamT]
/-! ### (*t, ..) -/
/-! ### asked -/
section
variable {W : WX'} {ua : CA} {u : XA} {te : CE} {tr : RE} {a : XE} {q f : Str} {n i : Nat} {mf : List Cv → Option (Re × Cv)}
end
/-! ### a field of an own instance, as it stands -/
/-! ### {k: v for .. in o.f.items() if ..} -/
section
variable {g : CG} {tt : CT} {tk tv : CE} {mg : MG} {mt : MT} {ma mb : ME} {vs wi : List Nat} {q f : Str} {i : Nat}
end
/-! ### {**o.f, x: y} -/
/-! ### C(e, ..) -/
section
variable {X : Cx} {k : Nat} {q qual : Str} {st : Stmt} {f : Addr} {fd : FuncData} {ps : List Str} {sp : CSp} {e : Expr} {es : List Expr} {p pos : Pos} {ta : CA}
end
/-- a new object, or an error -/
structure EvRN (tr : RE) (φ : XE) : Prop where
  mono : MonR tr
  ok : ∀ {B S gs ws Q E r}, View B S gs ws → φ gs = some r → (match r with
    | .ok v g => ∀ S', View B S' g ws → ∀ p o, S' p = none → obv o = some v → Q (.ref p) (S'.set p o)
    | .ex x g => ∀ S', View B S' g ws → E x S') → tr ws S Q E
section
variable {q : Str} {n : Nat} {mf : List Cv → Option (Re × Cv)} {ua : CA}
end
end CL
/-! CL104: what is not reached; three at once; slices of what has effects; dict(d), d.pop(k) -/
namespace CL
open PySem PySem.Spec PyProof.Rows L2
variable [LamT]
/-! ### not reached -/
/-! ### x, y, z = .. with new objects -/
/-! ### e[a:b] -/
/-! ### dict(d) -/
/-! ### d.pop(k), d an own dict -/
def dropC (kws : List (Key × Cv)) (k : Key) : List (Key × Cv) := kws.filter fun kv => decide (kv.1 ≠ k)
theorem RepKV.drop {K : Fg} {Z : List Addr} {S : Sto} {H : Hp} {k : Key} : ∀ {kws : List (Key × Cv)} {kvs : List (Key × V)}, RepKV K Z S H kws kvs → RepKV K Z S H (dropC kws k) (dropK kvs k)
  | [], [], _ => ⟨rfl, .nil⟩
  | [], _ :: _, ⟨e, _⟩ => by cases e
  | _ :: _, [], ⟨e, _⟩ => by cases e
  | (g, w) :: kws, (g', v) :: kvs, ⟨e, r⟩ => by
    simp only [List.map_cons, List.cons.injEq] at e
    obtain ⟨rfl, e⟩ := e
    cases r with
    | cons a r =>
      obtain ⟨h1, h2⟩ := RepKV.drop (k := k) (kws := kws) (kvs := kvs) ⟨e, r⟩
      unfold dropC dropK at *
      by_cases z : g = k
      · rw [List.filter_cons_of_neg (by simpa using z), List.filter_cons_of_neg (by simpa using z)]
        exact ⟨h1, h2⟩
      · rw [List.filter_cons_of_pos (by simpa using z), List.filter_cons_of_pos (by simpa using z)]
        exact ⟨by simp only [List.map_cons]; rw [h1], .cons a h2⟩
end CL
/-! CL105: small parts for the printer -/
namespace CL
open PySem PySem.Spec PyProof.Rows L2
variable [LamT]
end CL
/-! CL106: rewriting of readings with own instances -/
namespace CL
open PySem PySem.Spec PyProof.Rows L2
variable [LamT]
section
variable {gs g : MEnv} {q f y : Str} {n i j l k : Nat} {mf : List Cv → Option (Re × Cv)} {u : XA} {a : XE} {b b' : MS} {us : List Cv} {v w st : Cv} {x : Ex} {fs : List (Str × Cv)} {N : List Str} {φ : XS} {rest : List Cv}
end
end CL
/-! CL107: a field of an own instance, read where it stands -/
namespace CL
open PySem PySem.Spec PyProof.Rows L2
variable [LamT]
/-! len of a dict -/
section
variable {X : Cx}
end
end CL
/-! CL108: text.strip(signs); a() if t else b() where a and b may raise; raise C() without fields -/
namespace CL
open PySem PySem.Spec PyProof.Rows L2
variable [LamT]
section
variable {X : Cx}
/-! a() if t else b() -/
end
end CL
/-! CL109: loops whose bodies may raise, in defs that change their first parameter -/
namespace CL
open PySem PySem.Spec PyProof.Rows L2
variable [LamT]
section
variable {b : Pn} {t : CS} {m : XS} {g : CG} {mg : MG} {ti : CI} {mi : XA} {vs : List Nat}
end
/-! if (x := e) op b: .. else: .., e may raise -/
end CL
/-! CL110: raise C(e, ..) with any number of fields, raise C() without -/
namespace CL
open PySem PySem.Spec PyProof.Rows L2
variable [LamT]
section
variable {X : Cx} {x : Str} {k : Nat} {ts : List (Str × Bool)} {fl : List Str} {kss : List (List Str × List Nat)} {p pos pos' : Pos} {e : Expr} {es : List Expr} {ta : CA}
end
section
variable {b : Pn} {ts : List (Str × Bool)} {fl : List Str} {ta : CA} {u : XA}
end
end CL
/-! CL111: o(x, ..) where o is an instance that is only read (a clean value) -/
namespace CL
open PySem PySem.Spec PyProof.Rows L2
variable [LamT]
section
variable {X : Cx} {k : Nat} {f : Addr} {fd : FuncData} {ps : List Str} {sp : CSp} {q m qual : Str} {st : Stmt} {i : Nat} {o e : Expr} {es : List Expr} {pos : Pos} {ta : CA} {te : CE}
end
/-! o.m(x, ..), o only read -/
section
variable {X : Cx} {k : Nat} {f : Addr} {fd : FuncData} {ps : List Str} {sp : CSp} {q m qual : Str} {st : Stmt} {o e : Expr} {es : List Expr} {i : Nat} {pos apos : Pos} {ta : CA} {pl : Sem Bool}
end
/-! computed -/
end CL
/-! CL112: list == [] for lists of anything -/
namespace CL
open PySem PySem.Spec PyProof.Rows L2
variable [LamT]
section
variable {X : Cx}
end
end CL
/-! CL113: an instance that is only read is asked, and may raise; C(e) as a value; statements that are not reached -/
namespace CL
open PySem PySem.Spec PyProof.Rows L2
variable [LamT]
section
variable {X : Cx} {k : Nat} {f : Addr} {fd : FuncData} {ps : List Str} {sp : CSp} {q m qual : Str} {st : Stmt} {o e : Expr} {es : List Expr} {i : Nat} {pos apos : Pos} {ta : CA} {te : CE} {pl : Sem Bool}
end
/-! ### C(e) as a value -/
theorem ExAt.less {K : Fg} {Z : List Addr} {S S2 : Sto} {H : Hp} {x : Ex} {E : Value → Option Addr → Prop} (hs : ∀ a o, S a = some o → S2 a = some o) (h : ExAt K Z S H x E) : ExAt K Z S2 H x E := fun C d fvs a b c e => h C d fvs a (by
  have hn : ∀ a, S2 a = none → S a = none := fun a n => by
    cases ez : S a with
    | none => rfl
    | some o => rw [hs a o ez] at n; cases n
  unfold ExD at b ⊢
  first
    | exact b.imp fun _ z => z
    | (cases d <;> first | exact b | (obtain ⟨b1, b2, b3⟩ := b; exact ⟨b1, hn _ b2, b3⟩) | (obtain ⟨b1, b2⟩ := b; exact ⟨b1, hn _ b2⟩))) c (e.less hs)
theorem Fr.del {S : Sto} {p : Addr} {H : Hp} : Fr S H (S.del p) H := ⟨fun a o h n nt => ⟨h, by
  by_cases z : a = p
  · rw [z]; exact Sto.del_same
  · rw [Sto.del_ne z]; exact n⟩, fun _ h => h⟩
/-! ### computed -/
section
variable {tr : RE} {φ : MEnv → Option Re}
end
section
variable {i j : Nat} {y : Str} {a : ME} {φ : MEnv → Option Re} {gs : MEnv} {w u : Cv} {x : Ex}
end
/-! ### dict displays of what may change own objects -/
def xPairs : List (XE × XE) → MEnv → Option (Oc (List (Cv × Cv)))
  | [], gs => some (.ok [] gs)
  | (a, b) :: r, gs => bx (a gs) fun x g1 => bx (b g1) fun y g2 => bx (xPairs r g2) fun l g3 => some (.ok ((x, y) :: l) g3)
inductive EvXPs (W : WX') : List (CE × CE) → List (XE × XE) → Prop
  | nil : EvXPs W [] []
  | cons {tk tv : CE} {a b : XE} {r : List (CE × CE)} {s : List (XE × XE)} : EvX W tk a → EvX W tv b → EvXPs W r s → EvXPs W ((tk, tv) :: r) ((a, b) :: s)
theorem EvXPs.mono {W : WX'} : ∀ {r : List (CE × CE)} {s : List (XE × XE)}, EvXPs W r s → ∀ t ∈ r, MonE t.1 ∧ MonE t.2
  | _, _, .nil, t, h => absurd h (by simp)
  | _, _, .cons a b c, t, h => by
    rcases List.mem_cons.mp h with e | h
    · rw [e]; exact ⟨a.mono, b.mono⟩
    · exact c.mono t h
theorem EvXPs.ok {W : WX'} : ∀ {tr : List (CE × CE)} {s : List (XE × XE)}, EvXPs W tr s → ∀ {B S gs ws Q r}, View B S gs ws → xPairs s gs = some r → OutX W B ws Q r → cPairs tr ws S Q
  | _, _, .nil, _, _, _, _, _, _, V, e, q => by cases e; exact q _ V
  | _, _, .cons a b c, _, _, _, _, _, _, V, e, q => by
    rcases bx_some e with ⟨x, g1, e1, e⟩ | ⟨x, g1, e1, rfl⟩
    · refine a.ok V e1 fun S1 V1 => ?_
      rcases bx_some e with ⟨y, g2, e2, e⟩ | ⟨y, g2, e2, rfl⟩
      · refine b.ok V1 e2 fun S2 V2 => ?_
        rcases bx_some e with ⟨l, g3, e3, e⟩ | ⟨l, g3, e3, rfl⟩
        · cases e
          exact c.ok V2 e3 fun S3 V3 => q _ V3
        · exact c.ok V2 e3 q
      · exact b.ok V1 e2 q
    · exact a.ok V e1 q
/-! ### not reached -/
/-! ### rewriting -/
section
variable {q y : Str} {n i : Nat} {m : List Cv → Option Re} {u : MA} {gs : MEnv} {o : Cv} {φ : MEnv → Option Re}
end
end CL
/-! CL114: any value != a text -/
namespace CL
open PySem PySem.Spec PyProof.Rows L2
variable [LamT]
section
variable {X : Cx}
end
end CL
/-! CL115: zip of a tuple with a list -/
namespace CL
open PySem PySem.Spec PyProof.Rows L2
variable [LamT]
section
variable {X : Cx}
end
section
variable {K : Fg} {Z Z' : List Addr} {S S' : Sto} {H H' : Hp}
end
section
variable {X : Cx} {e e2 : Expr} {p pos tpos : Pos} {elts : List Expr} {kk : Nat}
end
end CL
set_option maxHeartbeats 3200000
/-! CL116: sets of tuples of texts and ints, few different ones in a list of any length -/
namespace CL
open PySem PySem.Spec PyProof.Rows L2
variable [LamT]
section
variable {P : Program} {w : World} {A : Around} {E : Value → Shared → Prop} {s : Shared}
abbrev tpH (P : Program) (w : World) (k : List Key) : Int := tupleKeyHash (mixKind P w) k
/-! ### the table -/
def entT (P : Program) (w : World) (p : List Key × Addr) : Int × Value := (tpH P w p.1, .ref p.2)
/-- the set's cell: its entries, in the table's order -/
structure CellT (P : Program) (w : World) (h : Heap) (a : Addr) (ps : List (List Key × Addr)) (es : Array (Int × Value)) (ep : Nat) (t : SetTable) : Prop where
  ob : ∃ o, h.get? a = some o ∧ o.ExactSet ∧ o.data = .set es ep t
  en : es.toList = ps.map (entT P w)
  tab : TabOk t (ps.map fun p => tpH P w p.1)
  led : w.params.followText "set-order" = true ∨ t.led = true
  room : ps.length * 5 < t.mask * 3
  few : ps.length < 64
variable {a : Addr} {ps : List (List Key × Addr)} {es : Array (Int × Value)} {ep : Nat} {t : SetTable}
theorem en_size (h : es.toList = ps.map (entT P w)) : es.size = ps.length := by
  rw [← Array.length_toList, h, List.length_map]
theorem CellT.fits (R : CellT P w s.heap a ps es ep t) : t.fits es.size = true := by
  have h1 := R.tab.sz
  rw [List.length_map] at h1
  have h2 := en_size R.en
  have h3 := R.room
  unfold SetTable.fits SetTable.fill
  rw [R.tab.dm, Bool.and_eq_true, beq_iff_eq, decide_eq_true_eq]
  show t.place.size = es.size ∧ t.place.size + 0 ≤ t.mask
  omega
theorem CellT.at (R : CellT P w s.heap a ps es ep t) {i : Nat} {p : List Key × Addr} (h : ps[i]? = some p) : es[i]? = some (tpH P w p.1, Value.ref p.2) := by
  rw [← Array.getElem?_toList, R.en, List.getElem?_map, h]; rfl
/-- a set of tuples: which ones, up to their order -/
def SetT (P : Program) (w : World) (h : Heap) (a : Addr) (L : List (List Key × Addr)) : Prop := ∃ ps es ep t, ps.Perm L ∧ (L.map (·.1)).Nodup ∧ CellT P w h a ps es ep t
theorem SetT.same {h h' : Heap} {L : List (List Key × Addr)} (R : SetT P w h a L) (hk : ∀ o, h.get? a = some o → h'.get? a = some o) : SetT P w h' a L := by
  obtain ⟨ps, es, ep, t, pm, nd, R⟩ := R
  obtain ⟨o, ho, r⟩ := R.ob
  exact ⟨ps, es, ep, t, pm, nd, ⟨⟨o, hk o ho, r⟩, R.en, R.tab, R.led, R.room, R.few⟩⟩
theorem SetT.there {h : Heap} {L : List (List Key × Addr)} (R : SetT P w h a L) : ∃ o, h.get? a = some o := by
  obtain ⟨ps, es, ep, t, pm, nd, R⟩ := R
  obtain ⟨o, ho, r⟩ := R.ob
  exact ⟨o, ho⟩
end
/-! ### set(list) -/
section
variable {prog : Program} {w : World} {A : Around} {R : Result → Shared → Prop} {I : Addr} {fp wr : List Addr} {G : Array GenState → Array GenState → Prop} {n : Nat} {Pv : Nat → Value → Prop} {St : Nat → Shared → Prop}
end
section
variable {prog : Program} {w : World} {A : Around} {E : Value → Shared → Prop} {s : Shared}
end
end CL
/-! CL117: sorted(set(list of pairs of texts)), the firsts unlike -/
namespace CL
open PySem PySem.Spec PyProof.Rows L2
variable [LamT]
section
variable {P : Program} {w : World} {A : Around} {E : Value → Shared → Prop} {s : Shared} {a : Addr}
end
section
variable {X : Cx}
end
/-! ### as a clean reading -/
section
variable {K : Fg} {Z : List Addr} {S : Sto} {H : Hp}
end
section
variable {X : Cx} {x : Str} {p p2 q pos : Pos} {e : Expr} {te : CE}
end
end CL
set_option maxHeartbeats 1000000
/-! CL118: dict == dict, its values data -/
namespace CL
open PySem PySem.Spec PyProof.Rows L2
variable [LamT]
section
variable {K : Fg} {Z : List Addr} {S : Sto} {H : Hp}
end
section
variable {X : Cx} {pins : List (Addr × Obj)} {σ : L2.St} {H : Hp} {s : Shared} {Z : List Addr} {S : Sto}
end
end CL
/-! CL119: instances of an own class with __eq__: ==, != with any value; isinstance of any value -/
namespace CL
open PySem PySem.Spec PyProof.Rows L2
section
variable {prog : Program} {w : World} {x : Addr}
end
/-- what comparisons ask of a class -/
structure CmpC (K : Fg) (C : Addr) : Prop where
  nI : PySem.W.mroIn K C (.type "int") = some false
  nS : PySem.W.mroIn K C (.type "str") = some false
  nT : PySem.W.mroIn K C (.type "tuple") = some false
  nL : PySem.W.mroIn K C (.type "list") = some false
  nD : PySem.W.mroIn K C (.type "dict") = some false
  nB : PySem.W.mroIn K C (.type "bool") = some false
  nN : PySem.W.mroIn K C (.type "NoneType") = some false
section
variable {prog : Program} {w : World} {K : Fg} {A : Around} {E : Value → Shared → Prop} {s : Shared} {x C : Addr} {ox : Obj} {od : Option Obj}
/-- the values that an instance is compared with -/
inductive CmpV (s : Shared) : Value → String → Prop
  | non : CmpV s .none "NoneType"
  | bl (b : Bool) : CmpV s (.bool b) "bool"
  | int (i : Int) (t : Tok) : CmpV s (.int i t) "int"
  | str (b : Str) (t : Tok) : CmpV s (.str b t) "str"
  | tup {l : Addr} {items : Array Value} {n : Nat} {dd : Option Addr} {sl : Array (Option Value)} : s.heap.get? l = some { cls := .type "tuple", dict := dd, data := .seq items n, slots := sl } → CmpV s (.ref l) "tuple"
  | lst {l : Addr} {items : Array Value} {n : Nat} {dd : Option Addr} {sl : Array (Option Value)} : s.heap.get? l = some { cls := .type "list", dict := dd, data := .seq items n, slots := sl } → CmpV s (.ref l) "list"
  | dct {l : Addr} {es : Array DictEntry} {ep : Nat} {dd : Option Addr} {sl : Array (Option Value)} : s.heap.get? l = some { cls := .type "dict", dict := dd, data := .dict es ep, slots := sl } → CmpV s (.ref l) "dict"
theorem CmpV.mem {v : Value} {T : String} (h : CmpV s v T) : T ∈ ["NoneType", "bool", "int", "str", "tuple", "list", "dict"] := by cases h <;> decide
theorem CmpV.ty {v : Value} {T : String} (h : CmpV s v T) : s.TypeIs v T := by
  cases h with
  | non => exact rfl
  | bl b => exact rfl
  | int i t => exact rfl
  | str b t => exact rfl
  | tup h => exact ⟨_, h, rfl⟩
  | lst h => exact ⟨_, h, rfl⟩
  | dct h => exact ⟨_, h, rfl⟩
end
end CL
/-! CL120: instances compared with any value, as clean readings; isinstance(any value, own class) -/
namespace CL
open PySem PySem.Spec PyProof.Rows L2
variable [LamT]
/-- what comparing asks of a class, and isinstance -/
structure CmpI (K : Fg) (q : Str) : Prop where
  ex : ∃ C, ClsI K q C ∧ CmpC K C ∧ PySem.W.findIn K (.ref C) "__ne__" = some (some (.builtin "object.__ne__")) ∧ PySem.W.mroIn K C (.type "object") = some true ∧
    PySem.W.isClsIn K C = true ∧ PySem.W.typeIn K (.ref C) = some (.type "type") ∧ PySem.W.findIn K (.ref C) "__class__" = some (some (.builtin "object.__class__")) ∧
    PySem.W.specialIn K (.builtin "object.__class__") "__get__" = some (some (.builtin "getset_descriptor.__get__")) ∧ PySem.W.takesIn K (.builtin "object.__class__") = some true
section
variable {X : Cx} {pins : List (Addr × Obj)} {σ : L2.St} {H : Hp} {s : Shared} {Z : List Addr} {S : Sto}
theorem CmpC.no {K : Fg} {C : Addr} (c : CmpC K C) {s : Shared} {v : Value} {T : String} (h : CmpV s v T) : PySem.W.mroIn K C (.type T) = some false := by
  cases h with
  | non => exact c.nN
  | bl b => exact c.nB
  | int i t => exact c.nI
  | str b t => exact c.nS
  | tup h => exact c.nT
  | lst h => exact c.nL
  | dct h => exact c.nD
end
section
variable {X : Cx} {k : Nat} {f : Addr} {fd : FuncData} {ps : List Str} {sp : CSp} {q qual : Str} {st : Stmt}
/-! ### isinstance(v, C) -/
end
/-! ### computed -/
end CL
/-! CL121: own instances handed back: alone (a copy), or at the head of a tuple; copies of own and of clean ones -/
namespace CL
open PySem PySem.Spec PyProof.Rows L2
variable [LamT]
theorem View.del {B S : Sto} {gs : MEnv} {ws : CL.Env} (V : View B S gs ws) {i : Nat} {v : Cv} {p : Addr} (e : gs[i]? = some (.ow v)) (hw : ws[i]? = some (some (.ref p))) : View B (S.del p) (gs.set i .no) ws := by
  have hi : i < gs.length := (List.getElem?_eq_some_iff.mp e).1
  obtain ⟨p0, o0, g1, g2, g3, g4⟩ := V.ow _ _ e
  rw [hw] at g1
  cases g1
  refine ⟨by simp [V.len], fun j u eu => ?_, fun j u eu => ?_, fun j k u u' x n eu eu' a b => ?_, fun a o ea => ?_⟩
  · by_cases z : i = j
    · subst z; rw [List.getElem?_set_self hi] at eu; cases eu
    · rw [List.getElem?_set_ne z] at eu; exact V.pl _ _ eu
  · by_cases z : i = j
    · subst z; rw [List.getElem?_set_self hi] at eu; cases eu
    · rw [List.getElem?_set_ne z] at eu
      obtain ⟨a, o, f1, f2, f3, f4⟩ := V.ow _ _ eu
      have na : a ≠ p := fun y => by subst y; exact V.dj _ _ _ _ _ z e eu hw f1
      exact ⟨a, o, f1, by rw [Sto.del_ne na]; exact f2, f3, f4⟩
  · by_cases z : i = j
    · subst z; rw [List.getElem?_set_self hi] at eu; cases eu
    · by_cases z2 : i = k
      · subst z2; rw [List.getElem?_set_self hi] at eu'; cases eu'
      · rw [List.getElem?_set_ne z] at eu; rw [List.getElem?_set_ne z2] at eu'
        exact V.dj _ _ _ _ _ n eu eu' a b
  · have na : a ≠ p := fun y => by subst y; rw [g4] at ea; cases ea
    rw [Sto.del_ne na]; exact V.base a o ea
/-! ### a method that hands back a new object, self as it was -/
/-! ### the same of an instance that is only read; a new object as a clean value -/
section
variable {X : Cx} {k : Nat} {f : Addr} {fd : FuncData} {ps : List Str} {sp : CSp} {q m qual : Str} {st : Stmt} {o e : Expr} {i : Nat} {pos apos : Pos} {pl : Sem Bool}
end
/-! ### return (o, x, y), o an own object -/
abbrev XO := MEnv → Option (Cv × Cv × Cv × MEnv)
structure EvXO (t : CS) (φ : XO) : Prop where
  mono : MonS t
  ok : ∀ {P B S gs ws D b v w gs'}, (∀ k, P k ≠ none → p0 k = true) → XV P B S gs ws → φ gs = some (b, v, w, gs') → (∀ S' ws', XV P B S' gs' ws' → ∀ q oq, S' q = none → obv oq = some b → D.rt (.tup [.ref q, v, w]) (S'.set q oq)) → t D ws S
end CL
/-! CL122: a plain tuple in a tuple of one, as a tuple -/
namespace CL
open PySem PySem.Spec PyProof.Rows L2
variable [LamT]
end CL
/-! CL123: sorted, of a dict whose keys are tuples of ints and texts -/
namespace CL
open PySem PySem.Spec PyProof.Rows L2
variable [LamT]
/-! ### insertion sort by it -/
/-! ### the order, as the model asks for it -/
section
variable {prog : Program} {w : World} {A : Around} {E : Value → Shared → Prop} {s : Shared} {shape : Nat → Bool}
/-- a tuple with these items -/
def TupIs (h : Heap) (shape : Nat → Bool) (v : Value) (l : List (Int ⊕ List Nat)) : Prop :=
  ∃ (a : Addr) (o : Obj) (its : Array Value) (n : Nat), v = .ref a ∧ h.get? a = some o ∧ o.cls = .type "tuple" ∧ o.data = .seq its n ∧ tupItems shape 0 its.toList = some l ∧ l ≠ []
theorem TupIs.keeps {h h' : Heap} {v : Value} {l : List (Int ⊕ List Nat)} (x : TupIs h shape v l) (k : ∀ b o, h.get? b = some o → o.cls = .type "tuple" → h'.get? b = some o) : TupIs h' shape v l := by
  obtain ⟨a, o, its, n, e, ho, hc, r⟩ := x
  exact ⟨a, o, its, n, e, k _ _ ho hc, hc, r⟩
theorem TupIs.key {h : Heap} {v : Value} {l : List (Int ⊕ List Nat)} (x : TupIs h shape v l) : tupKey h shape v = some l := by
  obtain ⟨a, o, its, n, rfl, ho, hc, hd, hi, _⟩ := x
  simp only [tupKey, ho, hd]
  exact hi
theorem TupIs.first {h : Heap} {v : Value} {l : List (Int ⊕ List Nat)} (x : TupIs h shape v l) : ∃ f, TupOf h shape v f := by
  obtain ⟨a, o, its, n, e, ho, hc, hd, hi, hne⟩ := x
  cases hl : its.toList with
  | nil =>
    rw [hl] at hi
    exact absurd (Option.some.inj hi).symm hne
  | cons f r =>
    rw [hl] at hi
    refine ⟨f, a, o, its, n, e, ho, hc, hd, by rw [← Array.getElem?_toList, hl]; rfl, fun hs => ?_, fun hs => ?_⟩
    · obtain ⟨k, t, _, e, _⟩ := tupItems_int hs hi
      exact ⟨k, t, e⟩
    · obtain ⟨k, t, _, e, _⟩ := tupItems_str hs hi
      exact ⟨k, t, e⟩
end
section
variable {X : Cx}
end
/-! ### clean -/
section
variable {K : Fg} {Z : List Addr} {S : Sto} {H H' : Hp}
end
section
variable {X : Cx} {p pos : Pos} {e : Expr} {te : CE}
end
end CL
/-! CL124: defs of four parameters that change the third and the fourth -/
namespace CL
open PySem PySem.Spec PyProof.Rows L2
variable [LamT]
theorem View.take {B S : Sto} {gs : MEnv} {ws : CL.Env} {i : Nat} {p : Addr} {o : Ob} {st : Cv} (V : View B S gs ws) (hw : ws[i]? = some (some (.ref p))) (hS : B p = some o) (ho : obv o = some st) : View (B.del p) S (gs.set i (.ow st)) ws := by
  have h0 : i < gs.length := by
    have := (List.getElem?_eq_some_iff.mp hw).1
    rwa [V.len] at this
  have hB : ∀ {j : Nat} {v : Cv} {q : Addr}, gs[j]? = some (.ow v) → ws[j]? = some (some (.ref q)) → q ≠ p := by
    intro j v q e e2 z
    subst z
    obtain ⟨p', o', f1, _, _, f4⟩ := V.ow _ _ e
    rw [e2] at f1; cases f1; rw [hS] at f4; cases f4
  refine ⟨by simp [V.len], fun k v e => ?_, fun k v e => ?_, fun k j u v q n e1 e2 a b => ?_, fun a x e => ?_⟩
  · by_cases z : i = k
    · subst z; rw [List.getElem?_set_self h0] at e; cases e
    · rw [List.getElem?_set_ne z] at e; exact V.pl _ _ e
  · by_cases z : i = k
    · subst z; rw [List.getElem?_set_self h0] at e; cases e
      exact ⟨p, o, hw, V.base _ _ hS, ho, Sto.del_same⟩
    · rw [List.getElem?_set_ne z] at e
      obtain ⟨p', o', f1, f2, f3, f4⟩ := V.ow _ _ e
      exact ⟨p', o', f1, f2, f3, by rw [Sto.del_ne (hB e f1)]; exact f4⟩
  · by_cases z : i = k
    · subst z
      rw [hw] at a; cases a
      rw [List.getElem?_set_ne n] at e2
      exact hB e2 b rfl
    · by_cases z' : i = j
      · subst z'
        rw [hw] at b; cases b
        rw [List.getElem?_set_ne z] at e1
        exact hB e1 a rfl
      · rw [List.getElem?_set_ne z] at e1; rw [List.getElem?_set_ne z'] at e2
        exact V.dj k j _ _ _ n e1 e2 a b
  · by_cases z : a = p
    · subst z; rw [Sto.del_same] at e; cases e
    · rw [Sto.del_ne z] at e; exact V.base _ _ e
section
variable {W : WX'} {ta tb td : CE} {a b d : XE}
end
end CL
/-! CL125: a set of keys that grows: set.add; what is represented stays so -/
namespace CL
open PySem PySem.Spec PyProof.Rows L2
variable [LamT]
section
variable {P : Program} {w : World} {A : Around} {E : Value → Shared → Prop} {s : Shared} {a : Addr} {ks : List Key}
end
theorem key_scan {k : Key} {v : Value} (r : RelV (kV k) v) : v.scannable = true := by
  cases k with
  | inl n => obtain ⟨t, rfl⟩ : ∃ t, v = .int n t := r; rfl
  | inr x => obtain ⟨t, rfl⟩ : ∃ t, v = .str x t := r; rfl
section
variable {X : Cx}
end
/-! ### what is represented stays, whatever the set holds -/
section
variable {K : Fg} {Z : List Addr} {S : Sto} {H : Hp} {D : Addr} {O O' : HO}
/-- no code object, and nothing that holds values -/
structure Apt (H : Hp) (D : Addr) (O : HO) : Prop where
  at_ : H D = some O
  tup : ∀ vs, O ≠ .tup vs
  lst : ∀ vs, O ≠ .lst vs
  dK : ∀ vs, O ≠ .dK vs
  dT : ∀ vs, O ≠ .dT vs
  ins : ∀ C dx vs, O ≠ .ins C dx vs
  xd : ∀ vs, O ≠ .xd vs
  frz : ∀ o u, O ≠ .frz o u
  tbl : ∀ ps, O ≠ .tbl ps
  code : ∀ q, O ≠ LamX.CodeO D q
theorem Apt.ne {a : Addr} {o : HO} (h : Apt H D O) (e : H a = some o) (n : O ≠ o) : a ≠ D := fun z => by
  rw [z, h.at_] at e
  exact n (Option.some.inj e)
mutual
theorem Rep.swap (h : Apt H D O) : ∀ {w : Cv} {v : V}, Rep K Z S H w v → Rep K Z S (upd H D O') w v
  | _, _, .non => .non
  | _, _, .bl b => .bl b
  | _, _, .int i => .int i
  | _, _, .str x => .str x
  | _, _, .tup e n r => .tup (by
      rcases e with e | ⟨w, o, e⟩
      · exact .inl (by rw [upd_ne (h.ne e (h.tup _))]; exact e)
      · exact .inr ⟨w, o, by rw [upd_ne (h.ne e (h.frz _ _))]; exact e⟩) n (Reps.swap h r)
  | _, _, .tupK e r => .tupK e (Reps.swap h r)
  | _, _, .lst e n z r => .lst (by rw [upd_ne (h.ne e (h.lst _))]; exact e) n z (Reps.swap h r)
  | _, _, .scr e n r => .scr (by rw [upd_ne (h.ne e (h.frz _ _))]; exact e) n (Reps.swap h r)
  | _, _, .tupF e n r d => .tupF (by rw [upd_ne (h.ne e (h.frz _ _))]; exact e) n (Reps.swap h r) d
  | _, _, .scrK e r => .scrK e (Reps.swap h r)
  | _, _, .dK e n z k r => .dK (by rw [upd_ne (h.ne e (h.dK _))]; exact e) n z k (Reps.swap h r)
  | _, _, .dT e n z k r => .dT (by rw [upd_ne (h.ne e (h.dT _))]; exact e) n z k (Reps.swap h r)
  | _, _, .ins e n z c k r => .ins (by rw [upd_ne (h.ne e (h.ins _ _ _))]; exact e) n z c k (Reps.swap h r)
  | _, _, .ref a => .ref a
  | _, _, .exc e n t o hd nd z k r => .exc (by rw [upd_ne (h.ne e (h.frz _ _))]; exact e) n t o (by rw [upd_ne (h.ne hd (h.xd _))]; exact hd) nd z k (Reps.swap h r)
  | _, _, .excN e n t o => .excN (by rw [upd_ne (h.ne e (h.frz _ _))]; exact e) n t o
  | _, _, .lam (c := c) (q := q) e n r => .lam (by
      by_cases z : c = D
      · subst z
        rw [h.at_] at e
        exact absurd (Option.some.inj e) (h.code q)
      · rw [upd_ne z]; exact e) n (Reps.swap h r)
  | _, _, .cls e => .cls e
  | _, _, .opq v => .opq v
theorem Reps.swap (h : Apt H D O) : ∀ {ws : List Cv} {vs : List V}, Reps K Z S H ws vs → Reps K Z S (upd H D O') ws vs
  | _, _, .nil => .nil
  | _, _, .cons a r => .cons (Rep.swap h a) (Reps.swap h r)
end
theorem RepOb.swap {a : Addr} {o : Ob} (h : Apt H D O) (na : a ≠ D) (r : RepOb K Z S H a o) : RepOb K Z S (upd H D O') a o := by
  cases o with
  | lst ws => obtain ⟨vs, h1, h2⟩ := r; exact ⟨vs, by rw [upd_ne na]; exact h1, h2.swap h⟩
  | dK ws => obtain ⟨vs, h1, h3, h2⟩ := r; exact ⟨vs, by rw [upd_ne na]; exact h1, h3, h2.swap h⟩
  | dT ws => obtain ⟨vs, h1, h3, h2⟩ := r; exact ⟨vs, by rw [upd_ne na]; exact h1, h3, h2.swap h⟩
  | ins q fs => obtain ⟨vs, ⟨C, dx, h1, hq⟩, h3, h2⟩ := r; exact ⟨vs, ⟨C, dx, by rw [upd_ne na]; exact h1, hq⟩, h3, h2.swap h⟩
  | dL C dx fs => obtain ⟨vs, h1, h3, h2⟩ := r; exact ⟨vs, by rw [upd_ne na]; exact h1, h3, h2.swap h⟩
theorem StOk.swap (h : Apt H D O) (hS : S D = none) (hZ : D ∉ Z) (ok : StOk K Z S H) : StOk K Z S (upd H D O') where
  ob := fun a o e => (ok.ob a o e).swap h (fun q => by subst q; rw [hS] at e; cases e)
  hid := fun a z => by
    have : a ≠ D := fun q => hZ (by rw [← q]; exact z)
    rw [upd_ne this]; exact ok.hid a z
  tab := fun p m => by
    obtain ⟨ps, h1, h2, h3⟩ := ok.tab p m
    have n1 : p.1 ≠ D := h.ne h1 (h.tbl _)
    refine ⟨ps, by rw [upd_ne n1]; exact h1, h2, fun pos cv e => ?_⟩
    obtain ⟨c, e1, e2⟩ := h3 pos cv e
    have n2 : c ≠ D := fun z => by
      subst z
      rw [h.at_] at e2
      exact h.code p.2 (Option.some.inj e2)
    exact ⟨c, e1, by rw [upd_ne n2]; exact e2⟩
end
end CL
/-! CL126: {e for .. in ..}, keys; sorted of it -/
namespace CL
open PySem PySem.Spec PyProof.Rows L2
variable [LamT]
section
variable {X : Cx}
end
end CL
/-! CL127: sorted({e for .. in ..}), texts, computed -/
namespace CL
open PySem PySem.Spec PyProof.Rows L2
variable [LamT]
section
variable {X : Cx} {elt tg iter : Expr} {ifs : List Expr} {scope : Scope} {own : List (Str × Nat)} {pos p pos2 : Pos} {ti : CI} {g : CG} {is : List Nat} {tt : CT} {te : CE}
end
/-! ### computed -/
section
variable {ti : CI} {mi : MA} {g : CG} {mg : MG} {tt : CT} {mt : MT} {te : CE} {me : ME} {vs : List Nat}
end
end CL
/-! CL128: [.. for k, v in f(..).items()]: the new dict is locked while it is walked, then forgotten -/
namespace CL
open PySem PySem.Spec PyProof.Rows L2
variable [LamT]
section
variable {X : Cx} {e : Expr}
end
section
variable {te t2 : CE} {φ m2 : ME} {g : CG} {mg : MG} {tt : CT} {mt : MT} {vs : List Nat}
end
end CL
/-! CL129: list(d.values()), keys that are ints or texts -/
namespace CL
open PySem PySem.Spec PyProof.Rows L2
variable [LamT]
theorem IsValuesView.at' {h h' : Heap} {p a : Addr} (R : h.IsValuesView p a) (k : ∀ o, h.get? p = some o → h'.get? p = some o) : h'.IsValuesView p a := by
  obtain ⟨o, ho, r⟩ := R
  exact ⟨o, k _ ho, r⟩
section
variable {X : Cx}
end
section
variable {X : Cx} {p q pos apos : Pos} {e : Expr} {te : CE}
end
end CL
/-! CL130: a new own list by a comprehension over an own list -/
namespace CL
open PySem PySem.Spec PyProof.Rows L2
variable [LamT]
end CL
/-! CL131: x = [.. for k, v in f(..).items()]: behind the statement the walked dict is forgotten -/
namespace CL
open PySem PySem.Spec PyProof.Rows L2
variable [LamT]
end CL
/-! CL132: own dicts made by comprehensions; walked by keys; updated by new ones -/
namespace CL
open PySem PySem.Spec PyProof.Rows L2
variable [LamT]
section
variable {X : Cx} {pos : Pos} {kx vx tg iter : Expr} {ifs : List Expr} {scope : Scope} {own : List (Str × Nat)} {ti : CI} {g : CG} {is : List Nat} {tt : CT} {tk tv : CE}
end
section
variable {ti : CI} {g : CG} {tt : CT} {tk tv : CE} {mi : MA} {mg : MG} {mt : MT} {ma mb : ME} {vs : List Nat}
end
/-! ### d.update(d2) -/
section
variable {X : Cx}
end
end CL
/-! CL133: {(..): v for .. for ..}: dict comprehensions of two clauses, the keys tuples (turned from the hand layer's proof for lists) -/
namespace CL
open PySem PySem.Spec PyProof.Rows L2
variable [LamT]
section
variable {prog : Program} {w : World} {A : Around} {R : Result → Shared → Prop} {s : Shared} {kx vx t0 i0 t1 i1 : Expr} {ifs0 ifs1 : List Expr} {scope : Scope} {pos : Pos} {it : Value} {D : Addr} {env : PySem.Env}
end
section
variable {X : Cx}
end
end CL
/-! CL134: dict comprehensions of two clauses, the keys tuples: clean, computed -/
namespace CL
open PySem PySem.Spec PyProof.Rows L2
variable [LamT]
section
variable {X : Cx} {pos : Pos} {kx vx tg iter tg1 iter1 : Expr} {ifs ifs1 : List Expr} {scope : Scope} {own : List (Str × Nat)} {vs1 : List Nat} {ti ti1 : CI} {g g1 : CG} {is is1 : List Nat} {tt tt1 : CT} {tk tv : CE}
end
/-! ### computed -/
section
variable {ti ti1 : CI} {g g1 : CG} {tt tt1 : CT} {tk tv : CE} {mi mi1 : MA} {mg mg1 : MG} {mt mt1 : MT} {ma mb : ME} {vs vs1 : List Nat}
end
end CL
set_option maxHeartbeats 3200000
/-! CL135: len(set(a tuple of tuples of ints and texts)) -/
namespace CL
open PySem PySem.Spec PyProof.Rows L2
variable [LamT]
section
variable {prog : Program} {w : World} {A : Around} {E : Value → Shared → Prop} {s : Shared}
end
section
variable {X : Cx}
end
/-! ### as a clean reading -/
section
variable {K : Fg} {Z : List Addr} {S : Sto} {H : Hp}
end
section
variable {X : Cx} {p p2 q pos : Pos} {e : Expr} {te : CE}
end
end CL
set_option maxHeartbeats 1000000
/-! CL136: list(g(a=.., b=..)), g a generator def -/
namespace CL
open PySem PySem.Spec PyProof.Rows L2
variable [LamT]
section
variable {X : Cx} {k n : Nat} {f : Addr} {fd : FuncData} {ps ks : List Str} {ix : List Nat} {x : Str} {p p2 pos pos2 : Pos} {kws : List Keyword} {ta : CA}
end
end CL
set_option maxHeartbeats 2000000
/-! CL137: data of any kind in a list or tuple of such -/
namespace CL
open PySem PySem.Spec PyProof.Rows L2
variable [LamT]
section
variable {X : Cx}
end
end CL
set_option maxHeartbeats 3200000
/-! CL138: sorted(tuple of tuples of ints and texts), sorted(set(list of such)) -/
namespace CL
open PySem PySem.Spec PyProof.Rows L2
variable [LamT]
section
variable {prog : Program} {w : World} {A : Around} {E : Value → Shared → Prop} {s : Shared}
end
section
variable {X : Cx}
/-! sets -/
end
/-! ### as clean readings -/
section
variable {K : Fg} {Z : List Addr} {S : Sto} {H : Hp}
end
section
variable {X : Cx} {p p2 q pos : Pos} {e : Expr} {te : CE}
end
end CL
set_option maxHeartbeats 2000000
/-! CL139: list(d), the keys of d tuples -/
namespace CL
open PySem PySem.Spec PyProof.Rows L2
variable [LamT]
section
variable {X : Cx}
end
section
variable {X : Cx} {p pos : Pos} {e : Expr} {te : CE}
end
end CL
set_option maxHeartbeats 1000000
/-! CL140: dict(a list of pairs) -/
namespace CL
open PySem PySem.Spec PyProof.Rows L2
variable [LamT]
section
variable {X : Cx}
end
/-! ### as a clean reading -/
section
variable {K : Fg} {Z : List Addr} {S : Sto} {H : Hp}
end
end CL
/-! CL141: list(d.items()), keys that are ints or texts -/
namespace CL
open PySem PySem.Spec PyProof.Rows L2
variable [LamT]
section
variable {X : Cx}
end
section
variable {X : Cx} {p q pos apos : Pos} {e : Expr} {te : CE}
end
end CL
/-! CL142: << and & of small ints, clean -/
namespace CL
open PySem PySem.Spec PyProof.Rows L2
variable [LamT]
abbrev fBand := fI fun i j => .int (Builtin.bitAnd i j)
theorem e2_band : E2 cBand fBand := e2_i
theorem q_band {i j : Int} : fBand (.int i) (.int j) = some (.int (Builtin.bitAnd i j)) := rfl
end CL
/-! CL143: list(range(a, b)), great a and b -/
namespace CL
open PySem PySem.Spec PyProof.Rows L2
variable [LamT]
section
variable {X : Cx}
end
end CL
/-! CL144: |, ~, &= of ints; << by great counts -/
namespace CL
open PySem PySem.Spec PyProof.Rows L2
variable [LamT]
section
variable {X : Cx}
theorem ip_and : PIp X .BitAnd (ipI fun i j => Builtin.bitAnd i j) := by
  intro pins s σ H x y v u Q I r1 r2 h
  obtain ⟨i, j, e1, e2, q⟩ := h
  subst e1; subst e2
  obtain ⟨t, rfl⟩ := r1
  obtain ⟨t', rfl⟩ := r2
  exact iand_int ⟨.int _, H, I.tok _, ⟨_, rfl⟩, q⟩
theorem i_and : SIp X .BitAnd (cI2 (fun _ _ => True) fun i j => .int (Builtin.bitAnd i j)) := sip_int ip_and
def cInv : C1 := fun a S Q => match a with | .int i => Q (.int (Builtin.bitNot i)) S | _ => False
theorem mo_inv : Mon1 cInv := fun a S Q Q' f h => by
  unfold cInv at h ⊢
  split at h
  · exact f _ _ h
  · exact h
theorem u_inv : S1 X (unaryOp .Invert) cInv := ⟨mo_inv, fun pins s σ H x u Q I rx q => by
    obtain ⟨Z, S, a, ok, ra, q⟩ := q
    unfold cInv at q
    split at q
    · rename_i i
      cases ra
      exact un_inv pins s σ H _ u Q I rx ⟨i, rfl, q _ H (Fr.refl S H) ok (.int _)⟩
    · exact q.elim⟩
end
def fInv : Cv → Option Cv
  | .int i => some (.int (Builtin.bitNot i))
  | _ => none
theorem e1_inv : E1 cInv fInv := ⟨mo_inv, fun {a S Q v} e q => by
  unfold fInv at e
  split at e
  · cases e; exact q
  · cases e⟩
abbrev cIand : C2 := cI2 (fun _ _ => True) fun i j => .int (Builtin.bitAnd i j)
theorem e2_iand : E2 cIand fBand := e2_i
def shlCw (i j : Int) : Bool := decide (0 ≤ j ∧ j ≤ 100000) && decide (i.natAbs < 2 ^ 60)
abbrev fShlW := fIC shlCw fun i j => .int (i * 2 ^ j.toNat)
theorem e2_shlW : E2 cShl fShlW := e2_ic fun i j h => by
  obtain ⟨a, b⟩ := Bool.and_eq_true_iff.mp h
  have a := of_decide_eq_true a
  have b := of_decide_eq_true b
  exact ⟨a.1, by omega, Nat.lt_trans b (by decide)⟩
end CL
set_option maxHeartbeats 2000000
/-! CL148: a dict whose keys are tuples of truth values: filled in a loop, its keys handed back -/
namespace CL
open PySem PySem.Spec PyProof.Rows L2
variable [LamT]
def bkey (bs : List Bool) : List Leaf := bs.map fun b => .num (if b = true then 1 else 0)
theorem bkey_inj : ∀ {a b : List Bool}, bkey a = bkey b → a = b
  | [], [], _ => rfl
  | [], _ :: _, h => by cases h
  | _ :: _, [], h => by cases h
  | x :: a, y :: b, h => by
    have h' : (Leaf.num (if x = true then 1 else 0) :: bkey a) = (Leaf.num (if y = true then 1 else 0) :: bkey b) := h
    injection h' with h1 h2
    rw [bkey_inj h2]
    congr 1
    injection h1 with h1
    cases x <;> cases y <;> first | rfl | (exfalso; revert h1; decide)
abbrev lk (P : Program) (w : World) := tupleKind (leafKind P w)
abbrev XB := List (List Leaf × Addr × Value)
def DB0 (P : Program) (w : World) (h : Heap) (D : Addr) (xs : XB) : Prop := ∃ o es ep, h.get? D = some o ∧ o.ExactDict ∧ o.data = .dict es ep ∧ es.toList = xs.map (entryOfKey (lk P w)) ∧ (xs.map (·.1)).Nodup
def DBO (P : Program) (w : World) (D : Addr) (xs : XB) : HO := .ext fun h => DB0 P w h D xs
abbrev KBt (H : Hp) : XB → List (List Bool) → Prop := Paired fun x bs => x.1 = bkey bs ∧ H x.2.1 = some (.tup (bs.map V.bl))
section
variable {P : Program} {w : World} {H : Hp} {h : Heap} {D : Addr} {xs : XB} {ks : List (List Bool)}
theorem dbo_new (R : DB0 P w h D xs) : ObjOk P w H h D (DBO P w D xs) := by
  obtain ⟨o, es, ep, ho, r⟩ := id R
  refine ⟨R, ⟨o, ho⟩, fun h1 h2 q k => ?_⟩
  obtain ⟨o1, es1, ep1, e1, r1⟩ := q
  exact ⟨o1, es1, ep1, k _ e1, r1⟩
theorem bitems : ∀ {bs : List Bool} {us : List Value}, Vals (bs.map V.bl) us → ItemsAre (leafKind P w) (bkey bs) us
  | [], _, r => by rw [List.map_nil] at r; cases r; exact .nil
  | b :: bs, _, r => by
    rw [List.map_cons] at r
    cases r with
    | cons q t =>
      rename_i u us
      obtain rfl : u = .bool b := q
      refine .cons ?_ (bitems t)
      show Leaf.isOf (.num (if b = true then 1 else 0)) (.bool b) = true
      exact decide_eq_true rfl
theorem bkey_of {b : Addr} {bs : List Bool} (ok : HOk P w H h) (e : H b = some (.tup (bs.map V.bl))) : (lk P w).is h (bkey bs) b := by
  obtain ⟨_, its, r, o, h1, h2, n, h3⟩ := (show ObjOk P w H h b (.tup (bs.map V.bl)) from ok b _ e)
  exact ⟨o, its.toArray, n, h1, h2, h3, by simpa using bitems r⟩
theorem dbtH (ok : HOk P w H h) (R : DB0 P w h D xs) (kb : KBt H xs ks) : h.DictOfH (lk P w) D xs := by
  obtain ⟨o, es, ep, h1, h2, h3, h4, h5⟩ := R
  refine ⟨o, es, ep, h1, h2, h3, h4, ?_, h5⟩
  clear h4 h5
  induction kb with
  | nil => intro x hx; cases hx
  | cons a r ih =>
    intro x hx
    rcases List.mem_cons.mp hx with e | hx
    · subst e
      rw [a.1]
      exact bkey_of ok a.2
    · exact ih x hx
theorem kbt_len (kb : KBt H xs ks) : xs.length = ks.length := Paired.length kb
theorem kbt_at {bs : List Bool} (kb : KBt H xs ks) : (atKey xs (bkey bs)).isSome = decide (bs ∈ ks) := by
  induction kb with
  | nil => rfl
  | @cons x c l m a r ih =>
    unfold atKey at ih ⊢
    rw [List.find?_cons]
    by_cases e : c = bs
    · subst e
      rw [decide_eq_true a.1]
      simp
    · have : decide (x.1 = bkey bs) = false := decide_eq_false fun q => e (bkey_inj (a.1.symm.trans q))
      rw [this]
      rw [ih]
      have e' : ¬ bs = c := fun q => e q.symm
      simp [e']
theorem kbt_map {f : List Leaf × Addr × Value → List Leaf × Addr × Value} (hf : ∀ x, (f x).1 = x.1 ∧ (f x).2.1 = x.2.1) (kb : KBt H xs ks) : KBt H (xs.map f) ks := by
  induction kb with
  | nil => exact .nil
  | cons a r ih =>
    refine .cons ⟨?_, ?_⟩ ih
    · rw [(hf _).1]; exact a.1
    · rw [(hf _).2]; exact a.2
theorem kbt_put {bs : List Bool} {b : Addr} {v : Value} (kb : KBt H xs ks) (eb : H b = some (.tup (bs.map V.bl))) : KBt H (storedH xs (bkey bs) b v) (addU ks bs) := by
  have ha := kbt_at (bs := bs) kb
  unfold storedH addU
  by_cases hm : bs ∈ ks
  · rw [decide_eq_true hm] at ha
    rw [if_pos ha, if_pos hm]
    refine kbt_map (fun x => ?_) kb
    unfold putAt
    split <;> exact ⟨rfl, rfl⟩
  · rw [decide_eq_false hm] at ha
    rw [if_neg (by rw [ha]; decide), if_neg hm]
    exact Paired.snoc kb ⟨rfl, eb⟩
theorem kbt_frame {H' : Hp} (k : ∀ b bs, H b = some (.tup bs) → H' b = some (.tup bs)) (kb : KBt H xs ks) : KBt H' xs ks := by
  induction kb with
  | nil => exact .nil
  | cons a r ih => exact .cons ⟨a.1, k _ _ a.2⟩ ih
theorem db_code {q : Str} (R : DB0 P w h D xs) : DBO P w D xs ≠ LamX.CodeO D q := fun e => by
  have e1 : (fun h => DB0 P w h D xs) = fun h => ∃ (oc : Obj) (vs : Array Value) (t : Tok), h.get? D = some oc ∧ oc.data = .fields vs ∧ vs[1]? = some (.str q t) := by
    unfold DBO LamX.CodeO at e
    exact HO.ext.inj e
  have r : ∃ (oc : Obj) (vs : Array Value) (t : Tok), h.get? D = some oc ∧ oc.data = .fields vs ∧ vs[1]? = some (.str q t) := by
    have := congrFun e1 h
    exact this ▸ R
  obtain ⟨oc, vs, t, h1, h2, _⟩ := r
  obtain ⟨o, es, ep, ho, _, hd, _⟩ := R
  rw [h1] at ho
  cases ho
  rw [h2] at hd
  cases hd
theorem apt_db {P : Program} {w : World} (hD : H D = some (DBO P w D xs)) (R : ∃ h, DB0 P w h D xs) : Apt H D (DBO P w D xs) := by
  obtain ⟨h, R⟩ := R
  exact ⟨hD, (by intro _ z; unfold DBO at z; cases z), (by intro _ z; unfold DBO at z; cases z), (by intro _ z; unfold DBO at z; cases z), (by intro _ z; unfold DBO at z; cases z), (by intro _ _ _ z; unfold DBO at z; cases z),
    (by intro _ z; unfold DBO at z; cases z), (by intro _ _ z; unfold DBO at z; cases z), (by intro _ z; unfold DBO at z; cases z), fun q => db_code R⟩
end
section
variable {X : Cx}
/-! ### by hand: {}, d[k] = v, list(d) -/
def tDNewB (P : Program) (w : World) : TE := fun _ H Q => ∀ p, H p = none → (p == sysModules) = false → (∃ h, DB0 P w h p []) → Q (.ref p) (upd H p (DBO P w p []))
theorem pe_dnewB {pos : Pos} : PE X (.Dict [] [] pos) (tDNewB X.prog X.w) := ⟨fun pins s σ H Q I h => by
  have R : DB0 X.prog X.w (s.heap.push { cls := .type "dict", data := .dict #[] }) s.heap.objs.size [] := ⟨_, #[], 0, Heap.get?_push_size _ rfl, ⟨rfl, rfl, rfl⟩, rfl, rfl, List.nodup_nil⟩
  exact wpAny_Dict_empty ⟨.ref s.heap.objs.size, _, I.laid (a := s.heap.objs.size) (o := DBO X.prog X.w s.heap.objs.size []) (t' := s.toks) (fun _ _ q => Heap.get?_push_of_some _ q) (Nat.le_refl _) (dbo_new R), rfl, h _ (I.hok.fresh (Nat.le_refl _)) (beq_eq_false_iff_ne.mpr (Ne.symm (Nat.ne_of_lt I.big))) ⟨_, R⟩⟩⟩
def sPutB (P : Program) (w : World) (td ty tv : TE) : TS := fun D σ H => tv σ H fun v H1 => td σ H1 fun x H2 => ty σ H2 fun y H3 => ∃ a xs ks bs b, x = .ref a ∧ y = .ref b ∧ H3 a = some (DBO P w a xs) ∧ KBt H3 xs ks ∧ H3 b = some (.tup (bs.map V.bl)) ∧ xs.length < sizeLine ∧
  ∀ xs', (∃ h, DB0 P w h a xs) → (∃ h, DB0 P w h a xs') → KBt (upd H3 a (DBO P w a xs')) xs' (addU ks bs) → D.nx σ (upd H3 a (DBO P w a xs'))
theorem ps_dputB {o i value : Expr} {pos pos' : Pos} {td ty tv : TE} (hu : X.A.units + 1 < cLine) (ho : PE X o td) (hi : PE X i ty) (hv : PE X value tv) (hs : swapsWith value (some (.Subscript o i pos')) pos.line X.env = pure false) :
    PS X (.Assign [.Subscript o i pos'] value pos) (sPutB X.prog X.w td ty tv) := by
  refine ⟨fun pins s σ H D I h => ?_⟩
  refine wpAny_Assign_Subscript (thn (hv.run pins s σ H _ I h) fun r s1 ⟨v, H1, I1, rv, q1⟩ => thn (ho.run pins s1 σ H1 _ I1 q1) fun u s2 ⟨x, H2, I2, rx, q2⟩ => thn (hi.run pins s2 σ H2 _ I2 q2) fun iv s3 ⟨y, H3, I3, ry, a, xs, ks, bs, b, ex, ey, ha, kb, eb, hl, q3⟩ => ?_) hs
  subst ex ey
  obtain rfl : u = Value.ref a := rx
  obtain rfl : iv = Value.ref b := ry
  have R : DB0 X.prog X.w s3.heap a xs := (I3.hok a _ ha).1
  refine wpAny_setItem_heap (hsz := Nat.le_of_lt hl) (tupleKind_room_in1 hu) (bkey_of I3.hok eb) (dbtH I3.hok R kb) fun h' dd hs' => ?_
  obtain ⟨o', es', ep', g1, g2, g3, g4, _, g5⟩ := dd
  have R' : DB0 X.prog X.w h' a (storedH xs (bkey bs) b r) := ⟨o', es', ep', g1, g2, g3, g4, g5⟩
  have kf : ∀ c cs, H3 c = some (.tup cs) → upd H3 a (DBO X.prog X.w a (storedH xs (bkey bs) b r)) c = some (.tup cs) := fun c cs e => by
    rw [upd_ne (fun z => by rw [z, ha] at e; unfold DBO at e; cases e)]; exact e
  exact ⟨σ, _, d_write I3 (by rw [ha]; exact True.intro) hs' ⟨o', g1⟩ (dbo_new R'), q3 _ ⟨_, R⟩ ⟨_, R'⟩ (kbt_frame kf (kbt_put kb eb))⟩
def rLstB (P : Program) (w : World) : List V → Hp → VK → Prop := fun us H Q => ∃ (a : Addr) (xs : XB) (ks : List (List Bool)), us = [.ref a] ∧ (a == sysModules) = false ∧ H a = some (DBO P w a xs) ∧ KBt H xs ks ∧ ks.length < 10000000 ∧
  ∀ p, H p = none → Q (.ref p) (upd H p (.lst (xs.map fun x => V.ref x.2.1)))
theorem cr_lstB (hc : X.calm = true) : CallR X (.type "list") (rLstB X.prog X.w) := by
  intro pins s σ H us vs Q I r h
  obtain ⟨a, xs, ks, rfl, hs0, ha, kb, hz, q⟩ := h
  rw [Vals.ref1 r]
  obtain ⟨o, es, ep, ho, hx, hdat, he, hnd⟩ := (I.hok a _ ha).1
  have hl0 : es.size = xs.length := by rw [← Array.length_toList, he, List.length_map]
  have hzl : xs.length ≤ sizeLine := by rw [kbt_len kb, sizeLine_eq]; omega
  refine PySem.W.kdl_call (A := X.A) (KdlSrc.rawDict (es := es) (ep := ep) hs0) (I.ok.hd hc) ⟨o, ho, hx, hdat⟩ (by omega) fun h' tk acc c hkp hS hacc => ?_
  have hal : acc.toList.length = xs.length := by rw [Array.length_toList, hacc.1, hl0]
  have hL : acc.toList = xs.map fun x => Value.ref x.2.1 := by
    refine List.ext_getElem (by rw [List.length_map]; exact hal) fun j h1 h2 => ?_
    obtain ⟨hi, e⟩ := hacc.2 j _ (by rw [← Array.getElem?_toList]; exact List.getElem?_eq_getElem h1)
    rw [List.length_map] at h2
    have en : es[j] = entryOfKey (lk X.prog X.w) xs[j] := by
      have h3 : es.toList[j]? = some es[j] := by rw [Array.getElem?_toList]; exact Array.getElem?_eq_getElem hi
      rw [he, List.getElem?_map, List.getElem?_eq_getElem h2] at h3
      exact (Option.some.inj h3).symm
    rw [e, en, List.getElem_map]; rfl
  have hn : H s.heap.objs.size = none := I.hok.fresh (Nat.le_refl _)
  have I1 : Inv X pins σ H { s with heap := h', toks := tk } := I.kept (t' := tk) hkp
  have rv : Vals (xs.map fun x => V.ref x.2.1) acc.toList := by
    rw [hL]
    exact vals_maps (fun z : List Leaf × Addr × Value => V.ref z.2.1) (fun z => Value.ref z.2.1) xs fun _ _ => rfl
  exact ⟨.ref s.heap.objs.size, upd H s.heap.objs.size (.lst (xs.map fun x => V.ref x.2.1)),
    I1.take (h' := h') (t' := tk) (fun b ob _ e => e) (I.fpOk (Nat.le_refl _) hn) ⟨by rw [List.length_map]; exact hzl, acc.toList, c, rv, by rw [Array.toArray_toList]; exact hS⟩, rfl, q _ hn⟩
end
end CL
/-! CL149: d = {}; for n in range(e): d[tuple([..])] = True; return list(d) -/
namespace CL
open PySem PySem.Spec PyProof.Rows L2
variable [LamT]
def blC : Cv → Option Bool
  | .bl b => some b
  | _ => none
def blsC : List Cv → Option (List Bool)
  | [] => some []
  | x :: r => (blC x).bind fun b => (blsC r).map fun l => b :: l
def boolsL : Cv → Option (List Bool)
  | .lst xs => blsC xs
  | _ => none
theorem boolsL_lst {y : Cv} {bs : List Bool} (e : boolsL y = some bs) : ∃ xs, y = .lst xs := by
  cases y with
  | lst xs => exact ⟨xs, rfl⟩
  | _ => cases e
theorem blsC_eq : ∀ {xs : List Cv} {bs : List Bool}, blsC xs = some bs → xs = bs.map Cv.bl
  | [], _, e => by cases e; rfl
  | x :: r, bs, e => by
    obtain ⟨b, e1, e⟩ := bind_some e
    obtain ⟨l, e2, e⟩ := map_some' e
    subst e
    rw [List.map_cons, ← blsC_eq e2]
    cases x <;> cases e1
    rfl
theorem reps_bls {K : Fg} {Z : List Addr} {S : Sto} {H : Hp} : ∀ {bs : List Bool} {vs : List V}, Reps K Z S H (bs.map Cv.bl) vs → vs = bs.map V.bl
  | [], _, .nil => rfl
  | b :: bs, _, .cons a r => by
    cases a
    rw [reps_bls r]; rfl
theorem reps_bls' {K : Fg} {Z : List Addr} {S : Sto} {H : Hp} : ∀ {bs : List Bool}, Reps K Z S H (bs.map Cv.bl) (bs.map V.bl)
  | [] => .nil
  | b :: bs => .cons (.bl b) reps_bls'
theorem addU_lenB {ks : List (List Bool)} {bs : List Bool} : (addU ks bs).length ≤ ks.length + 1 := by
  unfold addU
  split
  · omega
  · rw [List.length_append]; simp
def tupB (bs : List Bool) : Cv := .tup (bs.map Cv.bl)
/-- n numbers from k on -/
def patL (te : CE) (i : Nat) (ws : CL.Env) (Q : List (List Bool) → Sto → Prop) : Nat → Nat → List (List Bool) → Sto → Prop
  | 0, _, ks, S => Q ks S
  | n + 1, k, ks, S => te (ws.set i (some (.int ((k : Nat) : Int)))) S fun y S1 => ∃ bs, boolsL y = some bs ∧ patL te i ws Q n (k + 1) (addU ks bs) S1
theorem patL_mono {te : CE} (he : MonE te) {i : Nat} {ws : CL.Env} {Q Q' : List (List Bool) → Sto → Prop} (f : ∀ ks S, Q ks S → Q' ks S) : ∀ {n k ks S}, patL te i ws Q n k ks S → patL te i ws Q' n k ks S
  | 0, _, _, _, h => f _ _ h
  | n + 1, k, ks, S, h => he _ _ _ _ (fun y S1 ⟨bs, e, q⟩ => ⟨bs, e, patL_mono he f q⟩) h
def cPat (j i : Nat) (ta : CA) (te : CE) : CS := fun D ws S => (j < ws.length ∧ i < ws.length) ∧ ∀ a, S a = none → ta (ws.set j (some (.ref a))) S fun us S1 => match us with
  | [.int m] => (-(2 ^ 62) ≤ m ∧ m ≤ 1000000) ∧ patL te i (ws.set j (some (.ref a))) (fun ks S2 => D.rt (.lst (ks.map tupB)) S2) m.toNat 0 [] S1
  | _ => False
theorem mo_pat {j i : Nat} {ta : CA} {te : CE} (ha : MonA ta) (he : MonE te) : MonS (cPat j i ta te) := fun D D' ws S l h => ⟨h.1, fun a hs => ha _ _ _ _ (fun us S1 q => by
  split at q
  · exact ⟨q.1, patL_mono he (fun ks S2 z => l.rt _ _ z) q.2⟩
  · exact q) (h.2 a hs)⟩
section
variable {K : Fg} {Z : List Addr} {S S' : Sto} {H H' : Hp} {D : Addr}
theorem Fr.late {O : HO} (f : Fr S H S' H') (h : H D = none) (nt : isTbl O = false) : Fr S H S' (upd H' D O) := by
  refine ⟨fun a o e n t => ?_, fun a e => ?_⟩
  · have na : a ≠ D := fun z => by rw [z, h] at e; cases e
    rw [upd_ne na]
    exact f.keep a o e n t
  · by_cases z : a = D
    · rw [z]; exact Emp.of h
    · exact f.dom a fun o q => e o (by rw [upd_ne z]; exact q)
theorem RepSt.swap {O O' : HO} {σ : L2.St} {ws : CL.Env} (h : Apt H D O) (r : RepSt K Z S H σ ws) : RepSt K Z S (upd H D O') σ ws :=
  ⟨r.1, fun i w e => let ⟨v, h1, h2⟩ := r.2 i w e; ⟨v, h1, h2.swap h⟩⟩
theorem own_none {O : HO} (ok : StOk K Z S H) (h : Apt H D O) : S D = none := by
  cases e : S D with
  | none => rfl
  | some o =>
    have r := ok.ob D o e
    cases o with
    | lst ws => obtain ⟨vs, h1, _⟩ := r; rw [h.at_] at h1; exact absurd (Option.some.inj h1) (h.lst _)
    | dK ws => obtain ⟨vs, h1, _⟩ := r; rw [h.at_] at h1; exact absurd (Option.some.inj h1) (h.dK _)
    | dT ws => obtain ⟨vs, h1, _⟩ := r; rw [h.at_] at h1; exact absurd (Option.some.inj h1) (h.dT _)
    | ins q fs => obtain ⟨vs, ⟨C, dx, h1, _⟩, _⟩ := r; rw [h.at_] at h1; exact absurd (Option.some.inj h1) (h.ins _ _ _)
    | dL od kv kws => obtain ⟨vs, h1, _⟩ := r; rw [h.at_] at h1; exact absurd (Option.some.inj h1) (h.frz _ _)
end
theorem RepSt.weak {K : Fg} {Z : List Addr} {S : Sto} {H : Hp} {σ : L2.St} {ws : CL.Env} (r : RepSt K Z S H σ ws) (i : Nat) : RepSt K Z S H σ (ws.set i none) := by
  refine ⟨by rw [List.length_set]; exact r.1, fun j w e => ?_⟩
  by_cases z : i = j
  · subst z
    rw [List.getElem?_set_self'] at e
    cases h : ws[i]? <;> rw [h] at e <;> cases e
  · rw [List.getElem?_set_ne z] at e
    exact r.2 j w e
theorem reps_kbt {K : Fg} {Z : List Addr} {S : Sto} {H0 H : Hp} (k : ∀ b bs, H0 b = some (.tup bs) → H b = some (.tup bs) ∧ S b = none) : ∀ {ys : XB} {ks : List (List Bool)}, KBt H0 ys ks → Reps K Z S H (ks.map tupB) (ys.map fun x => V.ref x.2.1)
  | _, _, .nil => .nil
  | _, _, .cons a r => .cons (.tup (.inl (k _ _ a.2).1) (k _ _ a.2).2 reps_bls') (reps_kbt k r)
section
variable {X : Cx}
theorem ss_pat (j i : Nat) {x n : Str} {ea el val : Expr} {ta : CA} {te : CE} {p1 p2 p3 p4 p5 p6 p7 p8 p9 p10 p11 p12 p13 p14 p15 p16 : Pos}
    (hN : X.N.Nodup) (hp : PassesOwn (model X.prog X.w) X.A X.env X.xe) (hc : X.calm = true) (hu : X.A.units + 1 < cLine) (hj : X.N[j]? = some x) (hxj : Loc X.env.scope x) (hvj : Vis X.env.scope x) (hfj : X.fn x = true ∨ X.env.scope.names.lookup x = some .local) (hdx : (x == ("__debug__" : Str)) = false) (hcx : (x == ("__classdict__" : Str)) = false)
    (hi : X.N[i]? = some n) (hxi : Loc X.env.scope n) (hfi : X.fn n = true ∨ X.env.scope.names.lookup n = some .local) (hij : i ≠ j)
    (hgr : Gl X "range") (hmr : X.mg "range" = none) (ha : SA X [ea] ta) (hsa : starEach [ea] X.env = [(false, eval ea X.env)])
    (hgt : Gl X "tuple") (hmt : X.mg "tuple" = none) (he : SE X el te) (hse : starEach [el] X.env = (false, eval el X.env) :: starEach [] X.env)
    (hgl : Gl X "list") (hml : X.mg "list" = none) (hsl : starEach [.Name x p15] X.env = (false, eval (.Name x p15) X.env) :: starEach [] X.env) (hv : SE X val (cC (.bl true)))
    (hsw0 : swapsWith (.Dict [] [] p2) (some (.Name x p1)) p3.line X.env = pure false)
    (hsw : swapsWith val (some (.Subscript (.Name x p7) (.Call (.Name "tuple" p8) [el] [] p9) p10)) p11.line X.env = pure false) (hfs : ∀ y, foldedSetIterable (.Call (.Name "range" p5) [ea] [] p6) X.env y = pure y)
    : SSs X [.Assign [.Name x p1] (.Dict [] [] p2) p3, .For (.Name n p4) (.Call (.Name "range" p5) [ea] [] p6) [.Assign [.Subscript (.Name x p7) (.Call (.Name "tuple" p8) [el] [] p9) p10] val p11] [] p12, .Return (some (.Call (.Name "list" p14) [.Name x p15] [] p16)) p13] (cPat j i ta te) := by
  have pT := pe_callTy (p := p8) (pos := p9) call_tuple_of hgt hmt (by decide +kernel) (pa_cons he.ok pa_nil hse) (by decide) (by decide) hse
  have pX := pe_var (X := X) (pos := p7) hj hvj hdx hcx
  have pX2 := pe_var (X := X) (pos := p15) hj hvj hdx hcx
  have pL := pe_callTy (p := p14) (pos := p16) (cr_lstB (X := X) hc) hgl hml (by decide +kernel) (pa_cons pX2 pa_nil hsl) (by decide) (by decide) hsl
  refine ⟨mo_pat ha.mono he.mono, (pss_cons (ps_set hN hj hxj pe_dnewB hsw0 hfj) (pss_cons (ps_for hp hc (pi_range1 hgr hmr ha.ok hsa) (pg_name hN hi hxi hfi) (pss_one (ps_dputB hu pX pT hv.ok hsw)) hfs) (pss_one (ps_ret pL)))).imp fun D σ H h => ?_⟩
  obtain ⟨Z, S, ws, ok, re, ⟨jl, il⟩, h⟩ := h
  show ∀ p, H p = none → (p == sysModules) = false → (∃ h, DB0 X.prog X.w h p []) → _
  intro d hd hsys hdb
  have hS := ok.free hd
  have h := h d hS
  have ok0 := ok.new (o := DBO X.prog X.w d []) hd
  have f0 := Fr.new (S := S) (o := DBO X.prog X.w d []) hd
  have re0 := (re.fr f0).set (i := j) (.ref d)
  show liftA X.K ta (σ.set j (some (.ref d))) (upd H d (DBO X.prog X.w d [])) _
  refine liftA_of ha.mono ok0 re0 h fun us S1 vs H1 f1 ok1 r1 q1 => ?_
  split at q1
  rotate_left
  · exact q1.elim
  rename_i m
  obtain ⟨⟨m0, m1⟩, q1⟩ := q1
  obtain rfl : vs = [.int m] := by
    cases r1 with
    | cons a b => cases a; cases b; rfl
  refine ⟨m, rfl, m0, by omega, ?_⟩
  generalize hws : ws.set j (some (Cv.ref d)) = ws1 at *
  have wl : ws1.length = ws.length := by rw [← hws, List.length_set]
  have w1j : ∀ u, (ws1.set i u)[j]? = some (some (.ref d)) := fun u => by
    rw [List.getElem?_set_ne hij, ← hws, List.getElem?_set_self jl]
  have slot : ∀ {S' H' σ'} {u}, RepSt X.K Z S' H' σ' (ws1.set i u) → σ'[j]? = some (some (.ref d)) := fun {S' H' σ'} {u} r => by
    obtain ⟨v, e1, e2⟩ := r.2 j (.ref d) (w1j u)
    cases e2
    exact e1
  have tupK : ∀ {S' : Sto} {H' : Hp}, StOk X.K Z S' H' → ∀ b bs, H' b = some (.tup bs) → S' b = none := fun {S' H'} ok' b bs e => by
    cases hs : S' b with
    | none => rfl
    | some o => exact ((ok'.ob b o hs).noTup (.inl e)).elim
  obtain ⟨hd1, _⟩ := f1.keep d _ upd_same hS rfl
  refine ⟨fun k c σ' H' => c = m.toNat - k ∧ k ≤ m.toNat ∧ ∃ S' ks ys, Fr S H S' H' ∧ StOk X.K Z S' H' ∧ RepSt X.K Z S' H' σ' (ws1.set i none) ∧ H' d = some (DBO X.prog X.w d ys) ∧ (∃ h, DB0 X.prog X.w h d ys) ∧ KBt H' ys ks ∧ ks.length ≤ k ∧
    patL te i ws1 (fun ks S2 => (liftD X.K (WofX X) Z S H D).rt (.lst (ks.map tupB)) S2) (m.toNat - k) k ks S',
    ⟨m.toNat, rfl, Nat.zero_le _, S1, [], [], f0.trans f1, ok1, (re0.fr f1).weak i, hd1, hdb, .nil, Nat.le_refl _, q1⟩, ?_⟩
  rintro k c σ2 H2 ⟨rfl, hl, S2, ks, ys, f2, ok2, re2, hd2, hdb2, kb2, hkl, q2⟩
  have ap2 := apt_db hd2 hdb2
  have sd2 := own_none ok2 ap2
  have zd : d ∉ Z := fun z => by
    obtain ⟨_, u, e1, e2⟩ := ok2.hid d z
    rw [hd2] at e1
    cases e1
    cases e2
  by_cases hlt : k < m.toNat
  · refine .inr ⟨hlt, fun σ' H' => m.toNat - (k + 1) = m.toNat - (k + 1) ∧ k + 1 ≤ m.toNat ∧ ∃ S' ks ys, Fr S H S' H' ∧ StOk X.K Z S' H' ∧ RepSt X.K Z S' H' σ' (ws1.set i none) ∧ H' d = some (DBO X.prog X.w d ys) ∧ (∃ h, DB0 X.prog X.w h d ys) ∧ KBt H' ys ks ∧ ks.length ≤ k + 1 ∧
      patL te i ws1 (fun ks S2 => (liftD X.K (WofX X) Z S H D).rt (.lst (ks.map tupB)) S2) (m.toNat - (k + 1)) (k + 1) ks S', fun σ' H' h' => ⟨m.toNat - (k + 1), by omega, h'⟩, fun x H3 hy => ?_⟩
    obtain ⟨rfl, rfl⟩ := hy
    rw [show m.toNat - k = (m.toNat - (k + 1)) + 1 by omega] at q2
    have q2 : te (ws1.set i (some (.int ((k : Nat) : Int)))) S2 fun y S1 => ∃ bs, boolsL y = some bs ∧ patL te i ws1 (fun ks S2 => (liftD X.K (WofX X) Z S H D).rt (.lst (ks.map tupB)) S2) (m.toNat - (k + 1)) (k + 1) (addU ks bs) S1 := q2
    have re3 := re2.set (i := i) (Rep.int (K := X.K) (Z := Z) (S := S2) (H := H3) ((k : Nat) : Int))
    rw [List.set_set] at re3
    rw [Int.zero_add]
    show liftE X.K (cC (.bl true)) (σ2.set i (some (.int ((k : Nat) : Int)))) H3 _
    refine liftE_of (R := fun w S' => S' = S2) (fun _ _ _ _ f q => f _ _ q) ok2 re3 rfl fun w S3 v H4 f3 ok3 r3 es => ?_
    subst es
    have re4 := re3.fr f3
    refine ⟨.ref d, slot re4, ?_⟩
    show liftE X.K te (σ2.set i (some (.int ((k : Nat) : Int)))) H4 _
    refine liftE_of he.mono ok3 re4 q2 fun y S5 vy H5 f5 ok5 r5 ⟨bs, eb, q5⟩ => ?_
    have re5 := re4.fr f5
    obtain ⟨xs, rfl⟩ := boolsL_lst eb
    have ex := blsC_eq (show blsC xs = some bs from eb)
    subst ex
    obtain ⟨p, vs', rfl, hp5, rr⟩ := RepD.lstH (deref_ok ok5 r5 rfl)
    have ev := reps_bls rr
    subst ev
    refine ⟨p, _, rfl, .inl ⟨.inl (.inl hp5), fun l hl5 => ?_⟩⟩
    obtain ⟨hd4, sd4⟩ := f3.keep d _ hd2 sd2 rfl
    obtain ⟨hd5, sd5⟩ := f5.keep d _ hd4 sd4 rfl
    have nl : d ≠ l := fun z => by rw [z, hl5] at hd5; cases hd5
    have hd6 : upd H5 l (.tup (bs.map V.bl)) d = some (DBO X.prog X.w d ys) := by rw [upd_ne nl]; exact hd5
    have kf : ∀ b cs, H3 b = some (.tup cs) → upd H5 l (.tup (bs.map V.bl)) b = some (.tup cs) := fun b cs e => by
      obtain ⟨e4, s4⟩ := f3.keep b _ e (tupK ok2 b cs e) rfl
      obtain ⟨e5, s5⟩ := f5.keep b _ e4 s4 rfl
      rw [upd_ne (fun z => by rw [z, hl5] at e5; cases e5)]
      exact e5
    refine ⟨d, ys, ks, bs, l, rfl, rfl, hd6, kbt_frame kf kb2, upd_same, by rw [kbt_len kb2, sizeLine_eq]; omega, fun ys' R1 R2 kb' => ?_⟩
    have ok6 := ok5.new (o := .tup (bs.map V.bl)) hl5
    have f6 := Fr.new (S := S5) (o := .tup (bs.map V.bl)) hl5
    have ap6 := apt_db hd6 R1
    have al := addU_lenB (ks := ks) (bs := bs)
    refine ⟨rfl, hlt, S5, addU ks bs, ys', (((f2.trans f3).trans f5).trans f6).late hd rfl, ok6.swap ap6 (own_none ok6 ap6) zd, ?_, upd_same, R2, kb', by omega, q5⟩
    have r6 := (RepSt.swap (O' := DBO X.prog X.w d ys') ap6 (re5.fr f6)).weak i
    rw [List.set_set] at r6
    exact r6
  · refine .inl ⟨by show m.toNat ≤ k; omega, ?_⟩
    rw [show m.toNat - k = 0 by omega] at q2
    refine ⟨.ref d, slot re2, d, ys, ks, rfl, hsys, hd2, kb2, by omega, fun p hp => ?_⟩
    have fp := Fr.new (S := S2) (o := .lst (ys.map fun x => V.ref x.2.1)) hp
    refine q2 (.ref p) _ (f2.trans fp) (ok2.new hp) (.lst upd_same (ok2.free hp) (ok2.notZ hp) (reps_kbt (fun b bs e => ?_) kb2))
    have sb := tupK ok2 b bs e
    exact fp.keep b _ e sb rfl
theorem ss_patA (j i : Nat) {x n : Str} {ea el val : Expr} {ta : CA} {te : CE} {p1 p2 p3 p4 p5 p6 p7 p8 p9 p10 p11 p12 p13 p14 p15 p16 : Pos}
    (hN : X.N.Nodup) (hp : PassesOwn (model X.prog X.w) X.A X.env X.xe) (hc : X.calm = true) (hu : X.A.units + 1 < cLine) (hmr : X.mg "range" = none) (ha : SA X [ea] ta) (hmt : X.mg "tuple" = none) (he : SE X el te) (hml : X.mg "list" = none) (hv : SE X val (cC (.bl true)))
    (hj : X.N[j]? = some x := by rfl) (hxj : Loc X.env.scope x := by first | exact Or.inl rfl | exact Or.inr rfl) (hvj : Vis X.env.scope x := by first | exact Or.inl rfl | exact Or.inr (Or.inl rfl) | exact Or.inr (Or.inr rfl)) (hfj : X.fn x = true ∨ X.env.scope.names.lookup x = some .local := by first | exact .inl rfl | exact .inr rfl) (hdx : (x == ("__debug__" : Str)) = false := by decide) (hcx : (x == ("__classdict__" : Str)) = false := by decide)
    (hi : X.N[i]? = some n := by rfl) (hxi : Loc X.env.scope n := by first | exact Or.inl rfl | exact Or.inr rfl) (hfi : X.fn n = true ∨ X.env.scope.names.lookup n = some .local := by first | exact .inl rfl | exact .inr rfl) (hij : i ≠ j := by decide)
    (hgr : Gl X "range" := by rfl) (hsa : starEach [ea] X.env = [(false, eval ea X.env)] := by rfl)
    (hgt : Gl X "tuple" := by rfl) (hse : starEach [el] X.env = (false, eval el X.env) :: starEach [] X.env := by rfl)
    (hgl : Gl X "list" := by rfl) (hsl : starEach [.Name x p15] X.env = (false, eval (.Name x p15) X.env) :: starEach [] X.env := by rfl)
    (hsw0 : swapsWith (.Dict [] [] p2) (some (.Name x p1)) p3.line X.env = pure false := by rfl)
    (hsw : swapsWith val (some (.Subscript (.Name x p7) (.Call (.Name "tuple" p8) [el] [] p9) p10)) p11.line X.env = pure false := by rfl) (hfs : ∀ y, foldedSetIterable (.Call (.Name "range" p5) [ea] [] p6) X.env y = pure y := by intro _; rfl)
    : SSs X [.Assign [.Name x p1] (.Dict [] [] p2) p3, .For (.Name n p4) (.Call (.Name "range" p5) [ea] [] p6) [.Assign [.Subscript (.Name x p7) (.Call (.Name "tuple" p8) [el] [] p9) p10] val p11] [] p12, .Return (some (.Call (.Name "list" p14) [.Name x p15] [] p16)) p13] (cPat j i ta te) :=
  ss_pat j i hN hp hc hu hj hxj hvj hfj hdx hcx hi hxi hfi hij hgr hmr ha hsa hgt hmt he hse hgl hml hsl hv hsw0 hsw hfs
end
/-! ### computed -/
def fPat : List Cv → Option Nat
  | [.int m] => if -(2 ^ 62) ≤ m ∧ m ≤ 1000000 then some m.toNat else none
  | _ => none
def mPatL (me : ME) (i : Nat) (gs : MEnv) : Nat → Nat → List (List Bool) → Option (List (List Bool))
  | 0, _, ks => some ks
  | n + 1, k, ks => (me (gs.set i (.pl (.int ((k : Nat) : Int))))).bind fun y => (boolsL y).bind fun bs => mPatL me i gs n (k + 1) (addU ks bs)
def mPat (j i : Nat) (mu : MA) (me : ME) : MS := fun gs => if j < gs.length ∧ i < gs.length then (mu (gs.set j .no)).bind fun us => (fPat us).bind fun m => (mPatL me i (gs.set j .no) m 0 []).map fun ks => .rt (.lst (ks.map tupB)) else none
theorem patL_m {te : CE} {me : ME} (he : Ev te me) {i : Nat} {S0 S : Sto} {gs : MEnv} {ws : CL.Env} (V : View S0 S gs ws) {Q : List (List Bool) → Sto → Prop} : ∀ {n k : Nat} {ks r : List (List Bool)}, mPatL me i gs n k ks = some r → Q r S → patL te i ws Q n k ks S
  | 0, _, _, _, e, q => by cases e; exact q
  | n + 1, k, ks, r, e, q => by
    obtain ⟨y, e1, e⟩ := bind_some e
    obtain ⟨bs, e2, e⟩ := bind_some e
    exact he.ok (V.set i _) e1 ⟨bs, e2, patL_m he V e q⟩
theorem es_pat {j i : Nat} {ta : CA} {te : CE} {mu : MA} {me : ME} (ha : EvA ta mu) (he : Ev te me) : EvS (cPat j i ta te) (mPat j i mu me) := ⟨mo_pat ha.mono he.mono, fun {S0 S gs ws D r} V e q => by
  unfold mPat at e
  split at e
  rotate_left
  · cases e
  rename_i hl
  obtain ⟨us, e1, e⟩ := bind_some e
  obtain ⟨m, e2, e⟩ := bind_some e
  obtain ⟨ks, e3, e⟩ := map_some' e
  subst e
  refine ⟨by rw [V.len]; exact hl, fun a hs => ?_⟩
  have V1 := V.no j (some (.ref a))
  refine ha.ok V1 e1 ?_
  unfold fPat at e2
  split at e2
  rotate_left
  · cases e2
  rename_i m0
  obtain ⟨h1, rfl⟩ := ite_some e2
  exact ⟨h1, patL_m he V1 e3 (q _ V.base)⟩⟩
end CL
set_option maxHeartbeats 4000000
namespace Lw
open PySem PySem.Spec PyProof.Rows L2 CL
instance : LamT := ⟨[]⟩
def topS (i : Nat) : Stmt := PySem.Challenge.pw_pluralforms_k62_rows_that_no_number_meet.main.body.getD i (.Pass ⟨0, 0, 0, 0⟩)
abbrev s_ins_of : Stmt := topS 4
abbrev s_all_ins : Stmt := topS 5
abbrev s_holds : Stmt := topS 6
abbrev s_bound : Stmt := topS 8
abbrev s_period : Stmt := topS 9
abbrev s_row_masks : Stmt := topS 11
abbrev s_hits : Stmt := topS 12
abbrev s_all_numbers : Stmt := topS 13
abbrev s_dead_rows : Stmt := topS 14
abbrev s__law_pot : Stmt := topS 16
abbrev s__law_take : Stmt := topS 17
abbrev s__law_of : Stmt := topS 18
abbrev s__law_range : Stmt := topS 19
abbrev s__law_condition : Stmt := topS 20
abbrev s__law_rules : Stmt := topS 21
abbrev s__law_ranges : Stmt := topS 22
abbrev s__law_edges : Stmt := topS 23
abbrev s__law_reach : Stmt := topS 24
abbrev s__law_is : Stmt := topS 25
abbrev s__law_bent_rules : Stmt := topS 26
abbrev s__law_levels : Stmt := topS 27
abbrev s__law_within : Stmt := topS 28
abbrev s__law_patterns : Stmt := topS 29
abbrev s__law_right : Stmt := topS 30
abbrev s_law : Stmt := topS 31
structure Txt (K : Fg) (mg : Str → Option Value) : Prop where
  b_abs : mg "abs" = none
  b_all : mg "all" = none
  b_any : mg "any" = none
  b_enumerate : mg "enumerate" = none
  b_int : mg "int" = none
  b_len : mg "len" = none
  b_list : mg "list" = none
  b_max : mg "max" = none
  b_min : mg "min" = none
  b_range : mg "range" = none
  b_repr : mg "repr" = none
  b_set : mg "set" = none
  b_sum : mg "sum" = none
  b_tuple : mg "tuple" = none
  c_ALL : ∃ t, mg "ALL" = some (.str "all" t)
  c_IN : ∃ t, mg "IN" = some (.str "in" t)
  c_NOT : ∃ t, mg "NOT" = some (.str "not" t)
  yes : True
variable {P : Program} {w : World} {K : Fg} {mg : Str → Option Value} {base : Heap} {k : Nat}
abbrev N_ins_of : List Str := ["condition", "part", "one"]
theorem sc_ins_of : FnScope N_ins_of ["condition"] (defScope s_ins_of) := ⟨rfl, rfl, rfl, by decide +kernel, rfl, by decide +kernel, by decide +kernel⟩
def t_ins_of (sp_ins_of : CSp) : CS :=
  cSeq (cIfS (cB (cOp cEq (cOp cIx (cVar 0) (cC (.int 0))) (cC (.str "in")))) (cSeq (cRet (cLst (cCons (cVar 0) (cNil))))
      (cNext)) (cNext))
      (cSeq (cIfS (cB (cOp cEq (cOp cIx (cVar 0) (cC (.int 0))) (cC (.str "not")))) (cSeq (cRet (cCall sp_ins_of X0 (cCons (cOp cIx (cVar 0) (cC (.int 1))) (cNil))))
      (cNext)) (cNext))
      (cSeq (cRet (cLc2 (cSeqI (cOp cIx (cVar 0) (cC (.int 1)))) (cgName 1) (cYes) (cSeqI (cCall sp_ins_of X0 (cCons (cVar 1) (cNil)))) (cgName 2) (cYes) (cVar 2) [1, 2] [2]))
      (cNext)))
theorem bd_ins_of (T : Txt K mg) {f_ins_of : Addr} {fd_ins_of : FuncData} {sp_ins_of : CSp} (F_ins_of : FnF K mg "ins_of" s_ins_of f_ins_of fd_ins_of ["condition"]) (C_ins_of : FnG P w K mg base L2.CX0 k f_ins_of fd_ins_of ["condition"] sp_ins_of) {f : Addr} {cdv : Value} {A : Around} {outer : List PySem.Env} {s : Shared} {H : Hp} {E : XK} (hr : RoomG k (A.deeper (envOfC "ins_of" (defScope s_ins_of) s.heap.objs.size f cdv))) :
    SSs (cxOf L2.CX0 P w K mg base N_ins_of "ins_of" (defScope s_ins_of) f cdv A outer s H E).nox (defBody s_ins_of) (t_ins_of sp_ins_of) := by
  have nd : N_ins_of.Nodup := sc_ins_of.nd
  exact ss_cons (ss_if (st_cmp (o_eq hr.u4) (s_ix x_ix (sv 0) (s_int)) (s_gstr rfl T.c_IN.choose_spec)) (ss_cons (ss_ret (s_lst (sa_cons (sv 0) (sa_nil))))
      (ss_nil)) (ss_nil))
      (ss_cons (ss_if (st_cmp (o_eq hr.u4) (s_ix x_ix (sv 0) (s_int)) (s_gstr rfl T.c_NOT.choose_spec)) (ss_cons (ss_ret (s_call C_ins_of hr F_ins_of.m F_ins_of.k F_ins_of.b (sa_cons (s_ix x_ix (sv 0) (s_int)) (sa_nil))))
      (ss_nil)) (ss_nil))
      (ss_cons (ss_ret (s_lc2 (vs1 := [2]) rfl nd (si_seq (s_ix x_ix (sv 0) (s_int))) (own := [("part", 1), ("one", 2)]) (blkOk_by (N := N_ins_of) (sc := defScope s_ins_of) (by decide +kernel)) (by decide) (fun _ _ _ _ _ => sg 1 nd) (fun _ _ _ _ _ => sts_nil) (fun _ _ _ _ _ => si_seq (s_call C_ins_of hr F_ins_of.m F_ins_of.k F_ins_of.b (sa_cons (sv 1) (sa_nil)))) (fun _ _ _ _ _ => sg 2 nd) (fun _ _ _ _ _ => sts_nil) (fun _ _ _ _ _ => sv 2)))
      (ss_nil)))
theorem ok_ins_of (T : Txt K mg) {f_ins_of : Addr} {fd_ins_of : FuncData} {sp_ins_of : CSp} (F_ins_of : FnF K mg "ins_of" s_ins_of f_ins_of fd_ins_of ["condition"]) (C_ins_of : FnG P w K mg base L2.CX0 k f_ins_of fd_ins_of ["condition"] sp_ins_of) {f : Addr} {fd : FuncData} {sp : CSp} (F : FnF K mg "ins_of" s_ins_of f fd ["condition"]) (pl : PL N_ins_of ["condition"] sp (t_ins_of sp_ins_of)) : FnG P w K mg base L2.CX0 (k + 1) f fd ["condition"] sp :=
  fn_mk F.F sc_ins_of pl.mono pl.len (fun cdv A outer s H E hr => bd_ins_of T F_ins_of C_ins_of hr) pl.go
def b_ins_of (m_ins_of : List Cv → Option Cv) : MS :=
  mSeq (mIfS (mB (mOp fEq (mOp fIx (mVar 0) (mC (.int 0))) (mC (.str "in")))) (mSeq (mRet (mLst (mCons (mVar 0) (mNil))))
      (mNext)) (mNext))
      (mSeq (mIfS (mB (mOp fEq (mOp fIx (mVar 0) (mC (.int 0))) (mC (.str "not")))) (mSeq (mRet (mCB (arg 1 m_ins_of) (mCons (mOp fIx (mVar 0) (mC (.int 1))) (mNil))))
      (mNext)) (mNext))
      (mSeq (mRet (mLc2 (mSeqI (mOp fIx (mVar 0) (mC (.int 1)))) (mgName 1) (mYes) (mSeqI (mCB (arg 1 m_ins_of) (mCons (mVar 1) (mNil)))) (mgName 2) (mYes) (mVar 2) [1, 2] [2]))
      (mNext)))
theorem es_ins_of {m_ins_of : List Cv → Option Cv} : EvS (t_ins_of (spM 1 m_ins_of)) (b_ins_of m_ins_of) :=
  es_seq (es_if (et_b (ev_op e2_eqB (ev_op e2_ix (ev_var) (ev_c)) (ev_c))) (es_seq (es_ret (ev_lst (ea_cons (ev_var) (ea_nil))))
      (es_next)) (es_next))
      (es_seq (es_if (et_b (ev_op e2_eqB (ev_op e2_ix (ev_var) (ev_c)) (ev_c))) (es_seq (es_ret (ev_call (ea_cons (ev_op e2_ix (ev_var) (ev_c)) (ea_nil))))
      (es_next)) (es_next))
      (es_seq (es_ret (ev_lc2 (ei_seq (ev_op e2_ix (ev_var) (ev_c))) (eg_name) (et_yes) (ei_seq (ev_call (ea_cons (ev_var) (ea_nil)))) (eg_name) (et_yes) (ev_var)))
      (es_next)))
theorem mst_ins_of {a0 : Cv} : mstart N_ins_of [a0] = [.pl a0, .no, .no] := rfl
def m_ins_of : Nat → List Cv → Option Cv
  | 0, _ => none
  | d + 1, us => outM (b_ins_of (m_ins_of d)) (mstart N_ins_of us)
abbrev N_all_ins : List Str := ["rules", "form", "condition", "one"]
theorem sc_all_ins : FnScope N_all_ins ["rules"] (defScope s_all_ins) := ⟨rfl, rfl, rfl, by decide +kernel, rfl, by decide +kernel, by decide +kernel⟩
def t_all_ins (sp_ins_of : CSp) : CS :=
  cSeq (cRet (cLc2 (cSeqI (cOp cIx (cVar 0) (cC (.int 0)))) (cgTup 2 (cgCons (cgName 1) (cgCons (cgName 2) (cgNil)))) (cYes) (cSeqI (cCall sp_ins_of X0 (cCons (cVar 2) (cNil)))) (cgName 3) (cYes) (cVar 3) [1, 2, 3] [3]))
      (cNext)
theorem bd_all_ins (T : Txt K mg) {f_ins_of : Addr} {fd_ins_of : FuncData} {sp_ins_of : CSp} (F_ins_of : FnF K mg "ins_of" s_ins_of f_ins_of fd_ins_of ["condition"]) (C_ins_of : FnG P w K mg base L2.CX0 k f_ins_of fd_ins_of ["condition"] sp_ins_of) {f : Addr} {cdv : Value} {A : Around} {outer : List PySem.Env} {s : Shared} {H : Hp} {E : XK} (hr : RoomG k (A.deeper (envOfC "all_ins" (defScope s_all_ins) s.heap.objs.size f cdv))) :
    SSs (cxOf L2.CX0 P w K mg base N_all_ins "all_ins" (defScope s_all_ins) f cdv A outer s H E).nox (defBody s_all_ins) (t_all_ins sp_ins_of) := by
  have nd : N_all_ins.Nodup := sc_all_ins.nd
  exact ss_cons (ss_ret (s_lc2 (vs1 := [3]) rfl nd (si_seq (s_ix x_ix (sv 0) (s_int))) (own := [("form", 1), ("condition", 2), ("one", 3)]) (blkOk_by (N := N_all_ins) (sc := defScope s_all_ins) (by decide +kernel)) (by decide) (fun _ _ _ _ _ => sg_tup rfl (sgs_cons (sg 1 nd) (sgs_cons (sg 2 nd) (sgs_nil)))) (fun _ _ _ _ _ => sts_nil) (fun _ _ _ _ _ => si_seq (s_call C_ins_of hr F_ins_of.m F_ins_of.k F_ins_of.b (sa_cons (sv 2) (sa_nil)))) (fun _ _ _ _ _ => sg 3 nd) (fun _ _ _ _ _ => sts_nil) (fun _ _ _ _ _ => sv 3)))
      (ss_nil)
theorem ok_all_ins (T : Txt K mg) {f_ins_of : Addr} {fd_ins_of : FuncData} {sp_ins_of : CSp} (F_ins_of : FnF K mg "ins_of" s_ins_of f_ins_of fd_ins_of ["condition"]) (C_ins_of : FnG P w K mg base L2.CX0 k f_ins_of fd_ins_of ["condition"] sp_ins_of) {f : Addr} {fd : FuncData} {sp : CSp} (F : FnF K mg "all_ins" s_all_ins f fd ["rules"]) (pl : PL N_all_ins ["rules"] sp (t_all_ins sp_ins_of)) : FnG P w K mg base L2.CX0 (k + 1) f fd ["rules"] sp :=
  fn_mk F.F sc_all_ins pl.mono pl.len (fun cdv A outer s H E hr => bd_all_ins T F_ins_of C_ins_of hr) pl.go
def b_all_ins (m_ins_of : List Cv → Option Cv) : MS :=
  mSeq (mRet (mLc2 (mSeqI (mOp fIx (mVar 0) (mC (.int 0)))) (mgTup 2 (mgCons (mgName 1) (mgCons (mgName 2) (mgNil)))) (mYes) (mSeqI (mCB (arg 1 m_ins_of) (mCons (mVar 2) (mNil)))) (mgName 3) (mYes) (mVar 3) [1, 2, 3] [3]))
      (mNext)
theorem es_all_ins {m_ins_of : List Cv → Option Cv} : EvS (t_all_ins (spM 1 m_ins_of)) (b_all_ins m_ins_of) :=
  es_seq (es_ret (ev_lc2 (ei_seq (ev_op e2_ix (ev_var) (ev_c))) (eg_tup (eg_cons (eg_name) (eg_cons (eg_name) (eg_nil)))) (et_yes) (ei_seq (ev_call (ea_cons (ev_var) (ea_nil)))) (eg_name) (et_yes) (ev_var)))
      (es_next)
theorem mst_all_ins {a0 : Cv} : mstart N_all_ins [a0] = [.pl a0, .no, .no, .no] := rfl
def m_all_ins (us : List Cv) : Option Cv := outM (b_all_ins (m_ins_of 8)) (mstart N_all_ins us)
abbrev N_holds : List Str := ["condition", "number", "word", "modulus", "low", "high", "part"]
theorem sc_holds : FnScope N_holds ["condition", "number"] (defScope s_holds) := ⟨rfl, rfl, rfl, by decide +kernel, rfl, by decide +kernel, by decide +kernel⟩
def t_holds (sp_holds : CSp) : CS :=
  cSeq (cIfS (cB (cOp cEq (cOp cIx (cVar 0) (cC (.int 0))) (cC (.str "in")))) (cSeq (cAsg (cVar 0) (cgTup 4 (cgCons (cgName 2) (cgCons (cgName 3) (cgCons (cgName 4) (cgCons (cgName 5) (cgNil)))))))
      (cSeq (cRet (cChain cLe cLe (cVar 4) (cIf (cB (cOp cGt (cVar 3) (cC (.int 0)))) (cOp cMod (cVar 1) (cVar 3)) (cVar 1)) (cVar 5)))
      (cNext))) (cNext))
      (cSeq (cIfS (cB (cOp cEq (cOp cIx (cVar 0) (cC (.int 0))) (cC (.str "not")))) (cSeq (cRet (cNotV (cCall sp_holds X0 (cCons (cOp cIx (cVar 0) (cC (.int 1))) (cCons (cVar 1) (cNil))))))
      (cNext)) (cNext))
      (cSeq (cIfS (cB (cOp cEq (cOp cIx (cVar 0) (cC (.int 0))) (cC (.str "all")))) (cSeq (cRet (cCB cAll (cCons (cLc (cSeqI (cOp cIx (cVar 0) (cC (.int 1)))) (cgName 6) (cYes) (cCall sp_holds X0 (cCons (cVar 6) (cCons (cVar 1) (cNil)))) [6]) (cNil))))
      (cNext)) (cNext))
      (cSeq (cRet (cCB cAny (cCons (cLc (cSeqI (cOp cIx (cVar 0) (cC (.int 1)))) (cgName 6) (cYes) (cCall sp_holds X0 (cCons (cVar 6) (cCons (cVar 1) (cNil)))) [6]) (cNil))))
      (cNext))))
theorem bd_holds (T : Txt K mg) {f_holds : Addr} {fd_holds : FuncData} {sp_holds : CSp} (F_holds : FnF K mg "holds" s_holds f_holds fd_holds ["condition", "number"]) (C_holds : FnG P w K mg base L2.CX0 k f_holds fd_holds ["condition", "number"] sp_holds) {f : Addr} {cdv : Value} {A : Around} {outer : List PySem.Env} {s : Shared} {H : Hp} {E : XK} (hr : RoomG k (A.deeper (envOfC "holds" (defScope s_holds) s.heap.objs.size f cdv))) :
    SSs (cxOf L2.CX0 P w K mg base N_holds "holds" (defScope s_holds) f cdv A outer s H E).nox (defBody s_holds) (t_holds sp_holds) := by
  have nd : N_holds.Nodup := sc_holds.nd
  exact ss_cons (ss_if (st_cmp (o_eq hr.u4) (s_ix x_ix (sv 0) (s_int)) (s_gstr rfl T.c_IN.choose_spec)) (ss_cons (ss_asg (sv 0) (sg_tup rfl (sgs_cons (sg 2 nd) (sgs_cons (sg 3 nd) (sgs_cons (sg 4 nd) (sgs_cons (sg 5 nd) (sgs_nil)))))))
      (ss_cons (ss_ret (s_chain o_le o_le (sv 4) (s_ifExp (st_cmp o_gt (sv 3) (s_int)) (s_op o_mod (sv 1) (sv 3)) (sv 1)) (sv 5)))
      (ss_nil))) (ss_nil))
      (ss_cons (ss_if (st_cmp (o_eq hr.u4) (s_ix x_ix (sv 0) (s_int)) (s_gstr rfl T.c_NOT.choose_spec)) (ss_cons (ss_ret (s_not (s_call C_holds hr F_holds.m F_holds.k F_holds.b (sa_cons (s_ix x_ix (sv 0) (s_int)) (sa_cons (sv 1) (sa_nil))))))
      (ss_nil)) (ss_nil))
      (ss_cons (ss_if (st_cmp (o_eq hr.u4) (s_ix x_ix (sv 0) (s_int)) (s_gstr rfl T.c_ALL.choose_spec)) (ss_cons (ss_ret (s_callB (b_all rfl) T.b_all (sa_cons (s_lc rfl nd (si_seq (s_ix x_ix (sv 0) (s_int))) (own := [("part", 6)]) (blkOk_by (N := N_holds) (sc := defScope s_holds) (by decide +kernel)) (fun _ _ _ _ _ => sg 6 nd) (fun _ _ _ _ _ => sts_nil) (fun _ _ _ _ _ => s_call C_holds hr F_holds.m F_holds.k F_holds.b (sa_cons (sv 6) (sa_cons (sv 1) (sa_nil))))) (sa_nil))))
      (ss_nil)) (ss_nil))
      (ss_cons (ss_ret (s_callB (b_any rfl) T.b_any (sa_cons (s_lc rfl nd (si_seq (s_ix x_ix (sv 0) (s_int))) (own := [("part", 6)]) (blkOk_by (N := N_holds) (sc := defScope s_holds) (by decide +kernel)) (fun _ _ _ _ _ => sg 6 nd) (fun _ _ _ _ _ => sts_nil) (fun _ _ _ _ _ => s_call C_holds hr F_holds.m F_holds.k F_holds.b (sa_cons (sv 6) (sa_cons (sv 1) (sa_nil))))) (sa_nil))))
      (ss_nil))))
theorem ok_holds (T : Txt K mg) {f_holds : Addr} {fd_holds : FuncData} {sp_holds : CSp} (F_holds : FnF K mg "holds" s_holds f_holds fd_holds ["condition", "number"]) (C_holds : FnG P w K mg base L2.CX0 k f_holds fd_holds ["condition", "number"] sp_holds) {f : Addr} {fd : FuncData} {sp : CSp} (F : FnF K mg "holds" s_holds f fd ["condition", "number"]) (pl : PL N_holds ["condition", "number"] sp (t_holds sp_holds)) : FnG P w K mg base L2.CX0 (k + 1) f fd ["condition", "number"] sp :=
  fn_mk F.F sc_holds pl.mono pl.len (fun cdv A outer s H E hr => bd_holds T F_holds C_holds hr) pl.go
def b_holds (m_holds : List Cv → Option Cv) : MS :=
  mSeq (mIfS (mB (mOp fEq (mOp fIx (mVar 0) (mC (.int 0))) (mC (.str "in")))) (mSeq (mAsg (mVar 0) (mgTup 4 (mgCons (mgName 2) (mgCons (mgName 3) (mgCons (mgName 4) (mgCons (mgName 5) (mgNil)))))))
      (mSeq (mRet (mChain fLe fLe (mVar 4) (mIf (mB (mOp fGt (mVar 3) (mC (.int 0)))) (mOp fMod (mVar 1) (mVar 3)) (mVar 1)) (mVar 5)))
      (mNext))) (mNext))
      (mSeq (mIfS (mB (mOp fEq (mOp fIx (mVar 0) (mC (.int 0))) (mC (.str "not")))) (mSeq (mRet (mNotV (mCB (arg 2 m_holds) (mCons (mOp fIx (mVar 0) (mC (.int 1))) (mCons (mVar 1) (mNil))))))
      (mNext)) (mNext))
      (mSeq (mIfS (mB (mOp fEq (mOp fIx (mVar 0) (mC (.int 0))) (mC (.str "all")))) (mSeq (mRet (mCB fAll (mCons (mLc (mSeqI (mOp fIx (mVar 0) (mC (.int 1)))) (mgName 6) (mYes) (mCB (arg 2 m_holds) (mCons (mVar 6) (mCons (mVar 1) (mNil)))) [6]) (mNil))))
      (mNext)) (mNext))
      (mSeq (mRet (mCB fAny (mCons (mLc (mSeqI (mOp fIx (mVar 0) (mC (.int 1)))) (mgName 6) (mYes) (mCB (arg 2 m_holds) (mCons (mVar 6) (mCons (mVar 1) (mNil)))) [6]) (mNil))))
      (mNext))))
theorem es_holds {m_holds : List Cv → Option Cv} : EvS (t_holds (spM 2 m_holds)) (b_holds m_holds) :=
  es_seq (es_if (et_b (ev_op e2_eqB (ev_op e2_ix (ev_var) (ev_c)) (ev_c))) (es_seq (es_asg (ev_var) (eg_tup (eg_cons (eg_name) (eg_cons (eg_name) (eg_cons (eg_name) (eg_cons (eg_name) (eg_nil)))))))
      (es_seq (es_ret (ev_chain e2_le e2_le (ev_var) (ev_if (et_b (ev_op e2_gt (ev_var) (ev_c))) (ev_op e2_mod (ev_var) (ev_var)) (ev_var)) (ev_var)))
      (es_next))) (es_next))
      (es_seq (es_if (et_b (ev_op e2_eqB (ev_op e2_ix (ev_var) (ev_c)) (ev_c))) (es_seq (es_ret (ev_notV (ev_call (ea_cons (ev_op e2_ix (ev_var) (ev_c)) (ea_cons (ev_var) (ea_nil))))))
      (es_next)) (es_next))
      (es_seq (es_if (et_b (ev_op e2_eqB (ev_op e2_ix (ev_var) (ev_c)) (ev_c))) (es_seq (es_ret (ev_cb ec_bools (ea_cons (ev_lc (ei_seq (ev_op e2_ix (ev_var) (ev_c))) (eg_name) (et_yes) (ev_call (ea_cons (ev_var) (ea_cons (ev_var) (ea_nil))))) (ea_nil))))
      (es_next)) (es_next))
      (es_seq (es_ret (ev_cb ec_bools (ea_cons (ev_lc (ei_seq (ev_op e2_ix (ev_var) (ev_c))) (eg_name) (et_yes) (ev_call (ea_cons (ev_var) (ea_cons (ev_var) (ea_nil))))) (ea_nil))))
      (es_next))))
theorem mst_holds {a0 a1 : Cv} : mstart N_holds [a0, a1] = [.pl a0, .pl a1, .no, .no, .no, .no, .no] := rfl
def m_holds : Nat → List Cv → Option Cv
  | 0, _ => none
  | d + 1, us => outM (b_holds (m_holds d)) (mstart N_holds us)
abbrev N_bound : List Str := ["rules", "word", "modulus", "low", "high"]
theorem sc_bound : FnScope N_bound ["rules"] (defScope s_bound) := ⟨rfl, rfl, rfl, by decide +kernel, rfl, by decide +kernel, by decide +kernel⟩
def t_bound (sp_all_ins : CSp) : CS :=
  cSeq (cRet (cCKw cMaxD (cCons (cLc (cSeqI (cCall sp_all_ins X0 (cCons (cVar 0) (cNil)))) (cgTup 4 (cgCons (cgName 1) (cgCons (cgName 2) (cgCons (cgName 3) (cgCons (cgName 4) (cgNil)))))) (cB (cOp cEq (cVar 2) (cC (.int 0)))) (cOp cAdd (cVar 4) (cC (.int 1))) [1, 2, 3, 4]) (cNil)) (cCons (cC (.int 0)) cNil)))
      (cNext)
theorem bd_bound (T : Txt K mg) {f_all_ins : Addr} {fd_all_ins : FuncData} {sp_all_ins : CSp} (F_all_ins : FnF K mg "all_ins" s_all_ins f_all_ins fd_all_ins ["rules"]) (C_all_ins : FnG P w K mg base L2.CX0 k f_all_ins fd_all_ins ["rules"] sp_all_ins) {f : Addr} {cdv : Value} {A : Around} {outer : List PySem.Env} {s : Shared} {H : Hp} {E : XK} (hr : RoomG k (A.deeper (envOfC "bound" (defScope s_bound) s.heap.objs.size f cdv))) :
    SSs (cxOf L2.CX0 P w K mg base N_bound "bound" (defScope s_bound) f cdv A outer s H E).nox (defBody s_bound) (t_bound sp_all_ins) := by
  have nd : N_bound.Nodup := sc_bound.nd
  exact ss_cons (ss_ret (s_callBK (b_maxD rfl hr.u4) T.b_max (sa_cons (s_lc rfl nd (si_seq (s_call C_all_ins hr F_all_ins.m F_all_ins.k F_all_ins.b (sa_cons (sv 0) (sa_nil)))) (own := [("word", 1), ("modulus", 2), ("low", 3), ("high", 4)]) (blkOk_by (N := N_bound) (sc := defScope s_bound) (by decide +kernel)) (fun _ _ _ _ _ => sg_tup rfl (sgs_cons (sg 1 nd) (sgs_cons (sg 2 nd) (sgs_cons (sg 3 nd) (sgs_cons (sg 4 nd) (sgs_nil)))))) (fun _ _ _ _ _ => sts_one (st_cmp (o_eq hr.u4) (sv 2) (s_int))) (fun _ _ _ _ _ => s_op o_add (sv 4) (s_int))) (sa_nil)) (sk_cons (s_int) sk_nil)))
      (ss_nil)
theorem ok_bound (T : Txt K mg) {f_all_ins : Addr} {fd_all_ins : FuncData} {sp_all_ins : CSp} (F_all_ins : FnF K mg "all_ins" s_all_ins f_all_ins fd_all_ins ["rules"]) (C_all_ins : FnG P w K mg base L2.CX0 k f_all_ins fd_all_ins ["rules"] sp_all_ins) {f : Addr} {fd : FuncData} {sp : CSp} (F : FnF K mg "bound" s_bound f fd ["rules"]) (pl : PL N_bound ["rules"] sp (t_bound sp_all_ins)) : FnG P w K mg base L2.CX0 (k + 1) f fd ["rules"] sp :=
  fn_mk F.F sc_bound pl.mono pl.len (fun cdv A outer s H E hr => bd_bound T F_all_ins C_all_ins hr) pl.go
def b_bound (m_all_ins : List Cv → Option Cv) : MS :=
  mSeq (mRet (mCKw fMaxD (mCons (mLc (mSeqI (mCB (arg 1 m_all_ins) (mCons (mVar 0) (mNil)))) (mgTup 4 (mgCons (mgName 1) (mgCons (mgName 2) (mgCons (mgName 3) (mgCons (mgName 4) (mgNil)))))) (mB (mOp fEq (mVar 2) (mC (.int 0)))) (mOp fAdd (mVar 4) (mC (.int 1))) [1, 2, 3, 4]) (mNil)) (mCons (mC (.int 0)) mNil)))
      (mNext)
theorem es_bound {m_all_ins : List Cv → Option Cv} : EvS (t_bound (spM 1 m_all_ins)) (b_bound m_all_ins) :=
  es_seq (es_ret (ev_ckw eck_max (ea_cons (ev_lc (ei_seq (ev_call (ea_cons (ev_var) (ea_nil)))) (eg_tup (eg_cons (eg_name) (eg_cons (eg_name) (eg_cons (eg_name) (eg_cons (eg_name) (eg_nil)))))) (et_b (ev_op e2_eqB (ev_var) (ev_c))) (ev_op e2_add (ev_var) (ev_c))) (ea_nil)) (ea_cons (ev_c) ea_nil)))
      (es_next)
theorem mst_bound {a0 : Cv} : mstart N_bound [a0] = [.pl a0, .no, .no, .no, .no] := rfl
def m_bound (us : List Cv) : Option Cv := outM (b_bound m_all_ins) (mstart N_bound us)
abbrev N_period : List Str := ["rules", "word", "modulus", "low", "high"]
theorem sc_period : FnScope N_period ["rules"] (defScope s_period) := ⟨rfl, rfl, rfl, by decide +kernel, rfl, by decide +kernel, by decide +kernel⟩
def t_period (sp_all_ins : CSp) : CS :=
  cSeq (cRet (cCKw cMaxD (cCons (cLc (cSeqI (cCall sp_all_ins X0 (cCons (cVar 0) (cNil)))) (cgTup 4 (cgCons (cgName 1) (cgCons (cgName 2) (cgCons (cgName 3) (cgCons (cgName 4) (cgNil)))))) (cB (cOp cGt (cVar 2) (cC (.int 0)))) (cVar 2) [1, 2, 3, 4]) (cNil)) (cCons (cC (.int 1)) cNil)))
      (cNext)
theorem bd_period (T : Txt K mg) {f_all_ins : Addr} {fd_all_ins : FuncData} {sp_all_ins : CSp} (F_all_ins : FnF K mg "all_ins" s_all_ins f_all_ins fd_all_ins ["rules"]) (C_all_ins : FnG P w K mg base L2.CX0 k f_all_ins fd_all_ins ["rules"] sp_all_ins) {f : Addr} {cdv : Value} {A : Around} {outer : List PySem.Env} {s : Shared} {H : Hp} {E : XK} (hr : RoomG k (A.deeper (envOfC "period" (defScope s_period) s.heap.objs.size f cdv))) :
    SSs (cxOf L2.CX0 P w K mg base N_period "period" (defScope s_period) f cdv A outer s H E).nox (defBody s_period) (t_period sp_all_ins) := by
  have nd : N_period.Nodup := sc_period.nd
  exact ss_cons (ss_ret (s_callBK (b_maxD rfl hr.u4) T.b_max (sa_cons (s_lc rfl nd (si_seq (s_call C_all_ins hr F_all_ins.m F_all_ins.k F_all_ins.b (sa_cons (sv 0) (sa_nil)))) (own := [("word", 1), ("modulus", 2), ("low", 3), ("high", 4)]) (blkOk_by (N := N_period) (sc := defScope s_period) (by decide +kernel)) (fun _ _ _ _ _ => sg_tup rfl (sgs_cons (sg 1 nd) (sgs_cons (sg 2 nd) (sgs_cons (sg 3 nd) (sgs_cons (sg 4 nd) (sgs_nil)))))) (fun _ _ _ _ _ => sts_one (st_cmp o_gt (sv 2) (s_int))) (fun _ _ _ _ _ => sv 2)) (sa_nil)) (sk_cons (s_int) sk_nil)))
      (ss_nil)
theorem ok_period (T : Txt K mg) {f_all_ins : Addr} {fd_all_ins : FuncData} {sp_all_ins : CSp} (F_all_ins : FnF K mg "all_ins" s_all_ins f_all_ins fd_all_ins ["rules"]) (C_all_ins : FnG P w K mg base L2.CX0 k f_all_ins fd_all_ins ["rules"] sp_all_ins) {f : Addr} {fd : FuncData} {sp : CSp} (F : FnF K mg "period" s_period f fd ["rules"]) (pl : PL N_period ["rules"] sp (t_period sp_all_ins)) : FnG P w K mg base L2.CX0 (k + 1) f fd ["rules"] sp :=
  fn_mk F.F sc_period pl.mono pl.len (fun cdv A outer s H E hr => bd_period T F_all_ins C_all_ins hr) pl.go
def b_period (m_all_ins : List Cv → Option Cv) : MS :=
  mSeq (mRet (mCKw fMaxD (mCons (mLc (mSeqI (mCB (arg 1 m_all_ins) (mCons (mVar 0) (mNil)))) (mgTup 4 (mgCons (mgName 1) (mgCons (mgName 2) (mgCons (mgName 3) (mgCons (mgName 4) (mgNil)))))) (mB (mOp fGt (mVar 2) (mC (.int 0)))) (mVar 2) [1, 2, 3, 4]) (mNil)) (mCons (mC (.int 1)) mNil)))
      (mNext)
theorem es_period {m_all_ins : List Cv → Option Cv} : EvS (t_period (spM 1 m_all_ins)) (b_period m_all_ins) :=
  es_seq (es_ret (ev_ckw eck_max (ea_cons (ev_lc (ei_seq (ev_call (ea_cons (ev_var) (ea_nil)))) (eg_tup (eg_cons (eg_name) (eg_cons (eg_name) (eg_cons (eg_name) (eg_cons (eg_name) (eg_nil)))))) (et_b (ev_op e2_gt (ev_var) (ev_c))) (ev_var)) (ea_nil)) (ea_cons (ev_c) ea_nil)))
      (es_next)
theorem mst_period {a0 : Cv} : mstart N_period [a0] = [.pl a0, .no, .no, .no, .no] := rfl
def m_period (us : List Cv) : Option Cv := outM (b_period m_all_ins) (mstart N_period us)
abbrev N_row_masks : List Str := ["rules", "numbers", "form", "condition", "number"]
theorem sc_row_masks : FnScope N_row_masks ["rules"] (defScope s_row_masks) := ⟨rfl, rfl, rfl, by decide +kernel, rfl, by decide +kernel, by decide +kernel⟩
def t_row_masks (sp_holds : CSp) (sp_bound : CSp) (sp_period : CSp) : CS :=
  cSeq (cAsg (cUn cLr1 (cOp cAdd (cCall sp_bound X0 (cCons (cVar 0) (cNil))) (cCall sp_period X0 (cCons (cVar 0) (cNil))))) (cgName 1))
      (cSeq (cRet (cLc (cSeqI (cOp cIx (cVar 0) (cC (.int 0)))) (cgTup 2 (cgCons (cgName 2) (cgCons (cgName 3) (cgNil)))) (cYes) (cCB cSum (cCons (cLc (cSeqI (cVar 1)) (cgName 4) (cB (cCall sp_holds X0 (cCons (cVar 3) (cCons (cVar 4) (cNil))))) (cOp cShl (cC (.int 1)) (cVar 4)) [4]) (cNil))) [2, 3]))
      (cNext))
theorem bd_row_masks (T : Txt K mg) {f_holds : Addr} {fd_holds : FuncData} {sp_holds : CSp} (F_holds : FnF K mg "holds" s_holds f_holds fd_holds ["condition", "number"]) (C_holds : FnG P w K mg base L2.CX0 k f_holds fd_holds ["condition", "number"] sp_holds) {f_bound : Addr} {fd_bound : FuncData} {sp_bound : CSp} (F_bound : FnF K mg "bound" s_bound f_bound fd_bound ["rules"]) (C_bound : FnG P w K mg base L2.CX0 k f_bound fd_bound ["rules"] sp_bound) {f_period : Addr} {fd_period : FuncData} {sp_period : CSp} (F_period : FnF K mg "period" s_period f_period fd_period ["rules"]) (C_period : FnG P w K mg base L2.CX0 k f_period fd_period ["rules"] sp_period) {f : Addr} {cdv : Value} {A : Around} {outer : List PySem.Env} {s : Shared} {H : Hp} {E : XK} (hr : RoomG k (A.deeper (envOfC "row_masks" (defScope s_row_masks) s.heap.objs.size f cdv))) :
    SSs (cxOf L2.CX0 P w K mg base N_row_masks "row_masks" (defScope s_row_masks) f cdv A outer s H E).nox (defBody s_row_masks) (t_row_masks sp_holds sp_bound sp_period) := by
  have nd : N_row_masks.Nodup := sc_row_masks.nd
  exact ss_cons (ss_set 1 nd (s_listRg1 rfl T.b_list T.b_range (s_op o_add (s_call C_bound hr F_bound.m F_bound.k F_bound.b (sa_cons (sv 0) (sa_nil))) (s_call C_period hr F_period.m F_period.k F_period.b (sa_cons (sv 0) (sa_nil))))))
      (ss_cons (ss_ret (s_lc rfl nd (si_seq (s_ix x_ix (sv 0) (s_int))) (own := [("form", 2), ("condition", 3)]) (blkOk_by (N := N_row_masks) (sc := defScope s_row_masks) (by decide +kernel)) (fun _ _ _ _ _ => sg_tup rfl (sgs_cons (sg 2 nd) (sgs_cons (sg 3 nd) (sgs_nil)))) (fun _ _ _ _ _ => sts_nil) (fun _ _ _ _ _ => s_callB (b_sum rfl) T.b_sum (sa_cons (s_lc rfl nd (si_seq (sv 1)) (own := [("number", 4)]) (blkOk_by (N := N_row_masks) (by first | decide +kernel | kernel_rfl)) (fun _ _ _ _ _ => sg 4 nd) (fun _ _ _ _ _ => sts_one (st_val (s_call C_holds hr F_holds.m F_holds.k F_holds.b (sa_cons (sv 3) (sa_cons (sv 4) (sa_nil)))))) (fun _ _ _ _ _ => s_op o_shl (s_int) (sv 4))) (sa_nil)))))
      (ss_nil))
theorem ok_row_masks (T : Txt K mg) {f_holds : Addr} {fd_holds : FuncData} {sp_holds : CSp} (F_holds : FnF K mg "holds" s_holds f_holds fd_holds ["condition", "number"]) (C_holds : FnG P w K mg base L2.CX0 k f_holds fd_holds ["condition", "number"] sp_holds) {f_bound : Addr} {fd_bound : FuncData} {sp_bound : CSp} (F_bound : FnF K mg "bound" s_bound f_bound fd_bound ["rules"]) (C_bound : FnG P w K mg base L2.CX0 k f_bound fd_bound ["rules"] sp_bound) {f_period : Addr} {fd_period : FuncData} {sp_period : CSp} (F_period : FnF K mg "period" s_period f_period fd_period ["rules"]) (C_period : FnG P w K mg base L2.CX0 k f_period fd_period ["rules"] sp_period) {f : Addr} {fd : FuncData} {sp : CSp} (F : FnF K mg "row_masks" s_row_masks f fd ["rules"]) (pl : PL N_row_masks ["rules"] sp (t_row_masks sp_holds sp_bound sp_period)) : FnG P w K mg base L2.CX0 (k + 1) f fd ["rules"] sp :=
  fn_mk F.F sc_row_masks pl.mono pl.len (fun cdv A outer s H E hr => bd_row_masks T F_holds C_holds F_bound C_bound F_period C_period hr) pl.go
def b_row_masks (m_holds : List Cv → Option Cv) (m_bound : List Cv → Option Cv) (m_period : List Cv → Option Cv) : MS :=
  mSeq (mAsg (mUn fLr1 (mOp fAdd (mCB (arg 1 m_bound) (mCons (mVar 0) (mNil))) (mCB (arg 1 m_period) (mCons (mVar 0) (mNil))))) (mgName 1))
      (mSeq (mRet (mLc (mSeqI (mOp fIx (mVar 0) (mC (.int 0)))) (mgTup 2 (mgCons (mgName 2) (mgCons (mgName 3) (mgNil)))) (mYes) (mCB fSum (mCons (mLc (mSeqI (mVar 1)) (mgName 4) (mB (mCB (arg 2 m_holds) (mCons (mVar 3) (mCons (mVar 4) (mNil))))) (mOp fShlW (mC (.int 1)) (mVar 4)) [4]) (mNil))) [2, 3]))
      (mNext))
theorem es_row_masks {m_holds : List Cv → Option Cv} {m_bound : List Cv → Option Cv} {m_period : List Cv → Option Cv} : EvS (t_row_masks (spM 2 m_holds) (spM 1 m_bound) (spM 1 m_period)) (b_row_masks m_holds m_bound m_period) :=
  es_seq (es_asg (ev_un e1_lr1 (ev_op e2_add (ev_call (ea_cons (ev_var) (ea_nil))) (ev_call (ea_cons (ev_var) (ea_nil))))) eg_name)
      (es_seq (es_ret (ev_lc (ei_seq (ev_op e2_ix (ev_var) (ev_c))) (eg_tup (eg_cons (eg_name) (eg_cons (eg_name) (eg_nil)))) (et_yes) (ev_cb ec_sum (ea_cons (ev_lc (ei_seq (ev_var)) (eg_name) (et_b (ev_call (ea_cons (ev_var) (ea_cons (ev_var) (ea_nil))))) (ev_op e2_shlW (ev_c) (ev_var))) (ea_nil)))))
      (es_next))
theorem mst_row_masks {a0 : Cv} : mstart N_row_masks [a0] = [.pl a0, .no, .no, .no, .no] := rfl
def m_row_masks (us : List Cv) : Option Cv := outM (b_row_masks (m_holds 8) m_bound m_period) (mstart N_row_masks us)
abbrev N_hits : List Str := ["masks", "everything", "found", "left", "mask"]
theorem sc_hits : FnScope N_hits ["masks", "everything"] (defScope s_hits) := ⟨rfl, rfl, rfl, by decide +kernel, rfl, by decide +kernel, by decide +kernel⟩
def t_hits : CS :=
  cSeq (cPar 2 3 (cCons (cLstO (cNil)) (cCons (cVar 1) (cNil))))
      (cSeq (cFor (cSeqI (cVar 0)) (cgName 4) (cSeq (cDrop (cBM "list" cAppend (cVar 2) (cCons (cOp cBand (cVar 3) (cVar 4)) cNil)))
      (cSeq (cAug 3 (cUn cInv (cVar 4)) cIand)
      (cNext))))
      (cFrz 2 (cSeq (cRet (cTup (cCons (cVar 2) (cCons (cVar 3) (cNil)))))
      (cNext))))
theorem bd_hits (T : Txt K mg) {f : Addr} {cdv : Value} {A : Around} {outer : List PySem.Env} {s : Shared} {H : Hp} {E : XK} (hr : RoomG k (A.deeper (envOfC "hits" (defScope s_hits) s.heap.objs.size f cdv))) :
    SSs (cxOf L2.CX0 P w K mg base N_hits "hits" (defScope s_hits) f cdv A outer s H E).nox (defBody s_hits) (t_hits) := by
  have nd : N_hits.Nodup := sc_hits.nd
  exact ss_cons (ss_par 2 3 rfl nd (sa_cons (s_lstO (sa_nil)) (sa_cons (sv 1) (sa_nil))))
      (ss_cons (ss_for PassesOwn.never rfl (si_seq (sv 0)) (sg 4 nd) (ss_cons (ss_expr (s_bm PySem.F.plainAttrs_list PySem.F.slot_list_append m_append (sv 2) (sa_cons (s_op o_and (sv 3) (sv 4)) sa_nil) PySem.F.type_list_append))
      (ss_cons (ss_aug 3 nd i_and (s_un u_inv (sv 4)))
      (ss_nil))))
      (ss_frz 2 (ss_cons (ss_ret (s_tup (sa_cons (sv 2) (sa_cons (sv 3) (sa_nil)))))
      (ss_nil))))
theorem ok_hits (T : Txt K mg) {f : Addr} {fd : FuncData} {sp : CSp} (F : FnF K mg "hits" s_hits f fd ["masks", "everything"]) (pl : PL N_hits ["masks", "everything"] sp (t_hits)) : FnG P w K mg base L2.CX0 (k + 1) f fd ["masks", "everything"] sp :=
  fn_mk F.F sc_hits pl.mono pl.len (fun cdv A outer s H E hr => bd_hits T hr) pl.go
def b_hits : MS :=
  mSeq (mParO 2 3 (moN (mLst (mNil)) (moP (mVar 1) (moNil))))
      (mSeq (mFor (mSeqI (mVar 0)) (mgName 4) (mSeq (mAppend 2 (mOp fBand (mVar 3) (mVar 4)))
      (mSeq (mAug 3 (mUn fInv (mVar 4)) fBand)
      (mNext))) [4])
      (mFrz 2 (mSeq (mRet (mTup (mCons (mVar 2) (mCons (mVar 3) (mNil)))))
      (mNext))))
theorem es_hits : EvS (t_hits) (b_hits) :=
  es_seq (es_parO (ao_n (en_lst (ea_nil)) (ao_p (ev_var) (ao_nil))))
      (es_seq (es_for (vs := [4]) (ei_seq (ev_var)) (eg_name) (es_seq (es_append (ev_op e2_band (ev_var) (ev_var)))
      (es_seq (es_aug e2_iand (ev_un e1_inv (ev_var)))
      (es_next))))
      (es_frz (es_seq (es_ret (ev_tup (ea_cons (ev_var) (ea_cons (ev_var) (ea_nil)))))
      (es_next))))
theorem mst_hits {a0 a1 : Cv} : mstart N_hits [a0, a1] = [.pl a0, .pl a1, .no, .no, .no] := rfl
def m_hits (us : List Cv) : Option Cv := outM (b_hits) (mstart N_hits us)
abbrev N_all_numbers : List Str := ["rules"]
theorem sc_all_numbers : FnScope N_all_numbers ["rules"] (defScope s_all_numbers) := ⟨rfl, rfl, rfl, by decide +kernel, rfl, by decide +kernel, by decide +kernel⟩
def t_all_numbers (sp_bound : CSp) (sp_period : CSp) : CS :=
  cSeq (cRet (cOp cSub (cOp cShl (cC (.int 1)) (cOp cAdd (cCall sp_bound X0 (cCons (cVar 0) (cNil))) (cCall sp_period X0 (cCons (cVar 0) (cNil))))) (cC (.int 1))))
      (cNext)
theorem bd_all_numbers (T : Txt K mg) {f_bound : Addr} {fd_bound : FuncData} {sp_bound : CSp} (F_bound : FnF K mg "bound" s_bound f_bound fd_bound ["rules"]) (C_bound : FnG P w K mg base L2.CX0 k f_bound fd_bound ["rules"] sp_bound) {f_period : Addr} {fd_period : FuncData} {sp_period : CSp} (F_period : FnF K mg "period" s_period f_period fd_period ["rules"]) (C_period : FnG P w K mg base L2.CX0 k f_period fd_period ["rules"] sp_period) {f : Addr} {cdv : Value} {A : Around} {outer : List PySem.Env} {s : Shared} {H : Hp} {E : XK} (hr : RoomG k (A.deeper (envOfC "all_numbers" (defScope s_all_numbers) s.heap.objs.size f cdv))) :
    SSs (cxOf L2.CX0 P w K mg base N_all_numbers "all_numbers" (defScope s_all_numbers) f cdv A outer s H E).nox (defBody s_all_numbers) (t_all_numbers sp_bound sp_period) := by
  have nd : N_all_numbers.Nodup := sc_all_numbers.nd
  exact ss_cons (ss_ret (s_op o_sub (s_op o_shl (s_int) (s_op o_add (s_call C_bound hr F_bound.m F_bound.k F_bound.b (sa_cons (sv 0) (sa_nil))) (s_call C_period hr F_period.m F_period.k F_period.b (sa_cons (sv 0) (sa_nil))))) (s_int)))
      (ss_nil)
theorem ok_all_numbers (T : Txt K mg) {f_bound : Addr} {fd_bound : FuncData} {sp_bound : CSp} (F_bound : FnF K mg "bound" s_bound f_bound fd_bound ["rules"]) (C_bound : FnG P w K mg base L2.CX0 k f_bound fd_bound ["rules"] sp_bound) {f_period : Addr} {fd_period : FuncData} {sp_period : CSp} (F_period : FnF K mg "period" s_period f_period fd_period ["rules"]) (C_period : FnG P w K mg base L2.CX0 k f_period fd_period ["rules"] sp_period) {f : Addr} {fd : FuncData} {sp : CSp} (F : FnF K mg "all_numbers" s_all_numbers f fd ["rules"]) (pl : PL N_all_numbers ["rules"] sp (t_all_numbers sp_bound sp_period)) : FnG P w K mg base L2.CX0 (k + 1) f fd ["rules"] sp :=
  fn_mk F.F sc_all_numbers pl.mono pl.len (fun cdv A outer s H E hr => bd_all_numbers T F_bound C_bound F_period C_period hr) pl.go
def b_all_numbers (m_bound : List Cv → Option Cv) (m_period : List Cv → Option Cv) : MS :=
  mSeq (mRet (mOp fSub (mOp fShlW (mC (.int 1)) (mOp fAdd (mCB (arg 1 m_bound) (mCons (mVar 0) (mNil))) (mCB (arg 1 m_period) (mCons (mVar 0) (mNil))))) (mC (.int 1))))
      (mNext)
theorem es_all_numbers {m_bound : List Cv → Option Cv} {m_period : List Cv → Option Cv} : EvS (t_all_numbers (spM 1 m_bound) (spM 1 m_period)) (b_all_numbers m_bound m_period) :=
  es_seq (es_ret (ev_op e2_sub (ev_op e2_shlW (ev_c) (ev_op e2_add (ev_call (ea_cons (ev_var) (ea_nil))) (ev_call (ea_cons (ev_var) (ea_nil))))) (ev_c)))
      (es_next)
theorem mst_all_numbers {a0 : Cv} : mstart N_all_numbers [a0] = [.pl a0] := rfl
def m_all_numbers (us : List Cv) : Option Cv := outM (b_all_numbers m_bound m_period) (mstart N_all_numbers us)
abbrev N_dead_rows : List Str := ["rules", "taken", "left", "index", "mask"]
theorem sc_dead_rows : FnScope N_dead_rows ["rules"] (defScope s_dead_rows) := ⟨rfl, rfl, rfl, by decide +kernel, rfl, by decide +kernel, by decide +kernel⟩
def t_dead_rows (sp_hits : CSp) (sp_all_numbers : CSp) (sp_row_masks : CSp) : CS :=
  cSeq (cAsg (cCall sp_hits X0 (cCons (cCall sp_row_masks X0 (cCons (cVar 0) (cNil))) (cCons (cCall sp_all_numbers X0 (cCons (cVar 0) (cNil))) (cNil)))) (cgTup 2 (cgCons (cgName 1) (cgCons (cgName 2) (cgNil)))))
      (cSeq (cRet (cCB cTupleOf (cCons (cLc (cEnumI (cCons (cVar 1) (cNil))) (cgTup 2 (cgCons (cgName 3) (cgCons (cgName 4) (cgNil)))) (cB (cOp cEq (cVar 4) (cC (.int 0)))) (cVar 3) [3, 4]) (cNil))))
      (cNext))
theorem bd_dead_rows (T : Txt K mg) {f_hits : Addr} {fd_hits : FuncData} {sp_hits : CSp} (F_hits : FnF K mg "hits" s_hits f_hits fd_hits ["masks", "everything"]) (C_hits : FnG P w K mg base L2.CX0 k f_hits fd_hits ["masks", "everything"] sp_hits) {f_all_numbers : Addr} {fd_all_numbers : FuncData} {sp_all_numbers : CSp} (F_all_numbers : FnF K mg "all_numbers" s_all_numbers f_all_numbers fd_all_numbers ["rules"]) (C_all_numbers : FnG P w K mg base L2.CX0 k f_all_numbers fd_all_numbers ["rules"] sp_all_numbers) {f_row_masks : Addr} {fd_row_masks : FuncData} {sp_row_masks : CSp} (F_row_masks : FnF K mg "row_masks" s_row_masks f_row_masks fd_row_masks ["rules"]) (C_row_masks : FnG P w K mg base L2.CX0 k f_row_masks fd_row_masks ["rules"] sp_row_masks) {f : Addr} {cdv : Value} {A : Around} {outer : List PySem.Env} {s : Shared} {H : Hp} {E : XK} (hr : RoomG k (A.deeper (envOfC "dead_rows" (defScope s_dead_rows) s.heap.objs.size f cdv))) :
    SSs (cxOf L2.CX0 P w K mg base N_dead_rows "dead_rows" (defScope s_dead_rows) f cdv A outer s H E).nox (defBody s_dead_rows) (t_dead_rows sp_hits sp_all_numbers sp_row_masks) := by
  have nd : N_dead_rows.Nodup := sc_dead_rows.nd
  exact ss_cons (ss_asg (s_call C_hits hr F_hits.m F_hits.k F_hits.b (sa_cons (s_call C_row_masks hr F_row_masks.m F_row_masks.k F_row_masks.b (sa_cons (sv 0) (sa_nil))) (sa_cons (s_call C_all_numbers hr F_all_numbers.m F_all_numbers.k F_all_numbers.b (sa_cons (sv 0) (sa_nil))) (sa_nil)))) (sg_tup rfl (sgs_cons (sg 1 nd) (sgs_cons (sg 2 nd) (sgs_nil)))))
      (ss_cons (ss_ret (s_callT b_tuple T.b_tuple (sa_cons (s_lc rfl nd (si_enum rfl T.b_enumerate (sa_cons (sv 1) (sa_nil))) (own := [("index", 3), ("mask", 4)]) (blkOk_by (N := N_dead_rows) (sc := defScope s_dead_rows) (by decide +kernel)) (fun _ _ _ _ _ => sg_tup rfl (sgs_cons (sg 3 nd) (sgs_cons (sg 4 nd) (sgs_nil)))) (fun _ _ _ _ _ => sts_one (st_cmp (o_eq hr.u4) (sv 4) (s_int))) (fun _ _ _ _ _ => sv 3)) (sa_nil))))
      (ss_nil))
theorem ok_dead_rows (T : Txt K mg) {f_hits : Addr} {fd_hits : FuncData} {sp_hits : CSp} (F_hits : FnF K mg "hits" s_hits f_hits fd_hits ["masks", "everything"]) (C_hits : FnG P w K mg base L2.CX0 k f_hits fd_hits ["masks", "everything"] sp_hits) {f_all_numbers : Addr} {fd_all_numbers : FuncData} {sp_all_numbers : CSp} (F_all_numbers : FnF K mg "all_numbers" s_all_numbers f_all_numbers fd_all_numbers ["rules"]) (C_all_numbers : FnG P w K mg base L2.CX0 k f_all_numbers fd_all_numbers ["rules"] sp_all_numbers) {f_row_masks : Addr} {fd_row_masks : FuncData} {sp_row_masks : CSp} (F_row_masks : FnF K mg "row_masks" s_row_masks f_row_masks fd_row_masks ["rules"]) (C_row_masks : FnG P w K mg base L2.CX0 k f_row_masks fd_row_masks ["rules"] sp_row_masks) {f : Addr} {fd : FuncData} {sp : CSp} (F : FnF K mg "dead_rows" s_dead_rows f fd ["rules"]) (pl : PL N_dead_rows ["rules"] sp (t_dead_rows sp_hits sp_all_numbers sp_row_masks)) : FnG P w K mg base L2.CX0 (k + 1) f fd ["rules"] sp :=
  fn_mk F.F sc_dead_rows pl.mono pl.len (fun cdv A outer s H E hr => bd_dead_rows T F_hits C_hits F_all_numbers C_all_numbers F_row_masks C_row_masks hr) pl.go
def b_dead_rows (m_hits : List Cv → Option Cv) (m_all_numbers : List Cv → Option Cv) (m_row_masks : List Cv → Option Cv) : MS :=
  mSeq (mAsg (mCB (arg 2 m_hits) (mCons (mCB (arg 1 m_row_masks) (mCons (mVar 0) (mNil))) (mCons (mCB (arg 1 m_all_numbers) (mCons (mVar 0) (mNil))) (mNil)))) (mgTup 2 (mgCons (mgName 1) (mgCons (mgName 2) (mgNil)))))
      (mSeq (mRet (mCB fTupleOf (mCons (mLc (mEnumI (mCons (mVar 1) (mNil))) (mgTup 2 (mgCons (mgName 3) (mgCons (mgName 4) (mgNil)))) (mB (mOp fEq (mVar 4) (mC (.int 0)))) (mVar 3) [3, 4]) (mNil))))
      (mNext))
theorem es_dead_rows {m_hits : List Cv → Option Cv} {m_all_numbers : List Cv → Option Cv} {m_row_masks : List Cv → Option Cv} : EvS (t_dead_rows (spM 2 m_hits) (spM 1 m_all_numbers) (spM 1 m_row_masks)) (b_dead_rows m_hits m_all_numbers m_row_masks) :=
  es_seq (es_asg (ev_call (ea_cons (ev_call (ea_cons (ev_var) (ea_nil))) (ea_cons (ev_call (ea_cons (ev_var) (ea_nil))) (ea_nil)))) (eg_tup (eg_cons (eg_name) (eg_cons (eg_name) (eg_nil)))))
      (es_seq (es_ret (ev_cb ec_tuple (ea_cons (ev_lc (ei_enum (ea_cons (ev_var) (ea_nil))) (eg_tup (eg_cons (eg_name) (eg_cons (eg_name) (eg_nil)))) (et_b (ev_op e2_eqB (ev_var) (ev_c))) (ev_var)) (ea_nil))))
      (es_next))
theorem mst_dead_rows {a0 : Cv} : mstart N_dead_rows [a0] = [.pl a0, .no, .no, .no, .no] := rfl
def m_dead_rows (us : List Cv) : Option Cv := outM (b_dead_rows m_hits m_all_numbers m_row_masks) (mstart N_dead_rows us)
abbrev N__law_pot : List Str := ["_law_script", "_law_k", "_law_cell", "_law_own"]
theorem sc__law_pot : FnScope N__law_pot ["_law_script", "_law_k"] (defScope s__law_pot) := ⟨rfl, rfl, rfl, by decide +kernel, rfl, by decide +kernel, by decide +kernel⟩
def t__law_pot : CS :=
  cSeq (cAsg (cIf (cB (cOp cLt (cVar 1) (cCB cLen (cCons (cVar 0) (cNil))))) (cOp cIx (cVar 0) (cVar 1)) (cOp cAdd (cOp cMulA (cC (.int 23)) (cVar 1)) (cC (.int 6)))) (cgName 2))
      (cSeq (cAsg (cOp cMulA (cOp cMod (cCB cAbs (cCons (cVar 2) (cNil))) (cOp cPow (cOp cPow (cC (.int 10)) (cC (.int 60))) (cC (.int 5)))) (cCB cInt (cCons (cOp cGe (cCB cAbs (cCons (cVar 2) (cNil))) (cOp cPow (cC (.int 10)) (cC (.int 18)))) (cNil)))) (cgName 3))
      (cSeq (cRet (cLstO (cCons (cVar 3) (cCons (cOp cMod (cOp cAdd (cOp cAdd (cOp cMulA (cOp cMod (cVar 2) (cC (.int 2305843009213693951))) (cC (.int 68917))) (cOp cMulA (cOp cMulA (cC (.int 7919)) (cVar 1)) (cVar 1))) (cC (.int 47))) (cC (.int 2305843009213693921))) (cCons (cC (.int 0)) (cNil))))))
      (cNext)))
theorem bd__law_pot (T : Txt K mg) {f : Addr} {cdv : Value} {A : Around} {outer : List PySem.Env} {s : Shared} {H : Hp} {E : XK} (hr : RoomG k (A.deeper (envOfC "_law_pot" (defScope s__law_pot) s.heap.objs.size f cdv))) :
    SSs (cxOf L2.CX0 P w K mg base N__law_pot "_law_pot" (defScope s__law_pot) f cdv A outer s H E).nox (defBody s__law_pot) (t__law_pot) := by
  have nd : N__law_pot.Nodup := sc__law_pot.nd
  exact ss_cons (ss_set 2 nd (s_ifExp (st_cmp o_lt (sv 1) (s_callB b_len T.b_len (sa_cons (sv 0) (sa_nil)))) (s_ix x_ix (sv 0) (sv 1)) (s_op o_add (s_op o_mulA (s_int) (sv 1)) (s_int))))
      (ss_cons (ss_set 3 nd (s_op o_mulA (s_op o_mod (s_callB b_abs T.b_abs (sa_cons (sv 2) (sa_nil))) (s_op o_pow (s_op o_pow (s_int) (s_int)) (s_int))) (s_callT b_int T.b_int (sa_cons (s_cmp o_ge (s_callB b_abs T.b_abs (sa_cons (sv 2) (sa_nil))) (s_op o_pow (s_int) (s_int))) (sa_nil)))))
      (ss_cons (ss_ret (s_lstO (sa_cons (sv 3) (sa_cons (s_op o_mod (s_op o_add (s_op o_add (s_op o_mulA (s_op o_mod (sv 2) (s_int)) (s_int)) (s_op o_mulA (s_op o_mulA (s_int) (sv 1)) (sv 1))) (s_int)) (s_int)) (sa_cons (s_int) (sa_nil))))))
      (ss_nil)))
theorem ok__law_pot (T : Txt K mg) {f : Addr} {fd : FuncData} {sp : CSp} (F : FnF K mg "_law_pot" s__law_pot f fd ["_law_script", "_law_k"]) (pl : PL N__law_pot ["_law_script", "_law_k"] sp (t__law_pot)) : FnG P w K mg base L2.CX0 (k + 1) f fd ["_law_script", "_law_k"] sp :=
  fn_mk F.F sc__law_pot pl.mono pl.len (fun cdv A outer s H E hr => bd__law_pot T hr) pl.go
def b__law_pot : XS :=
  xSeq (xAsg (xp (mIf (mB (mOp fLt (mVar 1) (mCB fLen (mCons (mVar 0) (mNil))))) (mOp fIx (mVar 0) (mVar 1)) (mOp fAdd (mOp fMulA (mC (.int 23)) (mVar 1)) (mC (.int 6))))) (mgName 2))
      (xSeq (xAsg (xp (mOp fMulA (mOp fMod (mCB fAbs (mCons (mVar 2) (mNil))) (mOp fPow (mOp fPow (mC (.int 10)) (mC (.int 60))) (mC (.int 5)))) (mCB fInt (mCons (mOp fGe (mCB fAbs (mCons (mVar 2) (mNil))) (mOp fPow (mC (.int 10)) (mC (.int 18)))) (mNil))))) (mgName 3))
      (xSeq (xRetO (xp (mLst (mCons (mVar 3) (mCons (mOp fMod (mOp fAdd (mOp fAdd (mOp fMulA (mOp fMod (mVar 2) (mC (.int 2305843009213693951))) (mC (.int 68917))) (mOp fMulA (mOp fMulA (mC (.int 7919)) (mVar 1)) (mVar 1))) (mC (.int 47))) (mC (.int 2305843009213693921))) (mCons (mC (.int 0)) (mNil)))))))
      (xNext)))
theorem es__law_pot : EvXS pN WF (t__law_pot) (b__law_pot) :=
  CL.ss_seq (ss_asgX (ex_p (ev_if (et_b (ev_op e2_lt (ev_var) (ev_cb ec_len (ea_cons (ev_var) (ea_nil))))) (ev_op e2_ix (ev_var) (ev_var)) (ev_op e2_add (ev_op e2_mulA (ev_c) (ev_var)) (ev_c)))) xg_name)
      (CL.ss_seq (ss_asgX (ex_p (ev_op e2_mulA (ev_op e2_mod (ev_cb ec_abs (ea_cons (ev_var) (ea_nil))) (ev_op e2_pow (ev_op e2_pow (ev_c) (ev_c)) (ev_c))) (ev_cb ec_int (ea_cons (ev_op e2_ge (ev_cb ec_abs (ea_cons (ev_var) (ea_nil))) (ev_op e2_pow (ev_c) (ev_c))) (ea_nil))))) xg_name)
      (CL.ss_seq (ss_retO (xn_p (en_lst (ea_cons (ev_var) (ea_cons (ev_op e2_mod (ev_op e2_add (ev_op e2_add (ev_op e2_mulA (ev_op e2_mod (ev_var) (ev_c)) (ev_c)) (ev_op e2_mulA (ev_op e2_mulA (ev_c) (ev_var)) (ev_var))) (ev_c)) (ev_c)) (ea_cons (ev_c) (ea_nil)))))))
      (CL.ss_next)))
theorem mst__law_pot {a0 a1 : Cv} : mstart N__law_pot [a0, a1] = [.pl a0, .pl a1, .no, .no] := rfl
def m__law_pot (us : List Cv) : Option Cv := runN N__law_pot (b__law_pot) us
abbrev N__law_take : List Str := ["_law_pot_here", "_law_upto", "_law_digit", "_law_prime", "_law_mixed"]
theorem sc__law_take : FnScope N__law_take ["_law_pot_here", "_law_upto"] (defScope s__law_take) := ⟨rfl, rfl, rfl, by decide +kernel, rfl, by decide +kernel, by decide +kernel⟩
def t__law_take : CS :=
  cSeq (cIfS (cReadT (cB (cOp cGt (cOp cIx (cVar 0) (cC (.int 0))) (cC (.int 0))))) (cSeq (cAsg (cRead (cOp cMod (cOp cIx (cVar 0) (cC (.int 0))) (cVar 1))) (cgName 2))
      (cSeq (cSetL (cVar 0) (cC (.int 0)) (cRead (cOp cFd (cOp cIx (cVar 0) (cC (.int 0))) (cVar 1))))
      (cSeq (cRet (cVar 2))
      (cNext)))) (cNext))
      (cSeq (cSetL (cVar 0) (cC (.int 2)) (cRead (cOp cAdd (cOp cIx (cVar 0) (cC (.int 2))) (cC (.int 1)))))
      (cSeq (cAsg (cRead (cOp cIx (cLst (cCons (cC (.int 2147483647)) (cCons (cC (.int 2147483629)) (cCons (cC (.int 2147483587)) (cCons (cC (.int 2147483579)) (cCons (cC (.int 2147483563)) (cNil))))))) (cOp cMod (cOp cIx (cVar 0) (cC (.int 2))) (cC (.int 5))))) (cgName 3))
      (cSeq (cAsg (cRead (cOp cMod (cOp cPow (cOp cAdd (cOp cAdd (cOp cIx (cVar 0) (cC (.int 1))) (cOp cMulA (cOp cMulA (cC (.int 99989)) (cOp cIx (cVar 0) (cC (.int 2)))) (cOp cIx (cVar 0) (cC (.int 2))))) (cC (.int 31))) (cC (.int 3))) (cVar 3))) (cgName 4))
      (cSeq (cRet (cRead (cOp cMod (cOp cFd (cOp cMod (cOp cMulA (cVar 4) (cOp cAdd (cOp cMod (cVar 4) (cC (.int 10007))) (cOp cMulA (cC (.int 79)) (cOp cIx (cVar 0) (cC (.int 2)))))) (cC (.int 2305843009213693907))) (cC (.int 101))) (cVar 1))))
      (cNext)))))
theorem bd__law_take (T : Txt K mg) {f : Addr} {cdv : Value} {A : Around} {outer : List PySem.Env} {s : Shared} {H : Hp} {E : XK} (hr : RoomG k (A.deeper (envOfC "_law_take" (defScope s__law_take) s.heap.objs.size f cdv))) :
    SSs (cxOf L2.CX0 P w K mg base N__law_take "_law_take" (defScope s__law_take) f cdv A outer s H E).nox (defBody s__law_take) (t__law_take) := by
  have nd : N__law_take.Nodup := sc__law_take.nd
  exact ss_cons (ss_if (st_bor (st_cmp o_gt (s_ix x_ix (sv 0) (s_int)) (s_int))) (ss_cons (ss_set 2 nd (s_bor (s_op o_mod (s_ix x_ix (sv 0) (s_int)) (sv 1))))
      (ss_cons (ss_setL (sv 0) (s_int) (s_bor (s_op o_fdiv (s_ix x_ix (sv 0) (s_int)) (sv 1))))
      (ss_cons (ss_ret (sv 2))
      (ss_nil)))) (ss_nil))
      (ss_cons (ss_setL (sv 0) (s_int) (s_bor (s_op o_add (s_ix x_ix (sv 0) (s_int)) (s_int))))
      (ss_cons (ss_set 3 nd (s_bor (s_ix x_ix (s_lst (sa_cons (s_int) (sa_cons (s_int) (sa_cons (s_int) (sa_cons (s_int) (sa_cons (s_int) (sa_nil))))))) (s_op o_mod (s_ix x_ix (sv 0) (s_int)) (s_int)))))
      (ss_cons (ss_set 4 nd (s_bor (s_op o_mod (s_op o_pow (s_op o_add (s_op o_add (s_ix x_ix (sv 0) (s_int)) (s_op o_mulA (s_op o_mulA (s_int) (s_ix x_ix (sv 0) (s_int))) (s_ix x_ix (sv 0) (s_int)))) (s_int)) (s_int)) (sv 3))))
      (ss_cons (ss_ret (s_bor (s_op o_mod (s_op o_fdiv (s_op o_mod (s_op o_mulA (sv 4) (s_op o_add (s_op o_mod (sv 4) (s_int)) (s_op o_mulA (s_int) (s_ix x_ix (sv 0) (s_int))))) (s_int)) (s_int)) (sv 1))))
      (ss_nil)))))
theorem ok__law_take (T : Txt K mg) {f : Addr} {fd : FuncData} {sp : CSp} (F : FnF K mg "_law_take" s__law_take f fd ["_law_pot_here", "_law_upto"]) (pl : PL N__law_take ["_law_pot_here", "_law_upto"] sp (t__law_take)) : FnG P w K mg base L2.CX0 (k + 1) f fd ["_law_pot_here", "_law_upto"] sp :=
  fn_mk F.F sc__law_take pl.mono pl.len (fun cdv A outer s H E hr => bd__law_take T hr) pl.go
def b__law_take : XS :=
  xSeq (xIfS (xpT (mBorT (mB (mOp fGt (mOp fIx (mVar 0) (mC (.int 0))) (mC (.int 0)))))) (xSeq (xAsg (xp (mBor (mOp fMod (mOp fIx (mVar 0) (mC (.int 0))) (mVar 1)))) (mgName 2))
      (xSeq (xSetL 0 (xp (mC (.int 0))) (xp (mBor (mOp fFd (mOp fIx (mVar 0) (mC (.int 0))) (mVar 1)))))
      (xSeq (xRet (xp (mVar 2)))
      (xNext)))) (xNext))
      (xSeq (xSetL 0 (xp (mC (.int 2))) (xp (mBor (mOp fAdd (mOp fIx (mVar 0) (mC (.int 2))) (mC (.int 1))))))
      (xSeq (xAsg (xp (mBor (mOp fIx (mLst (mCons (mC (.int 2147483647)) (mCons (mC (.int 2147483629)) (mCons (mC (.int 2147483587)) (mCons (mC (.int 2147483579)) (mCons (mC (.int 2147483563)) (mNil))))))) (mOp fMod (mOp fIx (mVar 0) (mC (.int 2))) (mC (.int 5)))))) (mgName 3))
      (xSeq (xAsg (xp (mBor (mOp fMod (mOp fPow (mOp fAdd (mOp fAdd (mOp fIx (mVar 0) (mC (.int 1))) (mOp fMulA (mOp fMulA (mC (.int 99989)) (mOp fIx (mVar 0) (mC (.int 2)))) (mOp fIx (mVar 0) (mC (.int 2))))) (mC (.int 31))) (mC (.int 3))) (mVar 3)))) (mgName 4))
      (xSeq (xRet (xp (mBor (mOp fMod (mOp fFd (mOp fMod (mOp fMulA (mVar 4) (mOp fAdd (mOp fMod (mVar 4) (mC (.int 10007))) (mOp fMulA (mC (.int 79)) (mOp fIx (mVar 0) (mC (.int 2)))))) (mC (.int 2305843009213693907))) (mC (.int 101))) (mVar 1)))))
      (xNext)))))
theorem es__law_take : EvXS p0 WF (t__law_take) (b__law_take) :=
  CL.ss_seq (ss_ifX (xt_p (et_bor (et_b (ev_op e2_gt (ev_op e2_ix (ev_var) (ev_c)) (ev_c))))) (CL.ss_seq (ss_asgX (ex_p (ev_bor (ev_op e2_mod (ev_op e2_ix (ev_var) (ev_c)) (ev_var)))) xg_name)
      (CL.ss_seq (ss_setLX (ex_p (ev_c)) (ex_p (ev_bor (ev_op e2_fd (ev_op e2_ix (ev_var) (ev_c)) (ev_var)))))
      (CL.ss_seq (ss_ret' (ex_p (ev_var)))
      (CL.ss_next)))) (CL.ss_next))
      (CL.ss_seq (ss_setLX (ex_p (ev_c)) (ex_p (ev_bor (ev_op e2_add (ev_op e2_ix (ev_var) (ev_c)) (ev_c)))))
      (CL.ss_seq (ss_asgX (ex_p (ev_bor (ev_op e2_ix (ev_lst (ea_cons (ev_c) (ea_cons (ev_c) (ea_cons (ev_c) (ea_cons (ev_c) (ea_cons (ev_c) (ea_nil))))))) (ev_op e2_mod (ev_op e2_ix (ev_var) (ev_c)) (ev_c))))) xg_name)
      (CL.ss_seq (ss_asgX (ex_p (ev_bor (ev_op e2_mod (ev_op e2_pow (ev_op e2_add (ev_op e2_add (ev_op e2_ix (ev_var) (ev_c)) (ev_op e2_mulA (ev_op e2_mulA (ev_c) (ev_op e2_ix (ev_var) (ev_c))) (ev_op e2_ix (ev_var) (ev_c)))) (ev_c)) (ev_c)) (ev_var)))) xg_name)
      (CL.ss_seq (ss_ret' (ex_p (ev_bor (ev_op e2_mod (ev_op e2_fd (ev_op e2_mod (ev_op e2_mulA (ev_var) (ev_op e2_add (ev_op e2_mod (ev_var) (ev_c)) (ev_op e2_mulA (ev_c) (ev_op e2_ix (ev_var) (ev_c))))) (ev_c)) (ev_c)) (ev_var)))))
      (CL.ss_next)))))
theorem mst__law_take {a0 a1 : Cv} : xstart N__law_take a0 [a1] = [.ow a0, .pl a1, .no, .no, .no] := rfl
def m__law_take (us : List Cv) : Option (Cv × Cv) := runP N__law_take (b__law_take) us
abbrev N__law_of : List Str := ["_law_pot_here", "_law_some"]
theorem sc__law_of : FnScope N__law_of ["_law_pot_here", "_law_some"] (defScope s__law_of) := ⟨rfl, rfl, rfl, by decide +kernel, rfl, by decide +kernel, by decide +kernel⟩
def t__law_of (sp__law_take : CSp) : CS :=
  cSeq (cRet (cOp cIx (cVar 1) (cCall sp__law_take X0 (cCons (cVar 0) (cCons (cCB cLen (cCons (cVar 1) (cNil))) (cNil))))))
      (cNext)
theorem bd__law_of (T : Txt K mg) {f__law_take : Addr} {fd__law_take : FuncData} {sp__law_take : CSp} (F__law_take : FnF K mg "_law_take" s__law_take f__law_take fd__law_take ["_law_pot_here", "_law_upto"]) (C__law_take : FnG P w K mg base L2.CX0 k f__law_take fd__law_take ["_law_pot_here", "_law_upto"] sp__law_take) {f : Addr} {cdv : Value} {A : Around} {outer : List PySem.Env} {s : Shared} {H : Hp} {E : XK} (hr : RoomG k (A.deeper (envOfC "_law_of" (defScope s__law_of) s.heap.objs.size f cdv))) :
    SSs (cxOf L2.CX0 P w K mg base N__law_of "_law_of" (defScope s__law_of) f cdv A outer s H E).nox (defBody s__law_of) (t__law_of sp__law_take) := by
  have nd : N__law_of.Nodup := sc__law_of.nd
  exact ss_cons (ss_ret (s_ix x_ix (sv 1) (s_call C__law_take hr F__law_take.m F__law_take.k F__law_take.b (sa_cons (sv 0) (sa_cons (s_callB b_len T.b_len (sa_cons (sv 1) (sa_nil))) (sa_nil))))))
      (ss_nil)
theorem ok__law_of (T : Txt K mg) {f__law_take : Addr} {fd__law_take : FuncData} {sp__law_take : CSp} (F__law_take : FnF K mg "_law_take" s__law_take f__law_take fd__law_take ["_law_pot_here", "_law_upto"]) (C__law_take : FnG P w K mg base L2.CX0 k f__law_take fd__law_take ["_law_pot_here", "_law_upto"] sp__law_take) {f : Addr} {fd : FuncData} {sp : CSp} (F : FnF K mg "_law_of" s__law_of f fd ["_law_pot_here", "_law_some"]) (pl : PL N__law_of ["_law_pot_here", "_law_some"] sp (t__law_of sp__law_take)) : FnG P w K mg base L2.CX0 (k + 1) f fd ["_law_pot_here", "_law_some"] sp :=
  fn_mk F.F sc__law_of pl.mono pl.len (fun cdv A outer s H E hr => bd__law_of T F__law_take C__law_take hr) pl.go
def b__law_of (m__law_take : List Cv → Option (Cv × Cv)) : XS :=
  xSeq (xRet (xOp fIx (xp (mVar 1)) (xCall 2 0 m__law_take (xCons (xp (mCB fLen (mCons (mVar 1) (mNil)))) (xNil)))))
      (xNext)
theorem es__law_of {m__law_take : List Cv → Option (Cv × Cv)} : EvXS p0 WF (t__law_of (spX 2 m__law_take)) (b__law_of m__law_take) :=
  CL.ss_seq (ss_ret' (ex_op e2_ix (ex_p (ev_var)) (ex_callX (xa_cons (ex_p (ev_cb ec_len (ea_cons (ev_var) (ea_nil)))) (xa_nil)))))
      (CL.ss_next)
theorem mst__law_of {a0 a1 : Cv} : xstart N__law_of a0 [a1] = [.ow a0, .pl a1] := rfl
def m__law_of (us : List Cv) : Option (Cv × Cv) := runP N__law_of (b__law_of m__law_take) us
abbrev N__law_range : List Str := ["_law_pot_here", "_law_moduli", "_law_modulus", "_law_most", "_law_low"]
theorem sc__law_range : FnScope N__law_range ["_law_pot_here", "_law_moduli"] (defScope s__law_range) := ⟨rfl, rfl, rfl, by decide +kernel, rfl, by decide +kernel, by decide +kernel⟩
def t__law_range (sp__law_of : CSp) (sp__law_take : CSp) : CS :=
  cSeq (cAsg (cCall sp__law_of X0 (cCons (cVar 0) (cCons (cVar 1) (cNil)))) (cgName 2))
      (cSeq (cAsg (cIf (cB (cOp cGt (cVar 2) (cC (.int 0)))) (cOp cSub (cVar 2) (cC (.int 1))) (cCall sp__law_of X0 (cCons (cVar 0) (cCons (cLst (cCons (cC (.int 2)) (cCons (cC (.int 3)) (cCons (cC (.int 5)) (cCons (cC (.int 12)) (cCons (cC (.int 12)) (cCons (cC (.int 30)) (cCons (cC (.int 101)) (cCons (cC (.int 999)) (cNil)))))))))) (cNil))))) (cgName 3))
      (cSeq (cAsg (cCall sp__law_take X0 (cCons (cVar 0) (cCons (cOp cAdd (cVar 3) (cC (.int 1))) (cNil)))) (cgName 4))
      (cSeq (cRet (cTup (cCons (cC (.str "in")) (cCons (cVar 2) (cCons (cVar 4) (cCons (cCB cMin (cCons (cVar 3) (cCons (cOp cAdd (cVar 4) (cCall sp__law_of X0 (cCons (cVar 0) (cCons (cLst (cCons (cC (.int 0)) (cCons (cC (.int 0)) (cCons (cC (.int 1)) (cCons (cC (.int 2)) (cCons (cCall sp__law_take X0 (cCons (cVar 0) (cCons (cOp cAdd (cVar 3) (cC (.int 1))) (cNil)))) (cNil))))))) (cNil))))) (cNil)))) (cNil)))))))
      (cNext))))
theorem bd__law_range (T : Txt K mg) {f__law_of : Addr} {fd__law_of : FuncData} {sp__law_of : CSp} (F__law_of : FnF K mg "_law_of" s__law_of f__law_of fd__law_of ["_law_pot_here", "_law_some"]) (C__law_of : FnG P w K mg base L2.CX0 k f__law_of fd__law_of ["_law_pot_here", "_law_some"] sp__law_of) {f__law_take : Addr} {fd__law_take : FuncData} {sp__law_take : CSp} (F__law_take : FnF K mg "_law_take" s__law_take f__law_take fd__law_take ["_law_pot_here", "_law_upto"]) (C__law_take : FnG P w K mg base L2.CX0 k f__law_take fd__law_take ["_law_pot_here", "_law_upto"] sp__law_take) {f : Addr} {cdv : Value} {A : Around} {outer : List PySem.Env} {s : Shared} {H : Hp} {E : XK} (hr : RoomG k (A.deeper (envOfC "_law_range" (defScope s__law_range) s.heap.objs.size f cdv))) :
    SSs (cxOf L2.CX0 P w K mg base N__law_range "_law_range" (defScope s__law_range) f cdv A outer s H E).nox (defBody s__law_range) (t__law_range sp__law_of sp__law_take) := by
  have nd : N__law_range.Nodup := sc__law_range.nd
  exact ss_cons (ss_set 2 nd (s_call C__law_of hr F__law_of.m F__law_of.k F__law_of.b (sa_cons (sv 0) (sa_cons (sv 1) (sa_nil)))))
      (ss_cons (ss_set 3 nd (s_ifExp (st_cmp o_gt (sv 2) (s_int)) (s_op o_sub (sv 2) (s_int)) (s_call C__law_of hr F__law_of.m F__law_of.k F__law_of.b (sa_cons (sv 0) (sa_cons (s_lst (sa_cons (s_int) (sa_cons (s_int) (sa_cons (s_int) (sa_cons (s_int) (sa_cons (s_int) (sa_cons (s_int) (sa_cons (s_int) (sa_cons (s_int) (sa_nil)))))))))) (sa_nil))))))
      (ss_cons (ss_set 4 nd (s_call C__law_take hr F__law_take.m F__law_take.k F__law_take.b (sa_cons (sv 0) (sa_cons (s_op o_add (sv 3) (s_int)) (sa_nil)))))
      (ss_cons (ss_ret (s_tup (sa_cons (s_str) (sa_cons (sv 2) (sa_cons (sv 4) (sa_cons (s_callB (b_min rfl) T.b_min (sa_cons (sv 3) (sa_cons (s_op o_add (sv 4) (s_call C__law_of hr F__law_of.m F__law_of.k F__law_of.b (sa_cons (sv 0) (sa_cons (s_lst (sa_cons (s_int) (sa_cons (s_int) (sa_cons (s_int) (sa_cons (s_int) (sa_cons (s_call C__law_take hr F__law_take.m F__law_take.k F__law_take.b (sa_cons (sv 0) (sa_cons (s_op o_add (sv 3) (s_int)) (sa_nil)))) (sa_nil))))))) (sa_nil))))) (sa_nil)))) (sa_nil)))))))
      (ss_nil))))
theorem ok__law_range (T : Txt K mg) {f__law_of : Addr} {fd__law_of : FuncData} {sp__law_of : CSp} (F__law_of : FnF K mg "_law_of" s__law_of f__law_of fd__law_of ["_law_pot_here", "_law_some"]) (C__law_of : FnG P w K mg base L2.CX0 k f__law_of fd__law_of ["_law_pot_here", "_law_some"] sp__law_of) {f__law_take : Addr} {fd__law_take : FuncData} {sp__law_take : CSp} (F__law_take : FnF K mg "_law_take" s__law_take f__law_take fd__law_take ["_law_pot_here", "_law_upto"]) (C__law_take : FnG P w K mg base L2.CX0 k f__law_take fd__law_take ["_law_pot_here", "_law_upto"] sp__law_take) {f : Addr} {fd : FuncData} {sp : CSp} (F : FnF K mg "_law_range" s__law_range f fd ["_law_pot_here", "_law_moduli"]) (pl : PL N__law_range ["_law_pot_here", "_law_moduli"] sp (t__law_range sp__law_of sp__law_take)) : FnG P w K mg base L2.CX0 (k + 1) f fd ["_law_pot_here", "_law_moduli"] sp :=
  fn_mk F.F sc__law_range pl.mono pl.len (fun cdv A outer s H E hr => bd__law_range T F__law_of C__law_of F__law_take C__law_take hr) pl.go
def b__law_range (m__law_of : List Cv → Option (Cv × Cv)) (m__law_take : List Cv → Option (Cv × Cv)) : XS :=
  xSeq (xAsg (xCall 2 0 m__law_of (xCons (xp (mVar 1)) (xNil))) (mgName 2))
      (xSeq (xAsg (xIf (xpT (mB (mOp fGt (mVar 2) (mC (.int 0))))) (xp (mOp fSub (mVar 2) (mC (.int 1)))) (xCall 2 0 m__law_of (xCons (xp (mLst (mCons (mC (.int 2)) (mCons (mC (.int 3)) (mCons (mC (.int 5)) (mCons (mC (.int 12)) (mCons (mC (.int 12)) (mCons (mC (.int 30)) (mCons (mC (.int 101)) (mCons (mC (.int 999)) (mNil))))))))))) (xNil)))) (mgName 3))
      (xSeq (xAsg (xCall 2 0 m__law_take (xCons (xp (mOp fAdd (mVar 3) (mC (.int 1)))) (xNil))) (mgName 4))
      (xSeq (xRet (xTup (xCons (xp (mC (.str "in"))) (xCons (xp (mVar 2)) (xCons (xp (mVar 4)) (xCons (xCB fMin (xCons (xp (mVar 3)) (xCons (xOp fAdd (xp (mVar 4)) (xCall 2 0 m__law_of (xCons (xLst (xCons (xp (mC (.int 0))) (xCons (xp (mC (.int 0))) (xCons (xp (mC (.int 1))) (xCons (xp (mC (.int 2))) (xCons (xCall 2 0 m__law_take (xCons (xp (mOp fAdd (mVar 3) (mC (.int 1)))) (xNil))) (xNil))))))) (xNil)))) (xNil)))) (xNil)))))))
      (xNext))))
theorem es__law_range {m__law_of : List Cv → Option (Cv × Cv)} {m__law_take : List Cv → Option (Cv × Cv)} : EvXS p0 WF (t__law_range (spX 2 m__law_of) (spX 2 m__law_take)) (b__law_range m__law_of m__law_take) :=
  CL.ss_seq (ss_asgX (ex_callX (xa_cons (ex_p (ev_var)) (xa_nil))) xg_name)
      (CL.ss_seq (ss_asgX (ex_if (xt_p (et_b (ev_op e2_gt (ev_var) (ev_c)))) (ex_p (ev_op e2_sub (ev_var) (ev_c))) (ex_callX (xa_cons (ex_p (ev_lst (ea_cons (ev_c) (ea_cons (ev_c) (ea_cons (ev_c) (ea_cons (ev_c) (ea_cons (ev_c) (ea_cons (ev_c) (ea_cons (ev_c) (ea_cons (ev_c) (ea_nil))))))))))) (xa_nil)))) xg_name)
      (CL.ss_seq (ss_asgX (ex_callX (xa_cons (ex_p (ev_op e2_add (ev_var) (ev_c))) (xa_nil))) xg_name)
      (CL.ss_seq (ss_ret' (ex_tup (xa_cons (ex_p (ev_c)) (xa_cons (ex_p (ev_var)) (xa_cons (ex_p (ev_var)) (xa_cons (ex_cb ec_min (xa_cons (ex_p (ev_var)) (xa_cons (ex_op e2_add (ex_p (ev_var)) (ex_callX (xa_cons (ex_lst (xa_cons (ex_p (ev_c)) (xa_cons (ex_p (ev_c)) (xa_cons (ex_p (ev_c)) (xa_cons (ex_p (ev_c)) (xa_cons (ex_callX (xa_cons (ex_p (ev_op e2_add (ev_var) (ev_c))) (xa_nil))) (xa_nil))))))) (xa_nil)))) (xa_nil)))) (xa_nil)))))))
      (CL.ss_next))))
theorem mst__law_range {a0 a1 : Cv} : xstart N__law_range a0 [a1] = [.ow a0, .pl a1, .no, .no, .no] := rfl
def m__law_range (us : List Cv) : Option (Cv × Cv) := runP N__law_range (b__law_range m__law_of m__law_take) us
abbrev N__law_condition : List Str := ["_law_pot_here", "_law_moduli", "_law_deep", "_law_way", "_law_parts", "_law_turn"]
theorem sc__law_condition : FnScope N__law_condition ["_law_pot_here", "_law_moduli", "_law_deep"] (defScope s__law_condition) := ⟨rfl, rfl, rfl, by decide +kernel, rfl, by decide +kernel, by decide +kernel⟩
def t__law_condition (sp__law_take : CSp) (sp__law_condition : CSp) (sp__law_range : CSp) : CS :=
  cSeq (cAsg (cIf (cB (cOp cGt (cVar 2) (cC (.int 1)))) (cCall sp__law_take X0 (cCons (cVar 0) (cCons (cC (.int 8)) (cNil)))) (cC (.int 0))) (cgName 3))
      (cSeq (cIfS (cB (cOp cLt (cVar 3) (cC (.int 3)))) (cSeq (cRet (cCall sp__law_range X0 (cCons (cVar 0) (cCons (cVar 1) (cNil)))))
      (cNext)) (cNext))
      (cSeq (cIfS (cB (cOp cEq (cVar 3) (cC (.int 3)))) (cSeq (cRet (cTup (cCons (cC (.str "not")) (cCons (cCall sp__law_condition X0 (cCons (cVar 0) (cCons (cVar 1) (cCons (cOp cSub (cVar 2) (cC (.int 1))) (cNil))))) (cNil)))))
      (cNext)) (cNext))
      (cSeq (cAsg (cLc (cRng1 (cCons (cOp cAdd (cC (.int 1)) (cCall sp__law_take X0 (cCons (cVar 0) (cCons (cC (.int 3)) (cNil))))) (cNil))) (cgName 5) (cYes) (cCall sp__law_condition X0 (cCons (cVar 0) (cCons (cVar 1) (cCons (cOp cSub (cVar 2) (cC (.int 1))) (cNil))))) [5]) (cgName 4))
      (cSeq (cRet (cTup (cCons (cOp cIx (cLst (cCons (cC (.str "all")) (cCons (cC (.str "any")) (cNil)))) (cOp cMod (cVar 3) (cC (.int 2)))) (cCons (cCB cTupleOf (cCons (cVar 4) (cNil))) (cNil)))))
      (cNext)))))
theorem bd__law_condition (T : Txt K mg) {f__law_take : Addr} {fd__law_take : FuncData} {sp__law_take : CSp} (F__law_take : FnF K mg "_law_take" s__law_take f__law_take fd__law_take ["_law_pot_here", "_law_upto"]) (C__law_take : FnG P w K mg base L2.CX0 k f__law_take fd__law_take ["_law_pot_here", "_law_upto"] sp__law_take) {f__law_condition : Addr} {fd__law_condition : FuncData} {sp__law_condition : CSp} (F__law_condition : FnF K mg "_law_condition" s__law_condition f__law_condition fd__law_condition ["_law_pot_here", "_law_moduli", "_law_deep"]) (C__law_condition : FnG P w K mg base L2.CX0 k f__law_condition fd__law_condition ["_law_pot_here", "_law_moduli", "_law_deep"] sp__law_condition) {f__law_range : Addr} {fd__law_range : FuncData} {sp__law_range : CSp} (F__law_range : FnF K mg "_law_range" s__law_range f__law_range fd__law_range ["_law_pot_here", "_law_moduli"]) (C__law_range : FnG P w K mg base L2.CX0 k f__law_range fd__law_range ["_law_pot_here", "_law_moduli"] sp__law_range) {f : Addr} {cdv : Value} {A : Around} {outer : List PySem.Env} {s : Shared} {H : Hp} {E : XK} (hr : RoomG k (A.deeper (envOfC "_law_condition" (defScope s__law_condition) s.heap.objs.size f cdv))) :
    SSs (cxOf L2.CX0 P w K mg base N__law_condition "_law_condition" (defScope s__law_condition) f cdv A outer s H E).nox (defBody s__law_condition) (t__law_condition sp__law_take sp__law_condition sp__law_range) := by
  have nd : N__law_condition.Nodup := sc__law_condition.nd
  exact ss_cons (ss_set 3 nd (s_ifExp (st_cmp o_gt (sv 2) (s_int)) (s_call C__law_take hr F__law_take.m F__law_take.k F__law_take.b (sa_cons (sv 0) (sa_cons (s_int) (sa_nil)))) (s_int)))
      (ss_cons (ss_if (st_cmp o_lt (sv 3) (s_int)) (ss_cons (ss_ret (s_call C__law_range hr F__law_range.m F__law_range.k F__law_range.b (sa_cons (sv 0) (sa_cons (sv 1) (sa_nil)))))
      (ss_nil)) (ss_nil))
      (ss_cons (ss_if (st_cmp (o_eq hr.u4) (sv 3) (s_int)) (ss_cons (ss_ret (s_tup (sa_cons (s_str) (sa_cons (s_call C__law_condition hr F__law_condition.m F__law_condition.k F__law_condition.b (sa_cons (sv 0) (sa_cons (sv 1) (sa_cons (s_op o_sub (sv 2) (s_int)) (sa_nil))))) (sa_nil)))))
      (ss_nil)) (ss_nil))
      (ss_cons (ss_setLc 4 rfl nd (si_range1 rfl T.b_range (sa_cons (s_op o_add (s_int) (s_call C__law_take hr F__law_take.m F__law_take.k F__law_take.b (sa_cons (sv 0) (sa_cons (s_int) (sa_nil))))) (sa_nil))) (own := [("_law_turn", 5)]) (blkOk_by (N := N__law_condition) (sc := defScope s__law_condition) (by decide +kernel)) (fun _ _ _ _ _ => sg 5 nd) (fun _ _ _ _ _ => sts_nil) (fun _ _ _ _ _ => s_call C__law_condition hr F__law_condition.m F__law_condition.k F__law_condition.b (sa_cons (sv 0) (sa_cons (sv 1) (sa_cons (s_op o_sub (sv 2) (s_int)) (sa_nil))))))
      (ss_cons (ss_ret (s_tup (sa_cons (s_ix x_ix (s_lst (sa_cons (s_str) (sa_cons (s_str) (sa_nil)))) (s_op o_mod (sv 3) (s_int))) (sa_cons (s_callT b_tuple T.b_tuple (sa_cons (sv 4) (sa_nil))) (sa_nil)))))
      (ss_nil)))))
theorem ok__law_condition (T : Txt K mg) {f__law_take : Addr} {fd__law_take : FuncData} {sp__law_take : CSp} (F__law_take : FnF K mg "_law_take" s__law_take f__law_take fd__law_take ["_law_pot_here", "_law_upto"]) (C__law_take : FnG P w K mg base L2.CX0 k f__law_take fd__law_take ["_law_pot_here", "_law_upto"] sp__law_take) {f__law_condition : Addr} {fd__law_condition : FuncData} {sp__law_condition : CSp} (F__law_condition : FnF K mg "_law_condition" s__law_condition f__law_condition fd__law_condition ["_law_pot_here", "_law_moduli", "_law_deep"]) (C__law_condition : FnG P w K mg base L2.CX0 k f__law_condition fd__law_condition ["_law_pot_here", "_law_moduli", "_law_deep"] sp__law_condition) {f__law_range : Addr} {fd__law_range : FuncData} {sp__law_range : CSp} (F__law_range : FnF K mg "_law_range" s__law_range f__law_range fd__law_range ["_law_pot_here", "_law_moduli"]) (C__law_range : FnG P w K mg base L2.CX0 k f__law_range fd__law_range ["_law_pot_here", "_law_moduli"] sp__law_range) {f : Addr} {fd : FuncData} {sp : CSp} (F : FnF K mg "_law_condition" s__law_condition f fd ["_law_pot_here", "_law_moduli", "_law_deep"]) (pl : PL N__law_condition ["_law_pot_here", "_law_moduli", "_law_deep"] sp (t__law_condition sp__law_take sp__law_condition sp__law_range)) : FnG P w K mg base L2.CX0 (k + 1) f fd ["_law_pot_here", "_law_moduli", "_law_deep"] sp :=
  fn_mk F.F sc__law_condition pl.mono pl.len (fun cdv A outer s H E hr => bd__law_condition T F__law_take C__law_take F__law_condition C__law_condition F__law_range C__law_range hr) pl.go
def b__law_condition (m__law_take : List Cv → Option (Cv × Cv)) (m__law_condition : List Cv → Option (Cv × Cv)) (m__law_range : List Cv → Option (Cv × Cv)) : XS :=
  xSeq (xAsg (xIf (xpT (mB (mOp fGt (mVar 2) (mC (.int 1))))) (xCall 2 0 m__law_take (xCons (xp (mC (.int 8))) (xNil))) (xp (mC (.int 0)))) (mgName 3))
      (xSeq (xIfS (xpT (mB (mOp fLt (mVar 3) (mC (.int 3))))) (xSeq (xRet (xCall 2 0 m__law_range (xCons (xp (mVar 1)) (xNil))))
      (xNext)) (xNext))
      (xSeq (xIfS (xpT (mB (mOp fEq (mVar 3) (mC (.int 3))))) (xSeq (xRet (xTup (xCons (xp (mC (.str "not"))) (xCons (xCall 3 0 m__law_condition (xCons (xp (mVar 1)) (xCons (xp (mOp fSub (mVar 2) (mC (.int 1)))) (xNil)))) (xNil)))))
      (xNext)) (xNext))
      (xSeq (xAsg (xLcc (xRng1 (xCons (xOp fAdd (xp (mC (.int 1))) (xCall 2 0 m__law_take (xCons (xp (mC (.int 3))) (xNil)))) (xNil))) (mgName 5) (xpT mYes) (xCall 3 0 m__law_condition (xCons (xp (mVar 1)) (xCons (xp (mOp fSub (mVar 2) (mC (.int 1)))) (xNil)))) [5]) (mgName 4))
      (xSeq (xRet (xp (mTup (mCons (mOp fIx (mLst (mCons (mC (.str "all")) (mCons (mC (.str "any")) (mNil)))) (mOp fMod (mVar 3) (mC (.int 2)))) (mCons (mCB fTupleOf (mCons (mVar 4) (mNil))) (mNil))))))
      (xNext)))))
theorem es__law_condition {m__law_take : List Cv → Option (Cv × Cv)} {m__law_condition : List Cv → Option (Cv × Cv)} {m__law_range : List Cv → Option (Cv × Cv)} : EvXS p0 WF (t__law_condition (spX 2 m__law_take) (spX 3 m__law_condition) (spX 2 m__law_range)) (b__law_condition m__law_take m__law_condition m__law_range) :=
  CL.ss_seq (ss_asgX (ex_if (xt_p (et_b (ev_op e2_gt (ev_var) (ev_c)))) (ex_callX (xa_cons (ex_p (ev_c)) (xa_nil))) (ex_p (ev_c))) xg_name)
      (CL.ss_seq (ss_ifX (xt_p (et_b (ev_op e2_lt (ev_var) (ev_c)))) (CL.ss_seq (ss_ret' (ex_callX (xa_cons (ex_p (ev_var)) (xa_nil))))
      (CL.ss_next)) (CL.ss_next))
      (CL.ss_seq (ss_ifX (xt_p (et_b (ev_op e2_eqB (ev_var) (ev_c)))) (CL.ss_seq (ss_ret' (ex_tup (xa_cons (ex_p (ev_c)) (xa_cons (ex_callX (xa_cons (ex_p (ev_var)) (xa_cons (ex_p (ev_op e2_sub (ev_var) (ev_c))) (xa_nil)))) (xa_nil)))))
      (CL.ss_next)) (CL.ss_next))
      (CL.ss_seq (ss_asgX (ex_lc (xi_rng1 (xa_cons (ex_op e2_add (ex_p (ev_c)) (ex_callX (xa_cons (ex_p (ev_c)) (xa_nil)))) (xa_nil))) (gv_name) (xt_p et_yes) (ex_callX (xa_cons (ex_p (ev_var)) (xa_cons (ex_p (ev_op e2_sub (ev_var) (ev_c))) (xa_nil))))) xg_name)
      (CL.ss_seq (ss_ret' (ex_p (ev_tup (ea_cons (ev_op e2_ix (ev_lst (ea_cons (ev_c) (ea_cons (ev_c) (ea_nil)))) (ev_op e2_mod (ev_var) (ev_c))) (ea_cons (ev_cb ec_tuple (ea_cons (ev_var) (ea_nil))) (ea_nil))))))
      (CL.ss_next)))))
theorem mst__law_condition {a0 a1 a2 : Cv} : xstart N__law_condition a0 [a1, a2] = [.ow a0, .pl a1, .pl a2, .no, .no, .no] := rfl
def m__law_condition : Nat → List Cv → Option (Cv × Cv)
  | 0, _ => none
  | d + 1, us => runP N__law_condition (b__law_condition m__law_take (m__law_condition d) m__law_range) us
abbrev N__law_rules : List Str := ["_law_pot_here", "_law_moduli", "_law_left", "_law_some", "_law_turn", "_law_rows", "_law_deep", "_law_found"]
theorem sc__law_rules : FnScope N__law_rules ["_law_pot_here"] (defScope s__law_rules) := ⟨rfl, rfl, rfl, by decide +kernel, rfl, by decide +kernel, by decide +kernel⟩
def t__law_rules (sp__law_of : CSp) (sp__law_condition : CSp) (sp__law_take : CSp) : CS :=
  cSeq (cAsg (cCall sp__law_of X0 (cCons (cVar 0) (cCons (cLst (cCons (cLst (cCons (cC (.int 0)) (cNil))) (cCons (cLst (cCons (cC (.int 0)) (cCons (cC (.int 10)) (cNil)))) (cCons (cLst (cCons (cC (.int 0)) (cCons (cC (.int 0)) (cCons (cC (.int 10)) (cNil))))) (cCons (cLst (cCons (cC (.int 0)) (cCons (cC (.int 10)) (cCons (cC (.int 100)) (cNil))))) (cCons (cLst (cCons (cC (.int 10)) (cCons (cC (.int 100)) (cNil)))) (cCons (cLst (cCons (cC (.int 0)) (cCons (cC (.int 10)) (cCons (cC (.int 10)) (cCons (cC (.int 10)) (cCons (cC (.int 100)) (cCons (cC (.int 1000)) (cNil)))))))) (cNil)))))))) (cNil)))) (cgName 1))
      (cSeq (cAsg (cTup (cCons (cLstO (cCons (cC (.str "one")) (cCons (cC (.str "two")) (cCons (cC (.str "few")) (cCons (cC (.str "many")) (cCons (cC (.str "zero")) (cCons (cC (.str "other")) (cCons (cC (.str "a")) (cCons (cC (.str "lastform")) (cNil)))))))))) (cCons (cLstO (cNil)) (cNil)))) (cgTup 2 (cgCons (cgName 2) (cgCons (cgName 3) (cgNil)))))
      (cSeq (cFor (cRng1 (cCons (cOp cAdd (cC (.int 2)) (cCall sp__law_take X0 (cCons (cVar 0) (cCons (cC (.int 4)) (cNil))))) (cNil))) (cgName 4) (cSeq (cDrop (cBM "list" cAppend (cVar 3) (cCons (cBM "list" cPopAt (cVar 2) (cCons (cCall sp__law_take X0 (cCons (cVar 0) (cCons (cRead (cCB cLen (cCons (cVar 2) (cNil)))) (cNil)))) cNil)) cNil)))
      (cNext)))
      (cFrz 3 (cSeq (cAsg (cTup (cCons (cCall sp__law_take X0 (cCons (cVar 0) (cCons (cC (.int 7)) (cNil)))) (cCons (cCall sp__law_of X0 (cCons (cVar 0) (cCons (cLst (cCons (cC (.int 1)) (cCons (cC (.int 2)) (cCons (cC (.int 3)) (cNil))))) (cNil)))) (cNil)))) (cgTup 2 (cgCons (cgName 5) (cgCons (cgName 6) (cgNil)))))
      (cSeq (cIfS (cB (cOp cGt (cVar 5) (cC (.int 4)))) (cSeq (cAsg (cCB cMin (cCons (cVar 6) (cCons (cC (.int 2)) (cNil)))) (cgName 6))
      (cNext)) (cNext))
      (cSeq (cAsg (cLc (cRng1 (cCons (cVar 5) (cNil))) (cgName 4) (cYes) (cTup (cCons (cCall sp__law_of X0 (cCons (cVar 0) (cCons (cVar 3) (cNil)))) (cCons (cCall sp__law_condition X0 (cCons (cVar 0) (cCons (cVar 1) (cCons (cVar 6) (cNil))))) (cNil)))) [4]) (cgName 7))
      (cSeq (cRet (cTup (cCons (cCB cTupleOf (cCons (cVar 7) (cNil))) (cCons (cCall sp__law_of X0 (cCons (cVar 0) (cCons (cVar 3) (cNil)))) (cNil)))))
      (cNext))))))))
theorem bd__law_rules (T : Txt K mg) {f__law_of : Addr} {fd__law_of : FuncData} {sp__law_of : CSp} (F__law_of : FnF K mg "_law_of" s__law_of f__law_of fd__law_of ["_law_pot_here", "_law_some"]) (C__law_of : FnG P w K mg base L2.CX0 k f__law_of fd__law_of ["_law_pot_here", "_law_some"] sp__law_of) {f__law_condition : Addr} {fd__law_condition : FuncData} {sp__law_condition : CSp} (F__law_condition : FnF K mg "_law_condition" s__law_condition f__law_condition fd__law_condition ["_law_pot_here", "_law_moduli", "_law_deep"]) (C__law_condition : FnG P w K mg base L2.CX0 k f__law_condition fd__law_condition ["_law_pot_here", "_law_moduli", "_law_deep"] sp__law_condition) {f__law_take : Addr} {fd__law_take : FuncData} {sp__law_take : CSp} (F__law_take : FnF K mg "_law_take" s__law_take f__law_take fd__law_take ["_law_pot_here", "_law_upto"]) (C__law_take : FnG P w K mg base L2.CX0 k f__law_take fd__law_take ["_law_pot_here", "_law_upto"] sp__law_take) {f : Addr} {cdv : Value} {A : Around} {outer : List PySem.Env} {s : Shared} {H : Hp} {E : XK} (hr : RoomG k (A.deeper (envOfC "_law_rules" (defScope s__law_rules) s.heap.objs.size f cdv))) :
    SSs (cxOf L2.CX0 P w K mg base N__law_rules "_law_rules" (defScope s__law_rules) f cdv A outer s H E).nox (defBody s__law_rules) (t__law_rules sp__law_of sp__law_condition sp__law_take) := by
  have nd : N__law_rules.Nodup := sc__law_rules.nd
  exact ss_cons (ss_set 1 nd (s_call C__law_of hr F__law_of.m F__law_of.k F__law_of.b (sa_cons (sv 0) (sa_cons (s_lst (sa_cons (s_lst (sa_cons (s_int) (sa_nil))) (sa_cons (s_lst (sa_cons (s_int) (sa_cons (s_int) (sa_nil)))) (sa_cons (s_lst (sa_cons (s_int) (sa_cons (s_int) (sa_cons (s_int) (sa_nil))))) (sa_cons (s_lst (sa_cons (s_int) (sa_cons (s_int) (sa_cons (s_int) (sa_nil))))) (sa_cons (s_lst (sa_cons (s_int) (sa_cons (s_int) (sa_nil)))) (sa_cons (s_lst (sa_cons (s_int) (sa_cons (s_int) (sa_cons (s_int) (sa_cons (s_int) (sa_cons (s_int) (sa_cons (s_int) (sa_nil)))))))) (sa_nil)))))))) (sa_nil)))))
      (ss_cons (ss_asg (s_tup (sa_cons (s_lstO (sa_cons (s_str) (sa_cons (s_str) (sa_cons (s_str) (sa_cons (s_str) (sa_cons (s_str) (sa_cons (s_str) (sa_cons (s_str) (sa_cons (s_str) (sa_nil)))))))))) (sa_cons (s_lstO (sa_nil)) (sa_nil)))) (sg_tup rfl (sgs_cons (sg 2 nd) (sgs_cons (sg 3 nd) (sgs_nil)))))
      (ss_cons (ss_for PassesOwn.never rfl (si_range1 rfl T.b_range (sa_cons (s_op o_add (s_int) (s_call C__law_take hr F__law_take.m F__law_take.k F__law_take.b (sa_cons (sv 0) (sa_cons (s_int) (sa_nil))))) (sa_nil))) (sg 4 nd) (ss_cons (ss_expr (s_bm PySem.F.plainAttrs_list PySem.F.slot_list_append m_append (sv 3) (sa_cons (s_bm PySem.F.plainAttrs_list PySem.F.slot_list_pop m_popAt (sv 2) (sa_cons (s_call C__law_take hr F__law_take.m F__law_take.k F__law_take.b (sa_cons (sv 0) (sa_cons (s_bor (s_callB b_len T.b_len (sa_cons (sv 2) (sa_nil)))) (sa_nil)))) sa_nil) PySem.F.type_list_pop) sa_nil) PySem.F.type_list_append))
      (ss_nil)))
      (ss_frz 3 (ss_cons (ss_asg (s_tup (sa_cons (s_call C__law_take hr F__law_take.m F__law_take.k F__law_take.b (sa_cons (sv 0) (sa_cons (s_int) (sa_nil)))) (sa_cons (s_call C__law_of hr F__law_of.m F__law_of.k F__law_of.b (sa_cons (sv 0) (sa_cons (s_lst (sa_cons (s_int) (sa_cons (s_int) (sa_cons (s_int) (sa_nil))))) (sa_nil)))) (sa_nil)))) (sg_tup rfl (sgs_cons (sg 5 nd) (sgs_cons (sg 6 nd) (sgs_nil)))))
      (ss_cons (ss_if (st_cmp o_gt (sv 5) (s_int)) (ss_cons (ss_set 6 nd (s_callB (b_min rfl) T.b_min (sa_cons (sv 6) (sa_cons (s_int) (sa_nil)))))
      (ss_nil)) (ss_nil))
      (ss_cons (ss_setLc 7 rfl nd (si_range1 rfl T.b_range (sa_cons (sv 5) (sa_nil))) (own := [("_law_turn", 4)]) (blkOk_by (N := N__law_rules) (sc := defScope s__law_rules) (by decide +kernel)) (fun _ _ _ _ _ => sg 4 nd) (fun _ _ _ _ _ => sts_nil) (fun _ _ _ _ _ => s_tup (sa_cons (s_call C__law_of hr F__law_of.m F__law_of.k F__law_of.b (sa_cons (sv 0) (sa_cons (sv 3) (sa_nil)))) (sa_cons (s_call C__law_condition hr F__law_condition.m F__law_condition.k F__law_condition.b (sa_cons (sv 0) (sa_cons (sv 1) (sa_cons (sv 6) (sa_nil))))) (sa_nil)))))
      (ss_cons (ss_ret (s_tup (sa_cons (s_callT b_tuple T.b_tuple (sa_cons (sv 7) (sa_nil))) (sa_cons (s_call C__law_of hr F__law_of.m F__law_of.k F__law_of.b (sa_cons (sv 0) (sa_cons (sv 3) (sa_nil)))) (sa_nil)))))
      (ss_nil))))))))
theorem ok__law_rules (T : Txt K mg) {f__law_of : Addr} {fd__law_of : FuncData} {sp__law_of : CSp} (F__law_of : FnF K mg "_law_of" s__law_of f__law_of fd__law_of ["_law_pot_here", "_law_some"]) (C__law_of : FnG P w K mg base L2.CX0 k f__law_of fd__law_of ["_law_pot_here", "_law_some"] sp__law_of) {f__law_condition : Addr} {fd__law_condition : FuncData} {sp__law_condition : CSp} (F__law_condition : FnF K mg "_law_condition" s__law_condition f__law_condition fd__law_condition ["_law_pot_here", "_law_moduli", "_law_deep"]) (C__law_condition : FnG P w K mg base L2.CX0 k f__law_condition fd__law_condition ["_law_pot_here", "_law_moduli", "_law_deep"] sp__law_condition) {f__law_take : Addr} {fd__law_take : FuncData} {sp__law_take : CSp} (F__law_take : FnF K mg "_law_take" s__law_take f__law_take fd__law_take ["_law_pot_here", "_law_upto"]) (C__law_take : FnG P w K mg base L2.CX0 k f__law_take fd__law_take ["_law_pot_here", "_law_upto"] sp__law_take) {f : Addr} {fd : FuncData} {sp : CSp} (F : FnF K mg "_law_rules" s__law_rules f fd ["_law_pot_here"]) (pl : PL N__law_rules ["_law_pot_here"] sp (t__law_rules sp__law_of sp__law_condition sp__law_take)) : FnG P w K mg base L2.CX0 (k + 1) f fd ["_law_pot_here"] sp :=
  fn_mk F.F sc__law_rules pl.mono pl.len (fun cdv A outer s H E hr => bd__law_rules T F__law_of C__law_of F__law_condition C__law_condition F__law_take C__law_take hr) pl.go
def b__law_rules (m__law_of : List Cv → Option (Cv × Cv)) (m__law_condition : List Cv → Option (Cv × Cv)) (m__law_take : List Cv → Option (Cv × Cv)) : XS :=
  xSeq (xAsg (xCall 2 0 m__law_of (xCons (xp (mLst (mCons (mLst (mCons (mC (.int 0)) (mNil))) (mCons (mLst (mCons (mC (.int 0)) (mCons (mC (.int 10)) (mNil)))) (mCons (mLst (mCons (mC (.int 0)) (mCons (mC (.int 0)) (mCons (mC (.int 10)) (mNil))))) (mCons (mLst (mCons (mC (.int 0)) (mCons (mC (.int 10)) (mCons (mC (.int 100)) (mNil))))) (mCons (mLst (mCons (mC (.int 10)) (mCons (mC (.int 100)) (mNil)))) (mCons (mLst (mCons (mC (.int 0)) (mCons (mC (.int 10)) (mCons (mC (.int 10)) (mCons (mC (.int 10)) (mCons (mC (.int 100)) (mCons (mC (.int 1000)) (mNil)))))))) (mNil))))))))) (xNil))) (mgName 1))
      (xSeq (xParO 2 3 (moN (mLst (mCons (mC (.str "one")) (mCons (mC (.str "two")) (mCons (mC (.str "few")) (mCons (mC (.str "many")) (mCons (mC (.str "zero")) (mCons (mC (.str "other")) (mCons (mC (.str "a")) (mCons (mC (.str "lastform")) (mNil)))))))))) (moN (mLst (mNil)) (moNil))))
      (xSeq (xFor (xRng1 (xCons (xOp fAdd (xp (mC (.int 2))) (xCall 2 0 m__law_take (xCons (xp (mC (.int 4))) (xNil)))) (xNil))) (mgName 4) (xSeq (xAppend 3 (xPopAt 2 (xCall 2 0 m__law_take (xCons (xp (mBor (mCB fLen (mCons (mVar 2) (mNil))))) (xNil)))))
      (xNext)) [4])
      (xFrz 3 (xSeq (xAsg (xTup (xCons (xCall 2 0 m__law_take (xCons (xp (mC (.int 7))) (xNil))) (xCons (xCall 2 0 m__law_of (xCons (xp (mLst (mCons (mC (.int 1)) (mCons (mC (.int 2)) (mCons (mC (.int 3)) (mNil)))))) (xNil))) (xNil)))) (mgTup 2 (mgCons (mgName 5) (mgCons (mgName 6) (mgNil)))))
      (xSeq (xIfS (xpT (mB (mOp fGt (mVar 5) (mC (.int 4))))) (xSeq (xAsg (xp (mCB fMin (mCons (mVar 6) (mCons (mC (.int 2)) (mNil))))) (mgName 6))
      (xNext)) (xNext))
      (xSeq (xAsg (xLcc (xpA (mRng1 (mCons (mVar 5) (mNil)))) (mgName 4) (xpT mYes) (xTup (xCons (xCall 2 0 m__law_of (xCons (xp (mVar 3)) (xNil))) (xCons (xCall 3 0 m__law_condition (xCons (xp (mVar 1)) (xCons (xp (mVar 6)) (xNil)))) (xNil)))) [4]) (mgName 7))
      (xSeq (xRet (xTup (xCons (xp (mCB fTupleOf (mCons (mVar 7) (mNil)))) (xCons (xCall 2 0 m__law_of (xCons (xp (mVar 3)) (xNil))) (xNil)))))
      (xNext))))))))
theorem es__law_rules {m__law_of : List Cv → Option (Cv × Cv)} {m__law_condition : List Cv → Option (Cv × Cv)} {m__law_take : List Cv → Option (Cv × Cv)} : EvXS p0 WF (t__law_rules (spX 2 m__law_of) (spX 3 m__law_condition) (spX 2 m__law_take)) (b__law_rules m__law_of m__law_condition m__law_take) :=
  CL.ss_seq (ss_asgX (ex_callX (xa_cons (ex_p (ev_lst (ea_cons (ev_lst (ea_cons (ev_c) (ea_nil))) (ea_cons (ev_lst (ea_cons (ev_c) (ea_cons (ev_c) (ea_nil)))) (ea_cons (ev_lst (ea_cons (ev_c) (ea_cons (ev_c) (ea_cons (ev_c) (ea_nil))))) (ea_cons (ev_lst (ea_cons (ev_c) (ea_cons (ev_c) (ea_cons (ev_c) (ea_nil))))) (ea_cons (ev_lst (ea_cons (ev_c) (ea_cons (ev_c) (ea_nil)))) (ea_cons (ev_lst (ea_cons (ev_c) (ea_cons (ev_c) (ea_cons (ev_c) (ea_cons (ev_c) (ea_cons (ev_c) (ea_cons (ev_c) (ea_nil)))))))) (ea_nil))))))))) (xa_nil))) xg_name)
      (CL.ss_seq (ss_tupOX (ao_n (en_lst (ea_cons (ev_c) (ea_cons (ev_c) (ea_cons (ev_c) (ea_cons (ev_c) (ea_cons (ev_c) (ea_cons (ev_c) (ea_cons (ev_c) (ea_cons (ev_c) (ea_nil)))))))))) (ao_n (en_lst (ea_nil)) (ao_nil))))
      (CL.ss_seq (ss_forX (vs := [4]) (xi_rng1 (xa_cons (ex_op e2_add (ex_p (ev_c)) (ex_callX (xa_cons (ex_p (ev_c)) (xa_nil)))) (xa_nil))) (xg_name) (CL.ss_seq (ss_append (ex_popAt (ex_callX (xa_cons (ex_p (ev_bor (ev_cb ec_len (ea_cons (ev_var) (ea_nil))))) (xa_nil)))))
      (CL.ss_next)))
      (ss_frzX (CL.ss_seq (ss_asgX (ex_tup (xa_cons (ex_callX (xa_cons (ex_p (ev_c)) (xa_nil))) (xa_cons (ex_callX (xa_cons (ex_p (ev_lst (ea_cons (ev_c) (ea_cons (ev_c) (ea_cons (ev_c) (ea_nil)))))) (xa_nil))) (xa_nil)))) (xg_tup (xg_cons (xg_name) (xg_cons (xg_name) (xg_nil)))))
      (CL.ss_seq (ss_ifX (xt_p (et_b (ev_op e2_gt (ev_var) (ev_c)))) (CL.ss_seq (ss_asgX (ex_p (ev_cb ec_min (ea_cons (ev_var) (ea_cons (ev_c) (ea_nil))))) xg_name)
      (CL.ss_next)) (CL.ss_next))
      (CL.ss_seq (ss_asgX (ex_lc (xi_p (ei_rng1 (ea_cons (ev_var) (ea_nil)))) (gv_name) (xt_p et_yes) (ex_tup (xa_cons (ex_callX (xa_cons (ex_p (ev_var)) (xa_nil))) (xa_cons (ex_callX (xa_cons (ex_p (ev_var)) (xa_cons (ex_p (ev_var)) (xa_nil)))) (xa_nil))))) xg_name)
      (CL.ss_seq (ss_ret' (ex_tup (xa_cons (ex_p (ev_cb ec_tuple (ea_cons (ev_var) (ea_nil)))) (xa_cons (ex_callX (xa_cons (ex_p (ev_var)) (xa_nil))) (xa_nil)))))
      (CL.ss_next))))))))
theorem mst__law_rules {a0 : Cv} : xstart N__law_rules a0 [] = [.ow a0, .no, .no, .no, .no, .no, .no, .no] := rfl
def m__law_rules (us : List Cv) : Option (Cv × Cv) := runP N__law_rules (b__law_rules m__law_of (m__law_condition 8) m__law_take) us
abbrev N__law_ranges : List Str := ["_law_condition_here", "_law_found", "_law_part"]
theorem sc__law_ranges : FnScope N__law_ranges ["_law_condition_here"] (defScope s__law_ranges) := ⟨rfl, rfl, rfl, by decide +kernel, rfl, by decide +kernel, by decide +kernel⟩
def t__law_ranges (sp__law_ranges : CSp) : CS :=
  cSeq (cIfS (cB (cOp cEq (cOp cIx (cVar 0) (cC (.int 0))) (cC (.str "in")))) (cSeq (cRet (cLst (cCons (cVar 0) (cNil))))
      (cNext)) (cNext))
      (cSeq (cAsg (cLstO (cNil)) (cgName 1))
      (cSeq (cFor (cSeqI (cIf (cB (cOp cEq (cOp cIx (cVar 0) (cC (.int 0))) (cC (.str "not")))) (cLst (cCons (cOp cIx (cVar 0) (cC (.int 1))) (cNil))) (cOp cIx (cVar 0) (cC (.int 1))))) (cgName 2) (cSeq (cDrop (cBM "list" cExtend (cVar 1) (cCons (cCall sp__law_ranges X0 (cCons (cVar 2) (cNil))) cNil)))
      (cNext)))
      (cFrz 1 (cSeq (cRet (cVar 1))
      (cNext)))))
theorem bd__law_ranges (T : Txt K mg) {f__law_ranges : Addr} {fd__law_ranges : FuncData} {sp__law_ranges : CSp} (F__law_ranges : FnF K mg "_law_ranges" s__law_ranges f__law_ranges fd__law_ranges ["_law_condition_here"]) (C__law_ranges : FnG P w K mg base L2.CX0 k f__law_ranges fd__law_ranges ["_law_condition_here"] sp__law_ranges) {f : Addr} {cdv : Value} {A : Around} {outer : List PySem.Env} {s : Shared} {H : Hp} {E : XK} (hr : RoomG k (A.deeper (envOfC "_law_ranges" (defScope s__law_ranges) s.heap.objs.size f cdv))) :
    SSs (cxOf L2.CX0 P w K mg base N__law_ranges "_law_ranges" (defScope s__law_ranges) f cdv A outer s H E).nox (defBody s__law_ranges) (t__law_ranges sp__law_ranges) := by
  have nd : N__law_ranges.Nodup := sc__law_ranges.nd
  exact ss_cons (ss_if (st_cmp (o_eq hr.u4) (s_ix x_ix (sv 0) (s_int)) (s_str)) (ss_cons (ss_ret (s_lst (sa_cons (sv 0) (sa_nil))))
      (ss_nil)) (ss_nil))
      (ss_cons (ss_set 1 nd (s_lstO (sa_nil)))
      (ss_cons (ss_for PassesOwn.never rfl (si_seq (s_ifExp (st_cmp (o_eq hr.u4) (s_ix x_ix (sv 0) (s_int)) (s_str)) (s_lst (sa_cons (s_ix x_ix (sv 0) (s_int)) (sa_nil))) (s_ix x_ix (sv 0) (s_int)))) (sg 2 nd) (ss_cons (ss_expr (s_bm PySem.F.plainAttrs_list PySem.F.slot_list_extend m_extend (sv 1) (sa_cons (s_call C__law_ranges hr F__law_ranges.m F__law_ranges.k F__law_ranges.b (sa_cons (sv 2) (sa_nil))) sa_nil) PySem.F.type_list_extend))
      (ss_nil)))
      (ss_frz 1 (ss_cons (ss_ret (sv 1))
      (ss_nil)))))
theorem ok__law_ranges (T : Txt K mg) {f__law_ranges : Addr} {fd__law_ranges : FuncData} {sp__law_ranges : CSp} (F__law_ranges : FnF K mg "_law_ranges" s__law_ranges f__law_ranges fd__law_ranges ["_law_condition_here"]) (C__law_ranges : FnG P w K mg base L2.CX0 k f__law_ranges fd__law_ranges ["_law_condition_here"] sp__law_ranges) {f : Addr} {fd : FuncData} {sp : CSp} (F : FnF K mg "_law_ranges" s__law_ranges f fd ["_law_condition_here"]) (pl : PL N__law_ranges ["_law_condition_here"] sp (t__law_ranges sp__law_ranges)) : FnG P w K mg base L2.CX0 (k + 1) f fd ["_law_condition_here"] sp :=
  fn_mk F.F sc__law_ranges pl.mono pl.len (fun cdv A outer s H E hr => bd__law_ranges T F__law_ranges C__law_ranges hr) pl.go
def b__law_ranges (m__law_ranges : List Cv → Option Cv) : MS :=
  mSeq (mIfS (mB (mOp fEq (mOp fIx (mVar 0) (mC (.int 0))) (mC (.str "in")))) (mSeq (mRet (mLst (mCons (mVar 0) (mNil))))
      (mNext)) (mNext))
      (mSeq (mAsgN (mLst (mNil)) 1)
      (mSeq (mFor (mSeqI (mIf (mB (mOp fEq (mOp fIx (mVar 0) (mC (.int 0))) (mC (.str "not")))) (mLst (mCons (mOp fIx (mVar 0) (mC (.int 1))) (mNil))) (mOp fIx (mVar 0) (mC (.int 1))))) (mgName 2) (mSeq (mExtend 1 (mCB (arg 1 m__law_ranges) (mCons (mVar 2) (mNil))))
      (mNext)) [2])
      (mFrz 1 (mSeq (mRet (mVar 1))
      (mNext)))))
theorem es__law_ranges {m__law_ranges : List Cv → Option Cv} : EvS (t__law_ranges (spM 1 m__law_ranges)) (b__law_ranges m__law_ranges) :=
  es_seq (es_if (et_b (ev_op e2_eqB (ev_op e2_ix (ev_var) (ev_c)) (ev_c))) (es_seq (es_ret (ev_lst (ea_cons (ev_var) (ea_nil))))
      (es_next)) (es_next))
      (es_seq (es_asgN (en_lst (ea_nil)))
      (es_seq (es_for (vs := [2]) (ei_seq (ev_if (et_b (ev_op e2_eqB (ev_op e2_ix (ev_var) (ev_c)) (ev_c))) (ev_lst (ea_cons (ev_op e2_ix (ev_var) (ev_c)) (ea_nil))) (ev_op e2_ix (ev_var) (ev_c)))) (eg_name) (es_seq (es_extend (ev_call (ea_cons (ev_var) (ea_nil))))
      (es_next)))
      (es_frz (es_seq (es_ret (ev_var))
      (es_next)))))
theorem mst__law_ranges {a0 : Cv} : mstart N__law_ranges [a0] = [.pl a0, .no, .no] := rfl
def m__law_ranges : Nat → List Cv → Option Cv
  | 0, _ => none
  | d + 1, us => outM (b__law_ranges (m__law_ranges d)) (mstart N__law_ranges us)
abbrev N__law_edges : List Str := ["_law_rules_here", "_law_found", "_law_form", "_law_condition_here", "_law_lows", "_law_one"]
theorem sc__law_edges : FnScope N__law_edges ["_law_rules_here"] (defScope s__law_edges) := ⟨rfl, rfl, rfl, by decide +kernel, rfl, by decide +kernel, by decide +kernel⟩
def t__law_edges (sp__law_ranges : CSp) : CS :=
  cSeq (cAsg (cLstO (cNil)) (cgName 1))
      (cSeq (cFor (cSeqI (cOp cIx (cVar 0) (cC (.int 0)))) (cgTup 2 (cgCons (cgName 2) (cgCons (cgName 3) (cgNil)))) (cSeq (cDrop (cBM "list" cExtend (cVar 1) (cCons (cCall sp__law_ranges X0 (cCons (cVar 3) (cNil))) cNil)))
      (cNext)))
      (cFrz 1 (cSeq (cAsg (cLc (cSeqI (cVar 1)) (cgName 5) (cB (cOp cEq (cOp cIx (cVar 5) (cC (.int 1))) (cC (.int 0)))) (cOp cAdd (cOp cIx (cVar 5) (cC (.int 3))) (cC (.int 1))) [5]) (cgName 4))
      (cSeq (cRet (cTup (cCons (cCB cMax (cCons (cOp cAdd (cLst (cCons (cC (.int 0)) (cNil))) (cVar 4)) (cNil))) (cCons (cCB cMax (cCons (cOp cAdd (cLst (cCons (cC (.int 1)) (cNil))) (cLc (cSeqI (cVar 1)) (cgName 5) (cYes) (cOp cIx (cVar 5) (cC (.int 1))) [5])) (cNil))) (cNil)))))
      (cNext)))))
theorem bd__law_edges (T : Txt K mg) {f__law_ranges : Addr} {fd__law_ranges : FuncData} {sp__law_ranges : CSp} (F__law_ranges : FnF K mg "_law_ranges" s__law_ranges f__law_ranges fd__law_ranges ["_law_condition_here"]) (C__law_ranges : FnG P w K mg base L2.CX0 k f__law_ranges fd__law_ranges ["_law_condition_here"] sp__law_ranges) {f : Addr} {cdv : Value} {A : Around} {outer : List PySem.Env} {s : Shared} {H : Hp} {E : XK} (hr : RoomG k (A.deeper (envOfC "_law_edges" (defScope s__law_edges) s.heap.objs.size f cdv))) :
    SSs (cxOf L2.CX0 P w K mg base N__law_edges "_law_edges" (defScope s__law_edges) f cdv A outer s H E).nox (defBody s__law_edges) (t__law_edges sp__law_ranges) := by
  have nd : N__law_edges.Nodup := sc__law_edges.nd
  exact ss_cons (ss_set 1 nd (s_lstO (sa_nil)))
      (ss_cons (ss_for PassesOwn.never rfl (si_seq (s_ix x_ix (sv 0) (s_int))) (sg_tup rfl (sgs_cons (sg 2 nd) (sgs_cons (sg 3 nd) (sgs_nil)))) (ss_cons (ss_expr (s_bm PySem.F.plainAttrs_list PySem.F.slot_list_extend m_extend (sv 1) (sa_cons (s_call C__law_ranges hr F__law_ranges.m F__law_ranges.k F__law_ranges.b (sa_cons (sv 3) (sa_nil))) sa_nil) PySem.F.type_list_extend))
      (ss_nil)))
      (ss_frz 1 (ss_cons (ss_setLc 4 rfl nd (si_seq (sv 1)) (own := [("_law_one", 5)]) (blkOk_by (N := N__law_edges) (sc := defScope s__law_edges) (by decide +kernel)) (fun _ _ _ _ _ => sg 5 nd) (fun _ _ _ _ _ => sts_one (st_cmp (o_eq hr.u4) (s_ix x_ix (sv 5) (s_int)) (s_int))) (fun _ _ _ _ _ => s_op o_add (s_ix x_ix (sv 5) (s_int)) (s_int)))
      (ss_cons (ss_ret (s_tup (sa_cons (s_callB (b_max rfl) T.b_max (sa_cons (s_op o_add (s_lst (sa_cons (s_int) (sa_nil))) (sv 4)) (sa_nil))) (sa_cons (s_callB (b_max rfl) T.b_max (sa_cons (s_op o_add (s_lst (sa_cons (s_int) (sa_nil))) (s_lc rfl nd (si_seq (sv 1)) (own := [("_law_one", 5)]) (blkOk_by (N := N__law_edges) (sc := defScope s__law_edges) (by decide +kernel)) (fun _ _ _ _ _ => sg 5 nd) (fun _ _ _ _ _ => sts_nil) (fun _ _ _ _ _ => s_ix x_ix (sv 5) (s_int)))) (sa_nil))) (sa_nil)))))
      (ss_nil)))))
theorem ok__law_edges (T : Txt K mg) {f__law_ranges : Addr} {fd__law_ranges : FuncData} {sp__law_ranges : CSp} (F__law_ranges : FnF K mg "_law_ranges" s__law_ranges f__law_ranges fd__law_ranges ["_law_condition_here"]) (C__law_ranges : FnG P w K mg base L2.CX0 k f__law_ranges fd__law_ranges ["_law_condition_here"] sp__law_ranges) {f : Addr} {fd : FuncData} {sp : CSp} (F : FnF K mg "_law_edges" s__law_edges f fd ["_law_rules_here"]) (pl : PL N__law_edges ["_law_rules_here"] sp (t__law_edges sp__law_ranges)) : FnG P w K mg base L2.CX0 (k + 1) f fd ["_law_rules_here"] sp :=
  fn_mk F.F sc__law_edges pl.mono pl.len (fun cdv A outer s H E hr => bd__law_edges T F__law_ranges C__law_ranges hr) pl.go
def b__law_edges (m__law_ranges : List Cv → Option Cv) : MS :=
  mSeq (mAsgN (mLst (mNil)) 1)
      (mSeq (mFor (mSeqI (mOp fIx (mVar 0) (mC (.int 0)))) (mgTup 2 (mgCons (mgName 2) (mgCons (mgName 3) (mgNil)))) (mSeq (mExtend 1 (mCB (arg 1 m__law_ranges) (mCons (mVar 3) (mNil))))
      (mNext)) [2, 3])
      (mFrz 1 (mSeq (mAsg (mLc (mSeqI (mVar 1)) (mgName 5) (mB (mOp fEq (mOp fIx (mVar 5) (mC (.int 1))) (mC (.int 0)))) (mOp fAdd (mOp fIx (mVar 5) (mC (.int 3))) (mC (.int 1))) [5]) (mgName 4))
      (mSeq (mRet (mTup (mCons (mCB fMax (mCons (mOp fAdd (mLst (mCons (mC (.int 0)) (mNil))) (mVar 4)) (mNil))) (mCons (mCB fMax (mCons (mOp fAdd (mLst (mCons (mC (.int 1)) (mNil))) (mLc (mSeqI (mVar 1)) (mgName 5) (mYes) (mOp fIx (mVar 5) (mC (.int 1))) [5])) (mNil))) (mNil)))))
      (mNext)))))
theorem es__law_edges {m__law_ranges : List Cv → Option Cv} : EvS (t__law_edges (spM 1 m__law_ranges)) (b__law_edges m__law_ranges) :=
  es_seq (es_asgN (en_lst (ea_nil)))
      (es_seq (es_for (vs := [2, 3]) (ei_seq (ev_op e2_ix (ev_var) (ev_c))) (eg_tup (eg_cons (eg_name) (eg_cons (eg_name) (eg_nil)))) (es_seq (es_extend (ev_call (ea_cons (ev_var) (ea_nil))))
      (es_next)))
      (es_frz (es_seq (es_asg (ev_lc (ei_seq (ev_var)) (eg_name) (et_b (ev_op e2_eqB (ev_op e2_ix (ev_var) (ev_c)) (ev_c))) (ev_op e2_add (ev_op e2_ix (ev_var) (ev_c)) (ev_c))) eg_name)
      (es_seq (es_ret (ev_tup (ea_cons (ev_cb ec_max (ea_cons (ev_op e2_add (ev_lst (ea_cons (ev_c) (ea_nil))) (ev_var)) (ea_nil))) (ea_cons (ev_cb ec_max (ea_cons (ev_op e2_add (ev_lst (ea_cons (ev_c) (ea_nil))) (ev_lc (ei_seq (ev_var)) (eg_name) (et_yes) (ev_op e2_ix (ev_var) (ev_c)))) (ea_nil))) (ea_nil)))))
      (es_next)))))
theorem mst__law_edges {a0 : Cv} : mstart N__law_edges [a0] = [.pl a0, .no, .no, .no, .no, .no] := rfl
def m__law_edges (us : List Cv) : Option Cv := outM (b__law_edges (m__law_ranges 8)) (mstart N__law_edges us)
abbrev N__law_reach : List Str := ["_law_some", "_law_edges_here", "_law_rules_here", "_law_edge"]
theorem sc__law_reach : FnScope N__law_reach ["_law_some"] (defScope s__law_reach) := ⟨rfl, rfl, rfl, by decide +kernel, rfl, by decide +kernel, by decide +kernel⟩
def t__law_reach (sp__law_edges : CSp) : CS :=
  cSeq (cAsg (cLc (cSeqI (cVar 0)) (cgName 2) (cYes) (cCall sp__law_edges X0 (cCons (cVar 2) (cNil))) [2]) (cgName 1))
      (cSeq (cRet (cOp cAdd (cCB cMax (cCons (cLc (cSeqI (cVar 1)) (cgName 3) (cYes) (cOp cIx (cVar 3) (cC (.int 0))) [3]) (cNil))) (cCB cMax (cCons (cLc (cSeqI (cVar 1)) (cgName 3) (cYes) (cOp cIx (cVar 3) (cC (.int 1))) [3]) (cNil)))))
      (cNext))
theorem bd__law_reach (T : Txt K mg) {f__law_edges : Addr} {fd__law_edges : FuncData} {sp__law_edges : CSp} (F__law_edges : FnF K mg "_law_edges" s__law_edges f__law_edges fd__law_edges ["_law_rules_here"]) (C__law_edges : FnG P w K mg base L2.CX0 k f__law_edges fd__law_edges ["_law_rules_here"] sp__law_edges) {f : Addr} {cdv : Value} {A : Around} {outer : List PySem.Env} {s : Shared} {H : Hp} {E : XK} (hr : RoomG k (A.deeper (envOfC "_law_reach" (defScope s__law_reach) s.heap.objs.size f cdv))) :
    SSs (cxOf L2.CX0 P w K mg base N__law_reach "_law_reach" (defScope s__law_reach) f cdv A outer s H E).nox (defBody s__law_reach) (t__law_reach sp__law_edges) := by
  have nd : N__law_reach.Nodup := sc__law_reach.nd
  exact ss_cons (ss_setLc 1 rfl nd (si_seq (sv 0)) (own := [("_law_rules_here", 2)]) (blkOk_by (N := N__law_reach) (sc := defScope s__law_reach) (by decide +kernel)) (fun _ _ _ _ _ => sg 2 nd) (fun _ _ _ _ _ => sts_nil) (fun _ _ _ _ _ => s_call C__law_edges hr F__law_edges.m F__law_edges.k F__law_edges.b (sa_cons (sv 2) (sa_nil))))
      (ss_cons (ss_ret (s_op o_add (s_callB (b_max rfl) T.b_max (sa_cons (s_lc rfl nd (si_seq (sv 1)) (own := [("_law_edge", 3)]) (blkOk_by (N := N__law_reach) (sc := defScope s__law_reach) (by decide +kernel)) (fun _ _ _ _ _ => sg 3 nd) (fun _ _ _ _ _ => sts_nil) (fun _ _ _ _ _ => s_ix x_ix (sv 3) (s_int))) (sa_nil))) (s_callB (b_max rfl) T.b_max (sa_cons (s_lc rfl nd (si_seq (sv 1)) (own := [("_law_edge", 3)]) (blkOk_by (N := N__law_reach) (sc := defScope s__law_reach) (by decide +kernel)) (fun _ _ _ _ _ => sg 3 nd) (fun _ _ _ _ _ => sts_nil) (fun _ _ _ _ _ => s_ix x_ix (sv 3) (s_int))) (sa_nil)))))
      (ss_nil))
theorem ok__law_reach (T : Txt K mg) {f__law_edges : Addr} {fd__law_edges : FuncData} {sp__law_edges : CSp} (F__law_edges : FnF K mg "_law_edges" s__law_edges f__law_edges fd__law_edges ["_law_rules_here"]) (C__law_edges : FnG P w K mg base L2.CX0 k f__law_edges fd__law_edges ["_law_rules_here"] sp__law_edges) {f : Addr} {fd : FuncData} {sp : CSp} (F : FnF K mg "_law_reach" s__law_reach f fd ["_law_some"]) (pl : PL N__law_reach ["_law_some"] sp (t__law_reach sp__law_edges)) : FnG P w K mg base L2.CX0 (k + 1) f fd ["_law_some"] sp :=
  fn_mk F.F sc__law_reach pl.mono pl.len (fun cdv A outer s H E hr => bd__law_reach T F__law_edges C__law_edges hr) pl.go
def b__law_reach (m__law_edges : List Cv → Option Cv) : MS :=
  mSeq (mAsg (mLc (mSeqI (mVar 0)) (mgName 2) (mYes) (mCB (arg 1 m__law_edges) (mCons (mVar 2) (mNil))) [2]) (mgName 1))
      (mSeq (mRet (mOp fAdd (mCB fMax (mCons (mLc (mSeqI (mVar 1)) (mgName 3) (mYes) (mOp fIx (mVar 3) (mC (.int 0))) [3]) (mNil))) (mCB fMax (mCons (mLc (mSeqI (mVar 1)) (mgName 3) (mYes) (mOp fIx (mVar 3) (mC (.int 1))) [3]) (mNil)))))
      (mNext))
theorem es__law_reach {m__law_edges : List Cv → Option Cv} : EvS (t__law_reach (spM 1 m__law_edges)) (b__law_reach m__law_edges) :=
  es_seq (es_asg (ev_lc (ei_seq (ev_var)) (eg_name) (et_yes) (ev_call (ea_cons (ev_var) (ea_nil)))) eg_name)
      (es_seq (es_ret (ev_op e2_add (ev_cb ec_max (ea_cons (ev_lc (ei_seq (ev_var)) (eg_name) (et_yes) (ev_op e2_ix (ev_var) (ev_c))) (ea_nil))) (ev_cb ec_max (ea_cons (ev_lc (ei_seq (ev_var)) (eg_name) (et_yes) (ev_op e2_ix (ev_var) (ev_c))) (ea_nil)))))
      (es_next))
theorem mst__law_reach {a0 : Cv} : mstart N__law_reach [a0] = [.pl a0, .no, .no, .no] := rfl
def m__law_reach (us : List Cv) : Option Cv := outM (b__law_reach m__law_edges) (mstart N__law_reach us)
abbrev N__law_is : List Str := ["_law_condition_here", "_law_number", "_law_word", "_law_spot", "_law_told", "_law_part"]
theorem sc__law_is : FnScope N__law_is ["_law_condition_here", "_law_number"] (defScope s__law_is) := ⟨rfl, rfl, rfl, by decide +kernel, rfl, by decide +kernel, by decide +kernel⟩
def t__law_is (sp__law_is : CSp) : CS :=
  cSeq (cAsg (cOp cIx (cVar 0) (cC (.int 0))) (cgName 2))
      (cSeq (cIfS (cB (cOp cEq (cVar 2) (cC (.str "in")))) (cSeq (cAsg (cIf (cB (cOp cEq (cOp cIx (cVar 0) (cC (.int 1))) (cC (.int 0)))) (cVar 1) (cOp cMod (cVar 1) (cOp cIx (cVar 0) (cC (.int 1))))) (cgName 3))
      (cSeq (cRet (cChain cLe cLe (cOp cIx (cVar 0) (cC (.int 2))) (cVar 3) (cOp cIx (cVar 0) (cC (.int 3)))))
      (cNext))) (cNext))
      (cSeq (cIfS (cB (cOp cEq (cVar 2) (cC (.str "not")))) (cSeq (cRet (cNotV (cCall sp__law_is X0 (cCons (cOp cIx (cVar 0) (cC (.int 1))) (cCons (cVar 1) (cNil))))))
      (cNext)) (cNext))
      (cSeq (cAsg (cLc (cSeqI (cOp cIx (cVar 0) (cC (.int 1)))) (cgName 5) (cYes) (cCall sp__law_is X0 (cCons (cVar 5) (cCons (cVar 1) (cNil)))) [5]) (cgName 4))
      (cSeq (cRet (cIf (cB (cOp cEq (cVar 2) (cC (.str "all")))) (cOp cNotIn (cC (.bl false)) (cVar 4)) (cOp cIn (cC (.bl true)) (cVar 4))))
      (cNext)))))
theorem bd__law_is (T : Txt K mg) {f__law_is : Addr} {fd__law_is : FuncData} {sp__law_is : CSp} (F__law_is : FnF K mg "_law_is" s__law_is f__law_is fd__law_is ["_law_condition_here", "_law_number"]) (C__law_is : FnG P w K mg base L2.CX0 k f__law_is fd__law_is ["_law_condition_here", "_law_number"] sp__law_is) {f : Addr} {cdv : Value} {A : Around} {outer : List PySem.Env} {s : Shared} {H : Hp} {E : XK} (hr : RoomG k (A.deeper (envOfC "_law_is" (defScope s__law_is) s.heap.objs.size f cdv))) :
    SSs (cxOf L2.CX0 P w K mg base N__law_is "_law_is" (defScope s__law_is) f cdv A outer s H E).nox (defBody s__law_is) (t__law_is sp__law_is) := by
  have nd : N__law_is.Nodup := sc__law_is.nd
  exact ss_cons (ss_set 2 nd (s_ix x_ix (sv 0) (s_int)))
      (ss_cons (ss_if (st_cmp (o_eq hr.u4) (sv 2) (s_str)) (ss_cons (ss_set 3 nd (s_ifExp (st_cmp (o_eq hr.u4) (s_ix x_ix (sv 0) (s_int)) (s_int)) (sv 1) (s_op o_mod (sv 1) (s_ix x_ix (sv 0) (s_int)))))
      (ss_cons (ss_ret (s_chain o_le o_le (s_ix x_ix (sv 0) (s_int)) (sv 3) (s_ix x_ix (sv 0) (s_int))))
      (ss_nil))) (ss_nil))
      (ss_cons (ss_if (st_cmp (o_eq hr.u4) (sv 2) (s_str)) (ss_cons (ss_ret (s_not (s_call C__law_is hr F__law_is.m F__law_is.k F__law_is.b (sa_cons (s_ix x_ix (sv 0) (s_int)) (sa_cons (sv 1) (sa_nil))))))
      (ss_nil)) (ss_nil))
      (ss_cons (ss_setLc 4 rfl nd (si_seq (s_ix x_ix (sv 0) (s_int))) (own := [("_law_part", 5)]) (blkOk_by (N := N__law_is) (sc := defScope s__law_is) (by decide +kernel)) (fun _ _ _ _ _ => sg 5 nd) (fun _ _ _ _ _ => sts_nil) (fun _ _ _ _ _ => s_call C__law_is hr F__law_is.m F__law_is.k F__law_is.b (sa_cons (sv 5) (sa_cons (sv 1) (sa_nil)))))
      (ss_cons (ss_ret (s_ifExp (st_cmp (o_eq hr.u4) (sv 2) (s_str)) (s_cmp o_notIn (s_bl) (sv 4)) (s_cmp o_in (s_bl) (sv 4))))
      (ss_nil)))))
theorem ok__law_is (T : Txt K mg) {f__law_is : Addr} {fd__law_is : FuncData} {sp__law_is : CSp} (F__law_is : FnF K mg "_law_is" s__law_is f__law_is fd__law_is ["_law_condition_here", "_law_number"]) (C__law_is : FnG P w K mg base L2.CX0 k f__law_is fd__law_is ["_law_condition_here", "_law_number"] sp__law_is) {f : Addr} {fd : FuncData} {sp : CSp} (F : FnF K mg "_law_is" s__law_is f fd ["_law_condition_here", "_law_number"]) (pl : PL N__law_is ["_law_condition_here", "_law_number"] sp (t__law_is sp__law_is)) : FnG P w K mg base L2.CX0 (k + 1) f fd ["_law_condition_here", "_law_number"] sp :=
  fn_mk F.F sc__law_is pl.mono pl.len (fun cdv A outer s H E hr => bd__law_is T F__law_is C__law_is hr) pl.go
def b__law_is (m__law_is : List Cv → Option Cv) : MS :=
  mSeq (mAsg (mOp fIx (mVar 0) (mC (.int 0))) (mgName 2))
      (mSeq (mIfS (mB (mOp fEq (mVar 2) (mC (.str "in")))) (mSeq (mAsg (mIf (mB (mOp fEq (mOp fIx (mVar 0) (mC (.int 1))) (mC (.int 0)))) (mVar 1) (mOp fMod (mVar 1) (mOp fIx (mVar 0) (mC (.int 1))))) (mgName 3))
      (mSeq (mRet (mChain fLe fLe (mOp fIx (mVar 0) (mC (.int 2))) (mVar 3) (mOp fIx (mVar 0) (mC (.int 3)))))
      (mNext))) (mNext))
      (mSeq (mIfS (mB (mOp fEq (mVar 2) (mC (.str "not")))) (mSeq (mRet (mNotV (mCB (arg 2 m__law_is) (mCons (mOp fIx (mVar 0) (mC (.int 1))) (mCons (mVar 1) (mNil))))))
      (mNext)) (mNext))
      (mSeq (mAsg (mLc (mSeqI (mOp fIx (mVar 0) (mC (.int 1)))) (mgName 5) (mYes) (mCB (arg 2 m__law_is) (mCons (mVar 5) (mCons (mVar 1) (mNil)))) [5]) (mgName 4))
      (mSeq (mRet (mIf (mB (mOp fEq (mVar 2) (mC (.str "all")))) (mOp fNotIn (mC (.bl false)) (mVar 4)) (mOp fIn (mC (.bl true)) (mVar 4))))
      (mNext)))))
theorem es__law_is {m__law_is : List Cv → Option Cv} : EvS (t__law_is (spM 2 m__law_is)) (b__law_is m__law_is) :=
  es_seq (es_asg (ev_op e2_ix (ev_var) (ev_c)) eg_name)
      (es_seq (es_if (et_b (ev_op e2_eqB (ev_var) (ev_c))) (es_seq (es_asg (ev_if (et_b (ev_op e2_eqB (ev_op e2_ix (ev_var) (ev_c)) (ev_c))) (ev_var) (ev_op e2_mod (ev_var) (ev_op e2_ix (ev_var) (ev_c)))) eg_name)
      (es_seq (es_ret (ev_chain e2_le e2_le (ev_op e2_ix (ev_var) (ev_c)) (ev_var) (ev_op e2_ix (ev_var) (ev_c))))
      (es_next))) (es_next))
      (es_seq (es_if (et_b (ev_op e2_eqB (ev_var) (ev_c))) (es_seq (es_ret (ev_notV (ev_call (ea_cons (ev_op e2_ix (ev_var) (ev_c)) (ea_cons (ev_var) (ea_nil))))))
      (es_next)) (es_next))
      (es_seq (es_asg (ev_lc (ei_seq (ev_op e2_ix (ev_var) (ev_c))) (eg_name) (et_yes) (ev_call (ea_cons (ev_var) (ea_cons (ev_var) (ea_nil))))) eg_name)
      (es_seq (es_ret (ev_if (et_b (ev_op e2_eqB (ev_var) (ev_c))) (ev_op e2_inB (ev_c) (ev_var)) (ev_op e2_inB (ev_c) (ev_var))))
      (es_next)))))
theorem mst__law_is {a0 a1 : Cv} : mstart N__law_is [a0, a1] = [.pl a0, .pl a1, .no, .no, .no, .no] := rfl
def m__law_is : Nat → List Cv → Option Cv
  | 0, _ => none
  | d + 1, us => outM (b__law_is (m__law_is d)) (mstart N__law_is us)
abbrev N__law_bent_rules : List Str := ["_law_pot_here", "_law_rules_here", "_law_rows", "_law_last", "_law_way", "_law_at"]
theorem sc__law_bent_rules : FnScope N__law_bent_rules ["_law_pot_here", "_law_rules_here"] (defScope s__law_bent_rules) := ⟨rfl, rfl, rfl, by decide +kernel, rfl, by decide +kernel, by decide +kernel⟩
def t__law_bent_rules (sp__law_of : CSp) (sp__law_range : CSp) (sp__law_rules : CSp) (sp__law_take : CSp) : CS :=
  cSeq (cPar 2 3 (cCons (cCB cListOfO (cCons (cOp cIx (cVar 1) (cC (.int 0))) (cNil))) (cCons (cOp cIx (cVar 1) (cC (.int 1))) (cNil))))
      (cSeq (cAsg (cIf (cReadT (cB (cOp cNe (cVar 2) (cLst (cNil))))) (cCall sp__law_take X0 (cCons (cVar 0) (cCons (cC (.int 7)) (cNil)))) (cC (.int 5))) (cgName 4))
      (cSeq (cAsg (cIf (cReadT (cB (cOp cNe (cVar 2) (cLst (cNil))))) (cCall sp__law_take X0 (cCons (cVar 0) (cCons (cRead (cCB cLen (cCons (cVar 2) (cNil)))) (cNil)))) (cC (.int 0))) (cgName 5))
      (cSeq (cIfS (cB (cOp cEq (cVar 4) (cC (.int 0)))) (cFrz 2 (cSeq (cAsg (cOp cAdd (cSl cCut (cVar 2) (cNoPart) (cPart (cVar 5))) (cSl cCut (cVar 2) (cPart (cOp cAdd (cVar 5) (cC (.int 1)))) (cNoPart))) (cgName 2))
      (cNext))) (cSeq (cIfS (cReadT (cAnd (cB (cOp cEq (cVar 4) (cC (.int 1)))) (cB (cOp cLt (cCB cLen (cCons (cVar 2) (cNil))) (cC (.int 5)))))) (cFrz 2 (cSeq (cAsg (cOp cAdd (cOp cAdd (cSl cCut (cVar 2) (cNoPart) (cPart (cVar 5))) (cLst (cCons (cTup (cCons (cCall sp__law_of X0 (cCons (cVar 0) (cCons (cLst (cCons (cC (.str "one")) (cCons (cC (.str "new")) (cCons (cVar 3) (cNil))))) (cNil)))) (cCons (cOp cIx (cOp cIx (cVar 2) (cVar 5)) (cC (.int 1))) (cNil)))) (cNil)))) (cSl cCut (cVar 2) (cPart (cVar 5)) (cNoPart))) (cgName 2))
      (cNext))) (cSeq (cIfS (cB (cOp cEq (cVar 4) (cC (.int 2)))) (cFrz 2 (cSeq (cAsg (cRevL (cVar 2)) (cgName 2))
      (cNext))) (cSeq (cIfS (cB (cOp cEq (cVar 4) (cC (.int 3)))) (cSeq (cSetL (cVar 2) (cVar 5) (cTup (cCons (cCall sp__law_of X0 (cCons (cVar 0) (cCons (cLst (cCons (cC (.str "one")) (cCons (cC (.str "other")) (cCons (cC (.str "new")) (cCons (cVar 3) (cNil)))))) (cNil)))) (cCons (cRead (cOp cIx (cOp cIx (cVar 2) (cVar 5)) (cC (.int 1)))) (cNil)))))
      (cFrz 2 (cNext))) (cSeq (cIfS (cB (cOp cEq (cVar 4) (cC (.int 4)))) (cSeq (cSetL (cVar 2) (cVar 5) (cTup (cCons (cRead (cOp cIx (cOp cIx (cVar 2) (cVar 5)) (cC (.int 0)))) (cCons (cCall sp__law_range X0 (cCons (cVar 0) (cCons (cLst (cCons (cC (.int 0)) (cCons (cC (.int 10)) (cCons (cC (.int 100)) (cNil))))) (cNil)))) (cNil)))))
      (cFrz 2 (cNext))) (cFrz 2 (cSeq (cIfS (cB (cOp cEq (cVar 4) (cC (.int 5)))) (cSeq (cAsg (cCall sp__law_of X0 (cCons (cVar 0) (cCons (cLst (cCons (cC (.str "one")) (cCons (cC (.str "other")) (cCons (cC (.str "new")) (cNil))))) (cNil)))) (cgName 3))
      (cNext)) (cSeq (cRet (cCall sp__law_rules X0 (cCons (cVar 0) (cNil))))
      (cNext)))
      (cNext))))
      (cNext)))
      (cNext)))
      (cNext)))
      (cNext)))
      (cSeq (cRet (cTup (cCons (cCB cTupleOf (cCons (cVar 2) (cNil))) (cCons (cVar 3) (cNil)))))
      (cNext)))))
theorem bd__law_bent_rules (T : Txt K mg) {f__law_of : Addr} {fd__law_of : FuncData} {sp__law_of : CSp} (F__law_of : FnF K mg "_law_of" s__law_of f__law_of fd__law_of ["_law_pot_here", "_law_some"]) (C__law_of : FnG P w K mg base L2.CX0 k f__law_of fd__law_of ["_law_pot_here", "_law_some"] sp__law_of) {f__law_range : Addr} {fd__law_range : FuncData} {sp__law_range : CSp} (F__law_range : FnF K mg "_law_range" s__law_range f__law_range fd__law_range ["_law_pot_here", "_law_moduli"]) (C__law_range : FnG P w K mg base L2.CX0 k f__law_range fd__law_range ["_law_pot_here", "_law_moduli"] sp__law_range) {f__law_rules : Addr} {fd__law_rules : FuncData} {sp__law_rules : CSp} (F__law_rules : FnF K mg "_law_rules" s__law_rules f__law_rules fd__law_rules ["_law_pot_here"]) (C__law_rules : FnG P w K mg base L2.CX0 k f__law_rules fd__law_rules ["_law_pot_here"] sp__law_rules) {f__law_take : Addr} {fd__law_take : FuncData} {sp__law_take : CSp} (F__law_take : FnF K mg "_law_take" s__law_take f__law_take fd__law_take ["_law_pot_here", "_law_upto"]) (C__law_take : FnG P w K mg base L2.CX0 k f__law_take fd__law_take ["_law_pot_here", "_law_upto"] sp__law_take) {f : Addr} {cdv : Value} {A : Around} {outer : List PySem.Env} {s : Shared} {H : Hp} {E : XK} (hr : RoomG k (A.deeper (envOfC "_law_bent_rules" (defScope s__law_bent_rules) s.heap.objs.size f cdv))) :
    SSs (cxOf L2.CX0 P w K mg base N__law_bent_rules "_law_bent_rules" (defScope s__law_bent_rules) f cdv A outer s H E).nox (defBody s__law_bent_rules) (t__law_bent_rules sp__law_of sp__law_range sp__law_rules sp__law_take) := by
  have nd : N__law_bent_rules.Nodup := sc__law_bent_rules.nd
  exact ss_cons (ss_par 2 3 rfl nd (sa_cons (s_callT b_listO T.b_list (sa_cons (s_ix x_ix (sv 1) (s_int)) (sa_nil))) (sa_cons (s_ix x_ix (sv 1) (s_int)) (sa_nil))))
      (ss_cons (ss_set 4 nd (s_ifExp (st_bor (st_cmp (o_ne hr.u4) (sv 2) (s_lst (sa_nil)))) (s_call C__law_take hr F__law_take.m F__law_take.k F__law_take.b (sa_cons (sv 0) (sa_cons (s_int) (sa_nil)))) (s_int)))
      (ss_cons (ss_set 5 nd (s_ifExp (st_bor (st_cmp (o_ne hr.u4) (sv 2) (s_lst (sa_nil)))) (s_call C__law_take hr F__law_take.m F__law_take.k F__law_take.b (sa_cons (sv 0) (sa_cons (s_bor (s_callB b_len T.b_len (sa_cons (sv 2) (sa_nil)))) (sa_nil)))) (s_int)))
      (ss_cons (ss_if (st_cmp (o_eq hr.u4) (sv 4) (s_int)) (ss_frz 2 (ss_cons (ss_set 2 nd (s_op o_add (s_slice (sv 2) (so_none) (so_some (sv 5))) (s_slice (sv 2) (so_some (s_op o_add (sv 5) (s_int))) (so_none))))
      (ss_nil))) (ss_cons (ss_if (st_bor (SW.st (sw_and (st_cmp (o_eq hr.u4) (sv 4) (s_int)) (sw_and1 (st_cmp o_lt (s_callB b_len T.b_len (sa_cons (sv 2) (sa_nil))) (s_int)))))) (ss_frz 2 (ss_cons (ss_set 2 nd (s_op o_add (s_op o_add (s_slice (sv 2) (so_none) (so_some (sv 5))) (s_lst (sa_cons (s_tup (sa_cons (s_call C__law_of hr F__law_of.m F__law_of.k F__law_of.b (sa_cons (sv 0) (sa_cons (s_lst (sa_cons (s_str) (sa_cons (s_str) (sa_cons (sv 3) (sa_nil))))) (sa_nil)))) (sa_cons (s_ix x_ix (s_ix x_ix (sv 2) (sv 5)) (s_int)) (sa_nil)))) (sa_nil)))) (s_slice (sv 2) (so_some (sv 5)) (so_none))))
      (ss_nil))) (ss_cons (ss_if (st_cmp (o_eq hr.u4) (sv 4) (s_int)) (ss_frz 2 (ss_cons (ss_set 2 nd (s_revL (sv 2)))
      (ss_nil))) (ss_cons (ss_if (st_cmp (o_eq hr.u4) (sv 4) (s_int)) (ss_cons (ss_setL (sv 2) (sv 5) (s_tup (sa_cons (s_call C__law_of hr F__law_of.m F__law_of.k F__law_of.b (sa_cons (sv 0) (sa_cons (s_lst (sa_cons (s_str) (sa_cons (s_str) (sa_cons (s_str) (sa_cons (sv 3) (sa_nil)))))) (sa_nil)))) (sa_cons (s_bor (s_ix x_ix (s_ix x_ix (sv 2) (sv 5)) (s_int))) (sa_nil)))))
      (ss_frz 2 (ss_nil))) (ss_cons (ss_if (st_cmp (o_eq hr.u4) (sv 4) (s_int)) (ss_cons (ss_setL (sv 2) (sv 5) (s_tup (sa_cons (s_bor (s_ix x_ix (s_ix x_ix (sv 2) (sv 5)) (s_int))) (sa_cons (s_call C__law_range hr F__law_range.m F__law_range.k F__law_range.b (sa_cons (sv 0) (sa_cons (s_lst (sa_cons (s_int) (sa_cons (s_int) (sa_cons (s_int) (sa_nil))))) (sa_nil)))) (sa_nil)))))
      (ss_frz 2 (ss_nil))) (ss_frz 2 (ss_cons (ss_if (st_cmp (o_eq hr.u4) (sv 4) (s_int)) (ss_cons (ss_set 3 nd (s_call C__law_of hr F__law_of.m F__law_of.k F__law_of.b (sa_cons (sv 0) (sa_cons (s_lst (sa_cons (s_str) (sa_cons (s_str) (sa_cons (s_str) (sa_nil))))) (sa_nil)))))
      (ss_nil)) (ss_cons (ss_ret (s_call C__law_rules hr F__law_rules.m F__law_rules.k F__law_rules.b (sa_cons (sv 0) (sa_nil))))
      (ss_nil)))
      (ss_nil))))
      (ss_nil)))
      (ss_nil)))
      (ss_nil)))
      (ss_nil)))
      (ss_cons (ss_ret (s_tup (sa_cons (s_callT b_tuple T.b_tuple (sa_cons (sv 2) (sa_nil))) (sa_cons (sv 3) (sa_nil)))))
      (ss_nil)))))
theorem ok__law_bent_rules (T : Txt K mg) {f__law_of : Addr} {fd__law_of : FuncData} {sp__law_of : CSp} (F__law_of : FnF K mg "_law_of" s__law_of f__law_of fd__law_of ["_law_pot_here", "_law_some"]) (C__law_of : FnG P w K mg base L2.CX0 k f__law_of fd__law_of ["_law_pot_here", "_law_some"] sp__law_of) {f__law_range : Addr} {fd__law_range : FuncData} {sp__law_range : CSp} (F__law_range : FnF K mg "_law_range" s__law_range f__law_range fd__law_range ["_law_pot_here", "_law_moduli"]) (C__law_range : FnG P w K mg base L2.CX0 k f__law_range fd__law_range ["_law_pot_here", "_law_moduli"] sp__law_range) {f__law_rules : Addr} {fd__law_rules : FuncData} {sp__law_rules : CSp} (F__law_rules : FnF K mg "_law_rules" s__law_rules f__law_rules fd__law_rules ["_law_pot_here"]) (C__law_rules : FnG P w K mg base L2.CX0 k f__law_rules fd__law_rules ["_law_pot_here"] sp__law_rules) {f__law_take : Addr} {fd__law_take : FuncData} {sp__law_take : CSp} (F__law_take : FnF K mg "_law_take" s__law_take f__law_take fd__law_take ["_law_pot_here", "_law_upto"]) (C__law_take : FnG P w K mg base L2.CX0 k f__law_take fd__law_take ["_law_pot_here", "_law_upto"] sp__law_take) {f : Addr} {fd : FuncData} {sp : CSp} (F : FnF K mg "_law_bent_rules" s__law_bent_rules f fd ["_law_pot_here", "_law_rules_here"]) (pl : PL N__law_bent_rules ["_law_pot_here", "_law_rules_here"] sp (t__law_bent_rules sp__law_of sp__law_range sp__law_rules sp__law_take)) : FnG P w K mg base L2.CX0 (k + 1) f fd ["_law_pot_here", "_law_rules_here"] sp :=
  fn_mk F.F sc__law_bent_rules pl.mono pl.len (fun cdv A outer s H E hr => bd__law_bent_rules T F__law_of C__law_of F__law_range C__law_range F__law_rules C__law_rules F__law_take C__law_take hr) pl.go
def b__law_bent_rules (m__law_of : List Cv → Option (Cv × Cv)) (m__law_range : List Cv → Option (Cv × Cv)) (m__law_rules : List Cv → Option (Cv × Cv)) (m__law_take : List Cv → Option (Cv × Cv)) : XS :=
  xSeq (xParO 2 3 (moN (mCB fListOf (mCons (mOp fIx (mVar 1) (mC (.int 0))) (mNil))) (moP (mOp fIx (mVar 1) (mC (.int 1))) (moNil))))
      (xSeq (xAsg (xIf (xpT (mBorT (mB (mOp fNe (mVar 2) (mLst (mNil)))))) (xCall 2 0 m__law_take (xCons (xp (mC (.int 7))) (xNil))) (xp (mC (.int 5)))) (mgName 4))
      (xSeq (xAsg (xIf (xpT (mBorT (mB (mOp fNe (mVar 2) (mLst (mNil)))))) (xCall 2 0 m__law_take (xCons (xp (mBor (mCB fLen (mCons (mVar 2) (mNil))))) (xNil))) (xp (mC (.int 0)))) (mgName 5))
      (xSeq (xIfS (xpT (mB (mOp fEq (mVar 4) (mC (.int 0))))) (xFrz 2 (xSeq (xAsg (xp (mOp fAdd (mSl fCut (mVar 2) (mNoPart) (mPart (mVar 5))) (mSl fCut (mVar 2) (mPart (mOp fAdd (mVar 5) (mC (.int 1)))) (mNoPart)))) (mgName 2))
      (xNext))) (xSeq (xIfS (xpT (mBorT (mAnd (mB (mOp fEq (mVar 4) (mC (.int 1)))) (mB (mOp fLt (mCB fLen (mCons (mVar 2) (mNil))) (mC (.int 5))))))) (xFrz 2 (xSeq (xAsg (xOp fAdd (xOp fAdd (xp (mSl fCut (mVar 2) (mNoPart) (mPart (mVar 5)))) (xLst (xCons (xTup (xCons (xCall 2 0 m__law_of (xCons (xp (mLst (mCons (mC (.str "one")) (mCons (mC (.str "new")) (mCons (mVar 3) (mNil)))))) (xNil))) (xCons (xp (mOp fIx (mOp fIx (mVar 2) (mVar 5)) (mC (.int 1)))) (xNil)))) (xNil)))) (xp (mSl fCut (mVar 2) (mPart (mVar 5)) (mNoPart)))) (mgName 2))
      (xNext))) (xSeq (xIfS (xpT (mB (mOp fEq (mVar 4) (mC (.int 2))))) (xFrz 2 (xSeq (xAsg (xp (mRevL (mVar 2))) (mgName 2))
      (xNext))) (xSeq (xIfS (xpT (mB (mOp fEq (mVar 4) (mC (.int 3))))) (xSeq (xSetL 2 (xp (mVar 5)) (xTup (xCons (xCall 2 0 m__law_of (xCons (xp (mLst (mCons (mC (.str "one")) (mCons (mC (.str "other")) (mCons (mC (.str "new")) (mCons (mVar 3) (mNil))))))) (xNil))) (xCons (xp (mBor (mOp fIx (mOp fIx (mVar 2) (mVar 5)) (mC (.int 1))))) (xNil)))))
      (xFrz 2 (xNext))) (xSeq (xIfS (xpT (mB (mOp fEq (mVar 4) (mC (.int 4))))) (xSeq (xSetL 2 (xp (mVar 5)) (xTup (xCons (xp (mBor (mOp fIx (mOp fIx (mVar 2) (mVar 5)) (mC (.int 0))))) (xCons (xCall 2 0 m__law_range (xCons (xp (mLst (mCons (mC (.int 0)) (mCons (mC (.int 10)) (mCons (mC (.int 100)) (mNil)))))) (xNil))) (xNil)))))
      (xFrz 2 (xNext))) (xFrz 2 (xSeq (xIfS (xpT (mB (mOp fEq (mVar 4) (mC (.int 5))))) (xSeq (xAsg (xCall 2 0 m__law_of (xCons (xp (mLst (mCons (mC (.str "one")) (mCons (mC (.str "other")) (mCons (mC (.str "new")) (mNil)))))) (xNil))) (mgName 3))
      (xNext)) (xSeq (xRet (xCall 1 0 m__law_rules (xNil)))
      (xNext)))
      (xNext))))
      (xNext)))
      (xNext)))
      (xNext)))
      (xNext)))
      (xSeq (xRet (xp (mTup (mCons (mCB fTupleOf (mCons (mVar 2) (mNil))) (mCons (mVar 3) (mNil))))))
      (xNext)))))
theorem es__law_bent_rules {m__law_of : List Cv → Option (Cv × Cv)} {m__law_range : List Cv → Option (Cv × Cv)} {m__law_rules : List Cv → Option (Cv × Cv)} {m__law_take : List Cv → Option (Cv × Cv)} : EvXS p0 WF (t__law_bent_rules (spX 2 m__law_of) (spX 2 m__law_range) (spX 1 m__law_rules) (spX 2 m__law_take)) (b__law_bent_rules m__law_of m__law_range m__law_rules m__law_take) :=
  CL.ss_seq (ss_parOX (ao_n (en_listO (ea_cons (ev_op e2_ix (ev_var) (ev_c)) (ea_nil))) (ao_p (ev_op e2_ix (ev_var) (ev_c)) (ao_nil))))
      (CL.ss_seq (ss_asgX (ex_if (xt_p (et_bor (et_b (ev_op e2_eqB (ev_var) (ev_lst (ea_nil)))))) (ex_callX (xa_cons (ex_p (ev_c)) (xa_nil))) (ex_p (ev_c))) xg_name)
      (CL.ss_seq (ss_asgX (ex_if (xt_p (et_bor (et_b (ev_op e2_eqB (ev_var) (ev_lst (ea_nil)))))) (ex_callX (xa_cons (ex_p (ev_bor (ev_cb ec_len (ea_cons (ev_var) (ea_nil))))) (xa_nil))) (ex_p (ev_c))) xg_name)
      (CL.ss_seq (ss_ifX (xt_p (et_b (ev_op e2_eqB (ev_var) (ev_c)))) (ss_frzX (CL.ss_seq (ss_asgX (ex_p (ev_op e2_add (ev_sl esl_cut (ev_var) (eo_none) (eo_some (ev_var))) (ev_sl esl_cut (ev_var) (eo_some (ev_op e2_add (ev_var) (ev_c))) (eo_none)))) xg_name)
      (CL.ss_next))) (CL.ss_seq (ss_ifX (xt_p (et_bor (et_and (et_b (ev_op e2_eqB (ev_var) (ev_c))) (et_b (ev_op e2_lt (ev_cb ec_len (ea_cons (ev_var) (ea_nil))) (ev_c)))))) (ss_frzX (CL.ss_seq (ss_asgX (ex_op e2_add (ex_op e2_add (ex_p (ev_sl esl_cut (ev_var) (eo_none) (eo_some (ev_var)))) (ex_lst (xa_cons (ex_tup (xa_cons (ex_callX (xa_cons (ex_p (ev_lst (ea_cons (ev_c) (ea_cons (ev_c) (ea_cons (ev_var) (ea_nil)))))) (xa_nil))) (xa_cons (ex_p (ev_op e2_ix (ev_op e2_ix (ev_var) (ev_var)) (ev_c))) (xa_nil)))) (xa_nil)))) (ex_p (ev_sl esl_cut (ev_var) (eo_some (ev_var)) (eo_none)))) xg_name)
      (CL.ss_next))) (CL.ss_seq (ss_ifX (xt_p (et_b (ev_op e2_eqB (ev_var) (ev_c)))) (ss_frzX (CL.ss_seq (ss_asgX (ex_p (ev_revL (ev_var))) xg_name)
      (CL.ss_next))) (CL.ss_seq (ss_ifX (xt_p (et_b (ev_op e2_eqB (ev_var) (ev_c)))) (CL.ss_seq (ss_setLX (ex_p (ev_var)) (ex_tup (xa_cons (ex_callX (xa_cons (ex_p (ev_lst (ea_cons (ev_c) (ea_cons (ev_c) (ea_cons (ev_c) (ea_cons (ev_var) (ea_nil))))))) (xa_nil))) (xa_cons (ex_p (ev_bor (ev_op e2_ix (ev_op e2_ix (ev_var) (ev_var)) (ev_c)))) (xa_nil)))))
      (ss_frzX (CL.ss_next))) (CL.ss_seq (ss_ifX (xt_p (et_b (ev_op e2_eqB (ev_var) (ev_c)))) (CL.ss_seq (ss_setLX (ex_p (ev_var)) (ex_tup (xa_cons (ex_p (ev_bor (ev_op e2_ix (ev_op e2_ix (ev_var) (ev_var)) (ev_c)))) (xa_cons (ex_callX (xa_cons (ex_p (ev_lst (ea_cons (ev_c) (ea_cons (ev_c) (ea_cons (ev_c) (ea_nil)))))) (xa_nil))) (xa_nil)))))
      (ss_frzX (CL.ss_next))) (ss_frzX (CL.ss_seq (ss_ifX (xt_p (et_b (ev_op e2_eqB (ev_var) (ev_c)))) (CL.ss_seq (ss_asgX (ex_callX (xa_cons (ex_p (ev_lst (ea_cons (ev_c) (ea_cons (ev_c) (ea_cons (ev_c) (ea_nil)))))) (xa_nil))) xg_name)
      (CL.ss_next)) (CL.ss_seq (ss_ret' (ex_callX (xa_nil)))
      (CL.ss_next)))
      (CL.ss_next))))
      (CL.ss_next)))
      (CL.ss_next)))
      (CL.ss_next)))
      (CL.ss_next)))
      (CL.ss_seq (ss_ret' (ex_p (ev_tup (ea_cons (ev_cb ec_tuple (ea_cons (ev_var) (ea_nil))) (ea_cons (ev_var) (ea_nil))))))
      (CL.ss_next)))))
theorem mst__law_bent_rules {a0 a1 : Cv} : xstart N__law_bent_rules a0 [a1] = [.ow a0, .pl a1, .no, .no, .no, .no] := rfl
def m__law_bent_rules (us : List Cv) : Option (Cv × Cv) := runP N__law_bent_rules (b__law_bent_rules m__law_of m__law_range m__law_rules m__law_take) us
abbrev N__law_levels : List Str := ["_law_condition_here", "_law_part"]
theorem sc__law_levels : FnScope N__law_levels ["_law_condition_here"] (defScope s__law_levels) := ⟨rfl, rfl, rfl, by decide +kernel, rfl, by decide +kernel, by decide +kernel⟩
def t__law_levels (sp__law_levels : CSp) : CS :=
  cSeq (cIfS (cB (cOp cEq (cOp cIx (cVar 0) (cC (.int 0))) (cC (.str "in")))) (cSeq (cRet (cC (.int 1)))
      (cNext)) (cNext))
      (cSeq (cRet (cOp cAdd (cC (.int 1)) (cCB cMax (cCons (cLc (cSeqI (cIf (cB (cOp cEq (cOp cIx (cVar 0) (cC (.int 0))) (cC (.str "not")))) (cLst (cCons (cOp cIx (cVar 0) (cC (.int 1))) (cNil))) (cOp cIx (cVar 0) (cC (.int 1))))) (cgName 1) (cYes) (cCall sp__law_levels X0 (cCons (cVar 1) (cNil))) [1]) (cNil)))))
      (cNext))
theorem bd__law_levels (T : Txt K mg) {f__law_levels : Addr} {fd__law_levels : FuncData} {sp__law_levels : CSp} (F__law_levels : FnF K mg "_law_levels" s__law_levels f__law_levels fd__law_levels ["_law_condition_here"]) (C__law_levels : FnG P w K mg base L2.CX0 k f__law_levels fd__law_levels ["_law_condition_here"] sp__law_levels) {f : Addr} {cdv : Value} {A : Around} {outer : List PySem.Env} {s : Shared} {H : Hp} {E : XK} (hr : RoomG k (A.deeper (envOfC "_law_levels" (defScope s__law_levels) s.heap.objs.size f cdv))) :
    SSs (cxOf L2.CX0 P w K mg base N__law_levels "_law_levels" (defScope s__law_levels) f cdv A outer s H E).nox (defBody s__law_levels) (t__law_levels sp__law_levels) := by
  have nd : N__law_levels.Nodup := sc__law_levels.nd
  exact ss_cons (ss_if (st_cmp (o_eq hr.u4) (s_ix x_ix (sv 0) (s_int)) (s_str)) (ss_cons (ss_ret (s_int))
      (ss_nil)) (ss_nil))
      (ss_cons (ss_ret (s_op o_add (s_int) (s_callB (b_max rfl) T.b_max (sa_cons (s_lc rfl nd (si_seq (s_ifExp (st_cmp (o_eq hr.u4) (s_ix x_ix (sv 0) (s_int)) (s_str)) (s_lst (sa_cons (s_ix x_ix (sv 0) (s_int)) (sa_nil))) (s_ix x_ix (sv 0) (s_int)))) (own := [("_law_part", 1)]) (blkOk_by (N := N__law_levels) (sc := defScope s__law_levels) (by decide +kernel)) (fun _ _ _ _ _ => sg 1 nd) (fun _ _ _ _ _ => sts_nil) (fun _ _ _ _ _ => s_call C__law_levels hr F__law_levels.m F__law_levels.k F__law_levels.b (sa_cons (sv 1) (sa_nil)))) (sa_nil)))))
      (ss_nil))
theorem ok__law_levels (T : Txt K mg) {f__law_levels : Addr} {fd__law_levels : FuncData} {sp__law_levels : CSp} (F__law_levels : FnF K mg "_law_levels" s__law_levels f__law_levels fd__law_levels ["_law_condition_here"]) (C__law_levels : FnG P w K mg base L2.CX0 k f__law_levels fd__law_levels ["_law_condition_here"] sp__law_levels) {f : Addr} {fd : FuncData} {sp : CSp} (F : FnF K mg "_law_levels" s__law_levels f fd ["_law_condition_here"]) (pl : PL N__law_levels ["_law_condition_here"] sp (t__law_levels sp__law_levels)) : FnG P w K mg base L2.CX0 (k + 1) f fd ["_law_condition_here"] sp :=
  fn_mk F.F sc__law_levels pl.mono pl.len (fun cdv A outer s H E hr => bd__law_levels T F__law_levels C__law_levels hr) pl.go
def b__law_levels (m__law_levels : List Cv → Option Cv) : MS :=
  mSeq (mIfS (mB (mOp fEq (mOp fIx (mVar 0) (mC (.int 0))) (mC (.str "in")))) (mSeq (mRet (mC (.int 1)))
      (mNext)) (mNext))
      (mSeq (mRet (mOp fAdd (mC (.int 1)) (mCB fMax (mCons (mLc (mSeqI (mIf (mB (mOp fEq (mOp fIx (mVar 0) (mC (.int 0))) (mC (.str "not")))) (mLst (mCons (mOp fIx (mVar 0) (mC (.int 1))) (mNil))) (mOp fIx (mVar 0) (mC (.int 1))))) (mgName 1) (mYes) (mCB (arg 1 m__law_levels) (mCons (mVar 1) (mNil))) [1]) (mNil)))))
      (mNext))
theorem es__law_levels {m__law_levels : List Cv → Option Cv} : EvS (t__law_levels (spM 1 m__law_levels)) (b__law_levels m__law_levels) :=
  es_seq (es_if (et_b (ev_op e2_eqB (ev_op e2_ix (ev_var) (ev_c)) (ev_c))) (es_seq (es_ret (ev_c))
      (es_next)) (es_next))
      (es_seq (es_ret (ev_op e2_add (ev_c) (ev_cb ec_max (ea_cons (ev_lc (ei_seq (ev_if (et_b (ev_op e2_eqB (ev_op e2_ix (ev_var) (ev_c)) (ev_c))) (ev_lst (ea_cons (ev_op e2_ix (ev_var) (ev_c)) (ea_nil))) (ev_op e2_ix (ev_var) (ev_c)))) (eg_name) (et_yes) (ev_call (ea_cons (ev_var) (ea_nil)))) (ea_nil)))))
      (es_next))
theorem mst__law_levels {a0 : Cv} : mstart N__law_levels [a0] = [.pl a0, .no] := rfl
def m__law_levels : Nat → List Cv → Option Cv
  | 0, _ => none
  | d + 1, us => outM (b__law_levels (m__law_levels d)) (mstart N__law_levels us)
abbrev N__law_within : List Str := ["_law_rules_here", "_law_ranges_here", "_law_levels_here", "_law_kinds", "_law_row"]
theorem sc__law_within : FnScope N__law_within ["_law_rules_here"] (defScope s__law_within) := ⟨rfl, rfl, rfl, by decide +kernel, rfl, by decide +kernel, by decide +kernel⟩
def t__law_within (sp__law_levels : CSp) (sp__law_ranges : CSp) : CS :=
  cSeq (cPar3 1 2 3 (cCons (cLstO (cNil)) (cCons (cLstO (cCons (cC (.int 0)) (cNil))) (cCons (cLstO (cCons (cOp cIx (cVar 0) (cC (.int 1))) (cNil))) (cNil)))))
      (cSeq (cFor (cSeqI (cOp cIx (cVar 0) (cC (.int 0)))) (cgName 4) (cSeq (cDrop (cBM "list" cAppend (cVar 3) (cCons (cOp cIx (cVar 4) (cC (.int 0))) cNil)))
      (cSeq (cDrop (cBM "list" cExtend (cVar 1) (cCons (cCall sp__law_ranges X0 (cCons (cOp cIx (cVar 4) (cC (.int 1))) (cNil))) cNil)))
      (cSeq (cDrop (cBM "list" cAppend (cVar 2) (cCons (cCall sp__law_levels X0 (cCons (cOp cIx (cVar 4) (cC (.int 1))) (cNil))) cNil)))
      (cNext)))))
      (cFrz 3 (cFrz 2 (cFrz 1 (cSeq (cRet (cAndV (cOp cLt (cCB cLen (cCons (cOp cIx (cVar 0) (cC (.int 0))) (cNil))) (cC (.int 13))) (cAndV (cOp cLt (cOfD fLenSet (cVar 3)) (cC (.int 9))) (cAndV (cOp cLt (cCB cLen (cCons (cVar 1) (cNil))) (cC (.int 41))) (cOp cLt (cCB cMax (cCons (cVar 2) (cNil))) (cC (.int 7)))))))
      (cNext))))))
theorem bd__law_within (T : Txt K mg) {f__law_levels : Addr} {fd__law_levels : FuncData} {sp__law_levels : CSp} (F__law_levels : FnF K mg "_law_levels" s__law_levels f__law_levels fd__law_levels ["_law_condition_here"]) (C__law_levels : FnG P w K mg base L2.CX0 k f__law_levels fd__law_levels ["_law_condition_here"] sp__law_levels) {f__law_ranges : Addr} {fd__law_ranges : FuncData} {sp__law_ranges : CSp} (F__law_ranges : FnF K mg "_law_ranges" s__law_ranges f__law_ranges fd__law_ranges ["_law_condition_here"]) (C__law_ranges : FnG P w K mg base L2.CX0 k f__law_ranges fd__law_ranges ["_law_condition_here"] sp__law_ranges) {f : Addr} {cdv : Value} {A : Around} {outer : List PySem.Env} {s : Shared} {H : Hp} {E : XK} (hr : RoomG k (A.deeper (envOfC "_law_within" (defScope s__law_within) s.heap.objs.size f cdv))) :
    SSs (cxOf L2.CX0 P w K mg base N__law_within "_law_within" (defScope s__law_within) f cdv A outer s H E).nox (defBody s__law_within) (t__law_within sp__law_levels sp__law_ranges) := by
  have nd : N__law_within.Nodup := sc__law_within.nd
  exact ss_cons (ss_par3 1 2 3 rfl nd (sa_cons (s_lstO (sa_nil)) (sa_cons (s_lstO (sa_cons (s_int) (sa_nil))) (sa_cons (s_lstO (sa_cons (s_ix x_ix (sv 0) (s_int)) (sa_nil))) (sa_nil)))))
      (ss_cons (ss_for PassesOwn.never rfl (si_seq (s_ix x_ix (sv 0) (s_int))) (sg 4 nd) (ss_cons (ss_expr (s_bm PySem.F.plainAttrs_list PySem.F.slot_list_append m_append (sv 3) (sa_cons (s_ix x_ix (sv 4) (s_int)) sa_nil) PySem.F.type_list_append))
      (ss_cons (ss_expr (s_bm PySem.F.plainAttrs_list PySem.F.slot_list_extend m_extend (sv 1) (sa_cons (s_call C__law_ranges hr F__law_ranges.m F__law_ranges.k F__law_ranges.b (sa_cons (s_ix x_ix (sv 4) (s_int)) (sa_nil))) sa_nil) PySem.F.type_list_extend))
      (ss_cons (ss_expr (s_bm PySem.F.plainAttrs_list PySem.F.slot_list_append m_append (sv 2) (sa_cons (s_call C__law_levels hr F__law_levels.m F__law_levels.k F__law_levels.b (sa_cons (s_ix x_ix (sv 4) (s_int)) (sa_nil))) sa_nil) PySem.F.type_list_append))
      (ss_nil)))))
      (ss_frz 3 (ss_frz 2 (ss_frz 1 (ss_cons (ss_ret (s_and (s_cmp o_lt (s_callB b_len T.b_len (sa_cons (s_ix x_ix (sv 0) (s_int)) (sa_nil))) (s_int)) (s_and (s_cmp o_lt (s_lenSet rfl T.b_len T.b_set (sv 3)) (s_int)) (s_and (s_cmp o_lt (s_callB b_len T.b_len (sa_cons (sv 1) (sa_nil))) (s_int)) (s_one (s_cmp o_lt (s_callB (b_max rfl) T.b_max (sa_cons (sv 2) (sa_nil))) (s_int)))))))
      (ss_nil))))))
theorem ok__law_within (T : Txt K mg) {f__law_levels : Addr} {fd__law_levels : FuncData} {sp__law_levels : CSp} (F__law_levels : FnF K mg "_law_levels" s__law_levels f__law_levels fd__law_levels ["_law_condition_here"]) (C__law_levels : FnG P w K mg base L2.CX0 k f__law_levels fd__law_levels ["_law_condition_here"] sp__law_levels) {f__law_ranges : Addr} {fd__law_ranges : FuncData} {sp__law_ranges : CSp} (F__law_ranges : FnF K mg "_law_ranges" s__law_ranges f__law_ranges fd__law_ranges ["_law_condition_here"]) (C__law_ranges : FnG P w K mg base L2.CX0 k f__law_ranges fd__law_ranges ["_law_condition_here"] sp__law_ranges) {f : Addr} {fd : FuncData} {sp : CSp} (F : FnF K mg "_law_within" s__law_within f fd ["_law_rules_here"]) (pl : PL N__law_within ["_law_rules_here"] sp (t__law_within sp__law_levels sp__law_ranges)) : FnG P w K mg base L2.CX0 (k + 1) f fd ["_law_rules_here"] sp :=
  fn_mk F.F sc__law_within pl.mono pl.len (fun cdv A outer s H E hr => bd__law_within T F__law_levels C__law_levels F__law_ranges C__law_ranges hr) pl.go
def b__law_within (m__law_levels : List Cv → Option Cv) (m__law_ranges : List Cv → Option Cv) : MS :=
  mSeq (mParO3 1 2 3 (moN (mLst (mNil)) (moN (mLst (mCons (mC (.int 0)) (mNil))) (moN (mLst (mCons (mOp fIx (mVar 0) (mC (.int 1))) (mNil))) (moNil)))))
      (mSeq (mFor (mSeqI (mOp fIx (mVar 0) (mC (.int 0)))) (mgName 4) (mSeq (mAppend 3 (mOp fIx (mVar 4) (mC (.int 0))))
      (mSeq (mExtend 1 (mCB (arg 1 m__law_ranges) (mCons (mOp fIx (mVar 4) (mC (.int 1))) (mNil))))
      (mSeq (mAppend 2 (mCB (arg 1 m__law_levels) (mCons (mOp fIx (mVar 4) (mC (.int 1))) (mNil))))
      (mNext)))) [4])
      (mFrz 3 (mFrz 2 (mFrz 1 (mSeq (mRet (mAndV (mOp fLt (mCB fLen (mCons (mOp fIx (mVar 0) (mC (.int 0))) (mNil))) (mC (.int 13))) (mAndV (mOp fLt (mUn fLenSet (mVar 3)) (mC (.int 9))) (mAndV (mOp fLt (mCB fLen (mCons (mVar 1) (mNil))) (mC (.int 41))) (mOp fLt (mCB fMax (mCons (mVar 2) (mNil))) (mC (.int 7)))))))
      (mNext))))))
theorem es__law_within {m__law_levels : List Cv → Option Cv} {m__law_ranges : List Cv → Option Cv} : EvS (t__law_within (spM 1 m__law_levels) (spM 1 m__law_ranges)) (b__law_within m__law_levels m__law_ranges) :=
  es_seq (es_parO3 (ao_n (en_lst (ea_nil)) (ao_n (en_lst (ea_cons (ev_c) (ea_nil))) (ao_n (en_lst (ea_cons (ev_op e2_ix (ev_var) (ev_c)) (ea_nil))) (ao_nil)))))
      (es_seq (es_for (vs := [4]) (ei_seq (ev_op e2_ix (ev_var) (ev_c))) (eg_name) (es_seq (es_append (ev_op e2_ix (ev_var) (ev_c)))
      (es_seq (es_extend (ev_call (ea_cons (ev_op e2_ix (ev_var) (ev_c)) (ea_nil))))
      (es_seq (es_append (ev_call (ea_cons (ev_op e2_ix (ev_var) (ev_c)) (ea_nil))))
      (es_next)))))
      (es_frz (es_frz (es_frz (es_seq (es_ret (ev_andV (ev_op e2_lt (ev_cb ec_len (ea_cons (ev_op e2_ix (ev_var) (ev_c)) (ea_nil))) (ev_c)) (ev_andV (ev_op e2_lt (ev_ofD (ev_var) nr_lenSet) (ev_c)) (ev_andV (ev_op e2_lt (ev_cb ec_len (ea_cons (ev_var) (ea_nil))) (ev_c)) (ev_op e2_lt (ev_cb ec_max (ea_cons (ev_var) (ea_nil))) (ev_c))))))
      (es_next))))))
theorem mst__law_within {a0 : Cv} : mstart N__law_within [a0] = [.pl a0, .no, .no, .no, .no] := rfl
def m__law_within (us : List Cv) : Option Cv := outM (b__law_within (m__law_levels 8) (m__law_ranges 8)) (mstart N__law_within us)
abbrev N__law_patterns : List Str := ["_law_rules_here", "_law_found", "_law_n", "_law_row"]
theorem sc__law_patterns : FnScope N__law_patterns ["_law_rules_here"] (defScope s__law_patterns) := ⟨rfl, rfl, rfl, by decide +kernel, rfl, by decide +kernel, by decide +kernel⟩
def t__law_patterns (sp__law_reach : CSp) (sp__law_is : CSp) : CS :=
  cPat 1 2 (cCons (cCall sp__law_reach X0 (cCons (cLst (cCons (cVar 0) (cNil))) (cNil))) cNil) (cLc (cSeqI (cOp cIx (cVar 0) (cC (.int 0)))) (cgName 3) (cYes) (cCall sp__law_is X0 (cCons (cOp cIx (cVar 3) (cC (.int 1))) (cCons (cVar 2) (cNil)))) [3])
theorem bd__law_patterns (T : Txt K mg) {f__law_reach : Addr} {fd__law_reach : FuncData} {sp__law_reach : CSp} (F__law_reach : FnF K mg "_law_reach" s__law_reach f__law_reach fd__law_reach ["_law_some"]) (C__law_reach : FnG P w K mg base L2.CX0 k f__law_reach fd__law_reach ["_law_some"] sp__law_reach) {f__law_is : Addr} {fd__law_is : FuncData} {sp__law_is : CSp} (F__law_is : FnF K mg "_law_is" s__law_is f__law_is fd__law_is ["_law_condition_here", "_law_number"]) (C__law_is : FnG P w K mg base L2.CX0 k f__law_is fd__law_is ["_law_condition_here", "_law_number"] sp__law_is) {f : Addr} {cdv : Value} {A : Around} {outer : List PySem.Env} {s : Shared} {H : Hp} {E : XK} (hr : RoomG k (A.deeper (envOfC "_law_patterns" (defScope s__law_patterns) s.heap.objs.size f cdv))) :
    SSs (cxOf L2.CX0 P w K mg base N__law_patterns "_law_patterns" (defScope s__law_patterns) f cdv A outer s H E).nox (defBody s__law_patterns) (t__law_patterns sp__law_reach sp__law_is) := by
  have nd : N__law_patterns.Nodup := sc__law_patterns.nd
  exact ss_patA 1 2 nd PassesOwn.never rfl hr.u1 T.b_range (sa_cons (s_call C__law_reach hr F__law_reach.m F__law_reach.k F__law_reach.b (sa_cons (s_lst (sa_cons (sv 0) (sa_nil))) (sa_nil))) sa_nil) T.b_tuple (s_lc rfl nd (si_seq (s_ix x_ix (sv 0) (s_int))) (own := [("_law_row", 3)]) (blkOk_by (N := N__law_patterns) (sc := defScope s__law_patterns) (by decide +kernel)) (fun _ _ _ _ _ => sg 3 nd) (fun _ _ _ _ _ => sts_nil) (fun _ _ _ _ _ => s_call C__law_is hr F__law_is.m F__law_is.k F__law_is.b (sa_cons (s_ix x_ix (sv 3) (s_int)) (sa_cons (sv 2) (sa_nil))))) T.b_list s_bl
theorem ok__law_patterns (T : Txt K mg) {f__law_reach : Addr} {fd__law_reach : FuncData} {sp__law_reach : CSp} (F__law_reach : FnF K mg "_law_reach" s__law_reach f__law_reach fd__law_reach ["_law_some"]) (C__law_reach : FnG P w K mg base L2.CX0 k f__law_reach fd__law_reach ["_law_some"] sp__law_reach) {f__law_is : Addr} {fd__law_is : FuncData} {sp__law_is : CSp} (F__law_is : FnF K mg "_law_is" s__law_is f__law_is fd__law_is ["_law_condition_here", "_law_number"]) (C__law_is : FnG P w K mg base L2.CX0 k f__law_is fd__law_is ["_law_condition_here", "_law_number"] sp__law_is) {f : Addr} {fd : FuncData} {sp : CSp} (F : FnF K mg "_law_patterns" s__law_patterns f fd ["_law_rules_here"]) (pl : PL N__law_patterns ["_law_rules_here"] sp (t__law_patterns sp__law_reach sp__law_is)) : FnG P w K mg base L2.CX0 (k + 1) f fd ["_law_rules_here"] sp :=
  fn_mk F.F sc__law_patterns pl.mono pl.len (fun cdv A outer s H E hr => bd__law_patterns T F__law_reach C__law_reach F__law_is C__law_is hr) pl.go
def b__law_patterns (m__law_reach : List Cv → Option Cv) (m__law_is : List Cv → Option Cv) : MS :=
  mPat 1 2 (mCons (mCB (arg 1 m__law_reach) (mCons (mLst (mCons (mVar 0) (mNil))) (mNil))) mNil) (mLc (mSeqI (mOp fIx (mVar 0) (mC (.int 0)))) (mgName 3) (mYes) (mCB (arg 2 m__law_is) (mCons (mOp fIx (mVar 3) (mC (.int 1))) (mCons (mVar 2) (mNil)))) [3])
theorem es__law_patterns {m__law_reach : List Cv → Option Cv} {m__law_is : List Cv → Option Cv} : EvS (t__law_patterns (spM 1 m__law_reach) (spM 2 m__law_is)) (b__law_patterns m__law_reach m__law_is) :=
  es_pat (ea_cons (ev_call (ea_cons (ev_lst (ea_cons (ev_var) (ea_nil))) (ea_nil))) ea_nil) (ev_lc (ei_seq (ev_op e2_ix (ev_var) (ev_c))) (eg_name) (et_yes) (ev_call (ea_cons (ev_op e2_ix (ev_var) (ev_c)) (ea_cons (ev_var) (ea_nil)))))
theorem mst__law_patterns {a0 : Cv} : mstart N__law_patterns [a0] = [.pl a0, .no, .no, .no] := rfl
def m__law_patterns (us : List Cv) : Option Cv := outM (b__law_patterns m__law_reach (m__law_is 8)) (mstart N__law_patterns us)
abbrev N__law_right : List Str := ["_law_rules_here", "_law_met", "_law_pattern", "_law_due", "_law_at"]
theorem sc__law_right : FnScope N__law_right ["_law_rules_here"] (defScope s__law_right) := ⟨rfl, rfl, rfl, by decide +kernel, rfl, by decide +kernel, by decide +kernel⟩
def t__law_right (sp_dead_rows : CSp) (sp__law_patterns : CSp) : CS :=
  cSeq (cAsg (cDNew) (cgName 1))
      (cSeq (cFor (cSeqI (cCall sp__law_patterns X0 (cCons (cVar 0) (cNil)))) (cgName 2) (cSeq (cDPut (cVar 1) (cBM "list" cIndexL (cOp cAdd (cCB cListOf (cCons (cVar 2) (cNil))) (cLst (cCons (cC (.bl true)) (cNil)))) (cCons (cC (.bl true)) (cNil))) (cC (.bl true)))
      (cNext)))
      (cFrz 1 (cSeq (cAsg (cCB cTupleOf (cCons (cLc (cRng1 (cCons (cCB cLen (cCons (cOp cIx (cVar 0) (cC (.int 0))) (cNil))) (cNil))) (cgName 4) (cB (cDIn true (cVar 4) (cVar 1))) (cVar 4) [4]) (cNil))) (cgName 3))
      (cSeq (cRet (cOp cEq (cCB cRepr (cCons (cCall sp_dead_rows X0 (cCons (cVar 0) (cNil))) (cNil))) (cCB cRepr (cCons (cVar 3) (cNil)))))
      (cNext)))))
theorem bd__law_right (T : Txt K mg) {f_dead_rows : Addr} {fd_dead_rows : FuncData} {sp_dead_rows : CSp} (F_dead_rows : FnF K mg "dead_rows" s_dead_rows f_dead_rows fd_dead_rows ["rules"]) (C_dead_rows : FnG P w K mg base L2.CX0 k f_dead_rows fd_dead_rows ["rules"] sp_dead_rows) {f__law_patterns : Addr} {fd__law_patterns : FuncData} {sp__law_patterns : CSp} (F__law_patterns : FnF K mg "_law_patterns" s__law_patterns f__law_patterns fd__law_patterns ["_law_rules_here"]) (C__law_patterns : FnG P w K mg base L2.CX0 k f__law_patterns fd__law_patterns ["_law_rules_here"] sp__law_patterns) {f : Addr} {cdv : Value} {A : Around} {outer : List PySem.Env} {s : Shared} {H : Hp} {E : XK} (hr : RoomG k (A.deeper (envOfC "_law_right" (defScope s__law_right) s.heap.objs.size f cdv))) :
    SSs (cxOf L2.CX0 P w K mg base N__law_right "_law_right" (defScope s__law_right) f cdv A outer s H E).nox (defBody s__law_right) (t__law_right sp_dead_rows sp__law_patterns) := by
  have nd : N__law_right.Nodup := sc__law_right.nd
  exact ss_cons (ss_set 1 nd (s_dNew))
      (ss_cons (ss_for PassesOwn.never rfl (si_seq (s_call C__law_patterns hr F__law_patterns.m F__law_patterns.k F__law_patterns.b (sa_cons (sv 0) (sa_nil)))) (sg 2 nd) (ss_cons (ss_dput hr.u1 (sv 1) (s_bm PySem.F.plainAttrs_list PySem.F.slot_list_index m_indexL (s_op o_add (s_callT b_list T.b_list (sa_cons (sv 2) (sa_nil))) (s_lst (sa_cons (s_bl) (sa_nil)))) (sa_cons (s_bl) (sa_nil)) PySem.F.type_list_index) (s_bl))
      (ss_nil)))
      (ss_frz 1 (ss_cons (ss_set 3 nd (s_callT b_tuple T.b_tuple (sa_cons (s_lc rfl nd (si_range1 rfl T.b_range (sa_cons (s_callB b_len T.b_len (sa_cons (s_ix x_ix (sv 0) (s_int)) (sa_nil))) (sa_nil))) (own := [("_law_at", 4)]) (blkOk_by (N := N__law_right) (sc := defScope s__law_right) (by decide +kernel)) (fun _ _ _ _ _ => sg 4 nd) (fun _ _ _ _ _ => sts_one (st_dNotIn hr.u1 (sv 4) (sv 1))) (fun _ _ _ _ _ => sv 4)) (sa_nil))))
      (ss_cons (ss_ret (s_cmp (o_eq hr.u4) (s_callB (b_repr hr.u (hr.gd rfl)) T.b_repr (sa_cons (s_call C_dead_rows hr F_dead_rows.m F_dead_rows.k F_dead_rows.b (sa_cons (sv 0) (sa_nil))) (sa_nil))) (s_callB (b_repr hr.u (hr.gd rfl)) T.b_repr (sa_cons (sv 3) (sa_nil)))))
      (ss_nil)))))
theorem ok__law_right (T : Txt K mg) {f_dead_rows : Addr} {fd_dead_rows : FuncData} {sp_dead_rows : CSp} (F_dead_rows : FnF K mg "dead_rows" s_dead_rows f_dead_rows fd_dead_rows ["rules"]) (C_dead_rows : FnG P w K mg base L2.CX0 k f_dead_rows fd_dead_rows ["rules"] sp_dead_rows) {f__law_patterns : Addr} {fd__law_patterns : FuncData} {sp__law_patterns : CSp} (F__law_patterns : FnF K mg "_law_patterns" s__law_patterns f__law_patterns fd__law_patterns ["_law_rules_here"]) (C__law_patterns : FnG P w K mg base L2.CX0 k f__law_patterns fd__law_patterns ["_law_rules_here"] sp__law_patterns) {f : Addr} {fd : FuncData} {sp : CSp} (F : FnF K mg "_law_right" s__law_right f fd ["_law_rules_here"]) (pl : PL N__law_right ["_law_rules_here"] sp (t__law_right sp_dead_rows sp__law_patterns)) : FnG P w K mg base L2.CX0 (k + 1) f fd ["_law_rules_here"] sp :=
  fn_mk F.F sc__law_right pl.mono pl.len (fun cdv A outer s H E hr => bd__law_right T F_dead_rows C_dead_rows F__law_patterns C__law_patterns hr) pl.go
def b__law_right (m_dead_rows : List Cv → Option Cv) (m__law_patterns : List Cv → Option Cv) : MS :=
  mSeq (mAsgN (mC (.dK [])) 1)
      (mSeq (mFor (mSeqI (mCB (arg 1 m__law_patterns) (mCons (mVar 0) (mNil)))) (mgName 2) (mSeq (mDPut 1 (mMth fIndexL (mOp fAdd (mCB fListOf (mCons (mVar 2) (mNil))) (mLst (mCons (mC (.bl true)) (mNil)))) (mCons (mC (.bl true)) (mNil))) (mC (.bl true)))
      (mNext)) [2])
      (mFrz 1 (mSeq (mAsg (mCB fTupleOf (mCons (mLc (mRng1 (mCons (mCB fLen (mCons (mOp fIx (mVar 0) (mC (.int 0))) (mNil))) (mNil))) (mgName 4) (mB (mOp (fDIn true) (mVar 4) (mVar 1))) (mVar 4) [4]) (mNil))) (mgName 3))
      (mSeq (mRet (mOp fEq (mCB fRepr (mCons (mCB (arg 1 m_dead_rows) (mCons (mVar 0) (mNil))) (mNil))) (mCB fRepr (mCons (mVar 3) (mNil)))))
      (mNext)))))
theorem es__law_right {m_dead_rows : List Cv → Option Cv} {m__law_patterns : List Cv → Option Cv} : EvS (t__law_right (spM 1 m_dead_rows) (spM 1 m__law_patterns)) (b__law_right m_dead_rows m__law_patterns) :=
  es_seq (es_asgN (en_dNew))
      (es_seq (es_for (vs := [2]) (ei_seq (ev_call (ea_cons (ev_var) (ea_nil)))) (eg_name) (es_seq (es_dput (ev_indexL (ev_op e2_add (ev_cb ec_list (ea_cons (ev_var) (ea_nil))) (ev_lst (ea_cons (ev_c) (ea_nil)))) (ea_cons (ev_c) (ea_nil))) (ev_c))
      (es_next)))
      (es_frz (es_seq (es_asg (ev_cb ec_tuple (ea_cons (ev_lc (ei_rng1 (ea_cons (ev_cb ec_len (ea_cons (ev_op e2_ix (ev_var) (ev_c)) (ea_nil))) (ea_nil))) (eg_name) (et_b (ev_dIn (ev_var) (ev_var))) (ev_var)) (ea_nil))) eg_name)
      (es_seq (es_ret (ev_op e2_eqB (ev_cb ec_repr (ea_cons (ev_call (ea_cons (ev_var) (ea_nil))) (ea_nil))) (ev_cb ec_repr (ea_cons (ev_var) (ea_nil)))))
      (es_next)))))
theorem mst__law_right {a0 : Cv} : mstart N__law_right [a0] = [.pl a0, .no, .no, .no, .no] := rfl
def m__law_right (us : List Cv) : Option Cv := outM (b__law_right m_dead_rows m__law_patterns) (mstart N__law_right us)
abbrev N_law : List Str := ["_law_script", "_law_k", "_law_pot_here", "_law_turn", "_law_rules_here", "_law_rows", "_law_last", "_law_every", "_law_at", "_law_some", "_law_near"]
theorem sc_law : FnScope N_law ["_law_script"] (defScope s_law) := ⟨rfl, rfl, rfl, by decide +kernel, rfl, by decide +kernel, by decide +kernel⟩
def t_law (sp_dead_rows : CSp) (sp__law_within : CSp) (sp__law_right : CSp) (sp__law_bent_rules : CSp) (sp__law_take : CSp) (sp__law_rules : CSp) (sp__law_pot : CSp) : CS :=
  cSeq (cFor (cRng1 (cCons (cCB cMax (cCons (cC (.int 1)) (cCons (cCB cMin (cCons (cC (.int 3)) (cCons (cCB cLen (cCons (cVar 0) (cNil))) (cNil)))) (cNil)))) (cNil))) (cgName 1) (cSeq (cAsg (cCall sp__law_pot X0 (cCons (cVar 0) (cCons (cVar 1) (cNil)))) (cgName 2))
      (cSeq (cFor (cRng1 (cCons (cC (.int 4)) (cNil))) (cgName 3) (cSeq (cAsg (cCall sp__law_rules X0 (cCons (cVar 2) (cNil))) (cgName 4))
      (cSeq (cAsg (cVar 4) (cgTup 2 (cgCons (cgName 5) (cgCons (cgName 6) (cgNil)))))
      (cSeq (cAsg (cTup (cCons (cC (.str "a")) (cCons (cTup (cCons (cC (.str "any")) (cCons (cTup (cCons (cTup (cCons (cC (.str "in")) (cCons (cC (.int 10)) (cCons (cC (.int 0)) (cCons (cC (.int 4)) (cNil)))))) (cCons (cTup (cCons (cC (.str "in")) (cCons (cC (.int 10)) (cCons (cC (.int 5)) (cCons (cC (.int 9)) (cNil)))))) (cNil)))) (cNil)))) (cNil)))) (cgName 7))
      (cSeq (cAsg (cCall sp__law_take X0 (cCons (cVar 2) (cCons (cOp cAdd (cCB cLen (cCons (cVar 5) (cNil))) (cC (.int 1))) (cNil)))) (cgName 8))
      (cSeq (cAsg (cLstO (cCons (cVar 4) (cCons (cCall sp__law_bent_rules X0 (cCons (cVar 2) (cCons (cVar 4) (cNil)))) (cCons (cTup (cCons (cOp cAdd (cVar 5) (cSl cCut (cVar 5) (cNoPart) (cPart (cC (.int 1))))) (cCons (cVar 6) (cNil)))) (cNil))))) (cgName 9))
      (cSeq (cDrop (cBM "list" cAppend (cVar 9) (cCons (cTup (cCons (cOp cAdd (cOp cAdd (cSl cCut (cVar 5) (cNoPart) (cPart (cVar 8))) (cTup (cCons (cVar 7) (cNil)))) (cSl cCut (cVar 5) (cPart (cVar 8)) (cNoPart))) (cCons (cVar 6) (cNil)))) cNil)))
      (cFrz 9 (cSeq (cIfS (cNot (cB (cCB cAll (cCons (cLc (cSeqI (cVar 9)) (cgName 10) (cB (cCall sp__law_within X0 (cCons (cVar 10) (cNil)))) (cCall sp__law_right X0 (cCons (cVar 10) (cNil))) [10]) (cNil))))) (cSeq (cRet (cC (.bl false)))
      (cNext)) (cNext))
      (cNext))))))))))
      (cNext))))
      (cSeq (cRet (cOp cEq (cCall sp_dead_rows X0 (cCons (cTup (cCons (cTup (cNil)) (cCons (cC (.str "other")) (cNil)))) (cNil))) (cTup (cNil))))
      (cNext))
theorem bd_law (T : Txt K mg) {f_dead_rows : Addr} {fd_dead_rows : FuncData} {sp_dead_rows : CSp} (F_dead_rows : FnF K mg "dead_rows" s_dead_rows f_dead_rows fd_dead_rows ["rules"]) (C_dead_rows : FnG P w K mg base L2.CX0 k f_dead_rows fd_dead_rows ["rules"] sp_dead_rows) {f__law_within : Addr} {fd__law_within : FuncData} {sp__law_within : CSp} (F__law_within : FnF K mg "_law_within" s__law_within f__law_within fd__law_within ["_law_rules_here"]) (C__law_within : FnG P w K mg base L2.CX0 k f__law_within fd__law_within ["_law_rules_here"] sp__law_within) {f__law_right : Addr} {fd__law_right : FuncData} {sp__law_right : CSp} (F__law_right : FnF K mg "_law_right" s__law_right f__law_right fd__law_right ["_law_rules_here"]) (C__law_right : FnG P w K mg base L2.CX0 k f__law_right fd__law_right ["_law_rules_here"] sp__law_right) {f__law_bent_rules : Addr} {fd__law_bent_rules : FuncData} {sp__law_bent_rules : CSp} (F__law_bent_rules : FnF K mg "_law_bent_rules" s__law_bent_rules f__law_bent_rules fd__law_bent_rules ["_law_pot_here", "_law_rules_here"]) (C__law_bent_rules : FnG P w K mg base L2.CX0 k f__law_bent_rules fd__law_bent_rules ["_law_pot_here", "_law_rules_here"] sp__law_bent_rules) {f__law_take : Addr} {fd__law_take : FuncData} {sp__law_take : CSp} (F__law_take : FnF K mg "_law_take" s__law_take f__law_take fd__law_take ["_law_pot_here", "_law_upto"]) (C__law_take : FnG P w K mg base L2.CX0 k f__law_take fd__law_take ["_law_pot_here", "_law_upto"] sp__law_take) {f__law_rules : Addr} {fd__law_rules : FuncData} {sp__law_rules : CSp} (F__law_rules : FnF K mg "_law_rules" s__law_rules f__law_rules fd__law_rules ["_law_pot_here"]) (C__law_rules : FnG P w K mg base L2.CX0 k f__law_rules fd__law_rules ["_law_pot_here"] sp__law_rules) {f__law_pot : Addr} {fd__law_pot : FuncData} {sp__law_pot : CSp} (F__law_pot : FnF K mg "_law_pot" s__law_pot f__law_pot fd__law_pot ["_law_script", "_law_k"]) (C__law_pot : FnG P w K mg base L2.CX0 k f__law_pot fd__law_pot ["_law_script", "_law_k"] sp__law_pot) {f : Addr} {cdv : Value} {A : Around} {outer : List PySem.Env} {s : Shared} {H : Hp} {E : XK} (hr : RoomG k (A.deeper (envOfC "law" (defScope s_law) s.heap.objs.size f cdv))) :
    SSs (cxOf L2.CX0 P w K mg base N_law "law" (defScope s_law) f cdv A outer s H E).nox (defBody s_law) (t_law sp_dead_rows sp__law_within sp__law_right sp__law_bent_rules sp__law_take sp__law_rules sp__law_pot) := by
  have nd : N_law.Nodup := sc_law.nd
  exact ss_cons (ss_for PassesOwn.never rfl (si_range1 rfl T.b_range (sa_cons (s_callB (b_max rfl) T.b_max (sa_cons (s_int) (sa_cons (s_callB (b_min rfl) T.b_min (sa_cons (s_int) (sa_cons (s_callB b_len T.b_len (sa_cons (sv 0) (sa_nil))) (sa_nil)))) (sa_nil)))) (sa_nil))) (sg 1 nd) (ss_cons (ss_set 2 nd (s_call C__law_pot hr F__law_pot.m F__law_pot.k F__law_pot.b (sa_cons (sv 0) (sa_cons (sv 1) (sa_nil)))))
      (ss_cons (ss_for PassesOwn.never rfl (si_range1 rfl T.b_range (sa_cons (s_int) (sa_nil))) (sg 3 nd) (ss_cons (ss_set 4 nd (s_call C__law_rules hr F__law_rules.m F__law_rules.k F__law_rules.b (sa_cons (sv 2) (sa_nil))))
      (ss_cons (ss_asg (sv 4) (sg_tup rfl (sgs_cons (sg 5 nd) (sgs_cons (sg 6 nd) (sgs_nil)))))
      (ss_cons (ss_set 7 nd (s_tup (sa_cons (s_str) (sa_cons (s_tup (sa_cons (s_str) (sa_cons (s_tup (sa_cons (s_tup (sa_cons (s_str) (sa_cons (s_int) (sa_cons (s_int) (sa_cons (s_int) (sa_nil)))))) (sa_cons (s_tup (sa_cons (s_str) (sa_cons (s_int) (sa_cons (s_int) (sa_cons (s_int) (sa_nil)))))) (sa_nil)))) (sa_nil)))) (sa_nil)))))
      (ss_cons (ss_set 8 nd (s_call C__law_take hr F__law_take.m F__law_take.k F__law_take.b (sa_cons (sv 2) (sa_cons (s_op o_add (s_callB b_len T.b_len (sa_cons (sv 5) (sa_nil))) (s_int)) (sa_nil)))))
      (ss_cons (ss_set 9 nd (s_lstO (sa_cons (sv 4) (sa_cons (s_call C__law_bent_rules hr F__law_bent_rules.m F__law_bent_rules.k F__law_bent_rules.b (sa_cons (sv 2) (sa_cons (sv 4) (sa_nil)))) (sa_cons (s_tup (sa_cons (s_op o_add (sv 5) (s_slice (sv 5) (so_none) (so_some (s_int)))) (sa_cons (sv 6) (sa_nil)))) (sa_nil))))))
      (ss_cons (ss_expr (s_bm PySem.F.plainAttrs_list PySem.F.slot_list_append m_append (sv 9) (sa_cons (s_tup (sa_cons (s_op o_add (s_op o_add (s_slice (sv 5) (so_none) (so_some (sv 8))) (s_tup (sa_cons (sv 7) (sa_nil)))) (s_slice (sv 5) (so_some (sv 8)) (so_none))) (sa_cons (sv 6) (sa_nil)))) sa_nil) PySem.F.type_list_append))
      (ss_frz 9 (ss_cons (ss_if (st_not (st_val (s_callB (b_all rfl) T.b_all (sa_cons (s_lc rfl nd (si_seq (sv 9)) (own := [("_law_near", 10)]) (blkOk_by (N := N_law) (sc := defScope s_law) (by decide +kernel)) (fun _ _ _ _ _ => sg 10 nd) (fun _ _ _ _ _ => sts_one (st_val (s_call C__law_within hr F__law_within.m F__law_within.k F__law_within.b (sa_cons (sv 10) (sa_nil))))) (fun _ _ _ _ _ => s_call C__law_right hr F__law_right.m F__law_right.k F__law_right.b (sa_cons (sv 10) (sa_nil)))) (sa_nil))))) (ss_cons (ss_ret (s_bl))
      (ss_nil)) (ss_nil))
      (ss_nil))))))))))
      (ss_nil))))
      (ss_cons (ss_ret (s_cmp (o_eq hr.u4) (s_call C_dead_rows hr F_dead_rows.m F_dead_rows.k F_dead_rows.b (sa_cons (s_tup (sa_cons (s_tup (sa_nil)) (sa_cons (s_str) (sa_nil)))) (sa_nil))) (s_tup (sa_nil))))
      (ss_nil))
theorem ok_law (T : Txt K mg) {f_dead_rows : Addr} {fd_dead_rows : FuncData} {sp_dead_rows : CSp} (F_dead_rows : FnF K mg "dead_rows" s_dead_rows f_dead_rows fd_dead_rows ["rules"]) (C_dead_rows : FnG P w K mg base L2.CX0 k f_dead_rows fd_dead_rows ["rules"] sp_dead_rows) {f__law_within : Addr} {fd__law_within : FuncData} {sp__law_within : CSp} (F__law_within : FnF K mg "_law_within" s__law_within f__law_within fd__law_within ["_law_rules_here"]) (C__law_within : FnG P w K mg base L2.CX0 k f__law_within fd__law_within ["_law_rules_here"] sp__law_within) {f__law_right : Addr} {fd__law_right : FuncData} {sp__law_right : CSp} (F__law_right : FnF K mg "_law_right" s__law_right f__law_right fd__law_right ["_law_rules_here"]) (C__law_right : FnG P w K mg base L2.CX0 k f__law_right fd__law_right ["_law_rules_here"] sp__law_right) {f__law_bent_rules : Addr} {fd__law_bent_rules : FuncData} {sp__law_bent_rules : CSp} (F__law_bent_rules : FnF K mg "_law_bent_rules" s__law_bent_rules f__law_bent_rules fd__law_bent_rules ["_law_pot_here", "_law_rules_here"]) (C__law_bent_rules : FnG P w K mg base L2.CX0 k f__law_bent_rules fd__law_bent_rules ["_law_pot_here", "_law_rules_here"] sp__law_bent_rules) {f__law_take : Addr} {fd__law_take : FuncData} {sp__law_take : CSp} (F__law_take : FnF K mg "_law_take" s__law_take f__law_take fd__law_take ["_law_pot_here", "_law_upto"]) (C__law_take : FnG P w K mg base L2.CX0 k f__law_take fd__law_take ["_law_pot_here", "_law_upto"] sp__law_take) {f__law_rules : Addr} {fd__law_rules : FuncData} {sp__law_rules : CSp} (F__law_rules : FnF K mg "_law_rules" s__law_rules f__law_rules fd__law_rules ["_law_pot_here"]) (C__law_rules : FnG P w K mg base L2.CX0 k f__law_rules fd__law_rules ["_law_pot_here"] sp__law_rules) {f__law_pot : Addr} {fd__law_pot : FuncData} {sp__law_pot : CSp} (F__law_pot : FnF K mg "_law_pot" s__law_pot f__law_pot fd__law_pot ["_law_script", "_law_k"]) (C__law_pot : FnG P w K mg base L2.CX0 k f__law_pot fd__law_pot ["_law_script", "_law_k"] sp__law_pot) {f : Addr} {fd : FuncData} {sp : CSp} (F : FnF K mg "law" s_law f fd ["_law_script"]) (pl : PL N_law ["_law_script"] sp (t_law sp_dead_rows sp__law_within sp__law_right sp__law_bent_rules sp__law_take sp__law_rules sp__law_pot)) : FnG P w K mg base L2.CX0 (k + 1) f fd ["_law_script"] sp :=
  fn_mk F.F sc_law pl.mono pl.len (fun cdv A outer s H E hr => bd_law T F_dead_rows C_dead_rows F__law_within C__law_within F__law_right C__law_right F__law_bent_rules C__law_bent_rules F__law_take C__law_take F__law_rules C__law_rules F__law_pot C__law_pot hr) pl.go
def b_law (m_dead_rows : List Cv → Option Cv) (m__law_within : List Cv → Option Cv) (m__law_right : List Cv → Option Cv) (m__law_bent_rules : List Cv → Option (Cv × Cv)) (m__law_take : List Cv → Option (Cv × Cv)) (m__law_rules : List Cv → Option (Cv × Cv)) (m__law_pot : List Cv → Option Cv) : XS :=
  xSeq (xFor (xpA (mRng1 (mCons (mCB fMax (mCons (mC (.int 1)) (mCons (mCB fMin (mCons (mC (.int 3)) (mCons (mCB fLen (mCons (mVar 0) (mNil))) (mNil)))) (mNil)))) (mNil)))) (mgName 1) (xSeq (xAsgN (xCB (arg 2 m__law_pot) (xCons (xp (mVar 0)) (xCons (xp (mVar 1)) (xNil)))) 2)
      (xSeq (xFor (xpA (mRng1 (mCons (mC (.int 4)) (mNil)))) (mgName 3) (xSeq (xAsg (xCall 1 2 m__law_rules (xNil)) (mgName 4))
      (xSeq (xAsg (xp (mVar 4)) (mgTup 2 (mgCons (mgName 5) (mgCons (mgName 6) (mgNil)))))
      (xSeq (xAsg (xp (mTup (mCons (mC (.str "a")) (mCons (mTup (mCons (mC (.str "any")) (mCons (mTup (mCons (mTup (mCons (mC (.str "in")) (mCons (mC (.int 10)) (mCons (mC (.int 0)) (mCons (mC (.int 4)) (mNil)))))) (mCons (mTup (mCons (mC (.str "in")) (mCons (mC (.int 10)) (mCons (mC (.int 5)) (mCons (mC (.int 9)) (mNil)))))) (mNil)))) (mNil)))) (mNil))))) (mgName 7))
      (xSeq (xAsg (xCall 2 2 m__law_take (xCons (xp (mOp fAdd (mCB fLen (mCons (mVar 5) (mNil))) (mC (.int 1)))) (xNil))) (mgName 8))
      (xSeq (xAsgN (xLst (xCons (xp (mVar 4)) (xCons (xCall 2 2 m__law_bent_rules (xCons (xp (mVar 4)) (xNil))) (xCons (xp (mTup (mCons (mOp fAdd (mVar 5) (mSl fCut (mVar 5) (mNoPart) (mPart (mC (.int 1))))) (mCons (mVar 6) (mNil))))) (xNil))))) 9)
      (xSeq (xAppend 9 (xp (mTup (mCons (mOp fAdd (mOp fAdd (mSl fCut (mVar 5) (mNoPart) (mPart (mVar 8))) (mTup (mCons (mVar 7) (mNil)))) (mSl fCut (mVar 5) (mPart (mVar 8)) (mNoPart))) (mCons (mVar 6) (mNil))))))
      (xFrz 9 (xSeq (xIfS (xpT (mNot (mB (mCB fAll (mCons (mLc (mSeqI (mVar 9)) (mgName 10) (mB (mCB (arg 1 m__law_within) (mCons (mVar 10) (mNil)))) (mCB (arg 1 m__law_right) (mCons (mVar 10) (mNil))) [10]) (mNil)))))) (xSeq (xRet (xp (mC (.bl false))))
      (xNext)) (xNext))
      (xNext))))))))) [3, 4, 5, 6, 7, 8, 9, 10])
      (xNext))) [1, 2, 3, 4, 5, 6, 7, 8, 9, 10])
      (xSeq (xRet (xp (mOp fEq (mCB (arg 1 m_dead_rows) (mCons (mTup (mCons (mTup (mNil)) (mCons (mC (.str "other")) (mNil)))) (mNil))) (mTup (mNil)))))
      (xNext))
theorem es_law {m_dead_rows : List Cv → Option Cv} {m__law_within : List Cv → Option Cv} {m__law_right : List Cv → Option Cv} {m__law_bent_rules : List Cv → Option (Cv × Cv)} {m__law_take : List Cv → Option (Cv × Cv)} {m__law_rules : List Cv → Option (Cv × Cv)} {m__law_pot : List Cv → Option Cv} : EvXS pN WF (t_law (spM 1 m_dead_rows) (spM 1 m__law_within) (spM 1 m__law_right) (spX 2 m__law_bent_rules) (spX 2 m__law_take) (spX 1 m__law_rules) (spN 2 m__law_pot)) (b_law m_dead_rows m__law_within m__law_right m__law_bent_rules m__law_take m__law_rules m__law_pot) :=
  CL.ss_seq (ss_forX (vs := [1, 2, 3, 4, 5, 6, 7, 8, 9, 10]) (xi_p (ei_rng1 (ea_cons (ev_cb ec_max (ea_cons (ev_c) (ea_cons (ev_cb ec_min (ea_cons (ev_c) (ea_cons (ev_cb ec_len (ea_cons (ev_var) (ea_nil))) (ea_nil)))) (ea_nil)))) (ea_nil)))) (xg_name) (CL.ss_seq (ss_asgN (xn_call (xa_cons (ex_p (ev_var)) (xa_cons (ex_p (ev_var)) (xa_nil)))))
      (CL.ss_seq (ss_forX (vs := [3, 4, 5, 6, 7, 8, 9, 10]) (xi_p (ei_rng1 (ea_cons (ev_c) (ea_nil)))) (xg_name) (CL.ss_seq (ss_asgX (ex_callX (xa_nil)) xg_name)
      (CL.ss_seq (ss_asgX (ex_p (ev_var)) (xg_tup (xg_cons (xg_name) (xg_cons (xg_name) (xg_nil)))))
      (CL.ss_seq (ss_asgX (ex_p (ev_tup (ea_cons (ev_c) (ea_cons (ev_tup (ea_cons (ev_c) (ea_cons (ev_tup (ea_cons (ev_tup (ea_cons (ev_c) (ea_cons (ev_c) (ea_cons (ev_c) (ea_cons (ev_c) (ea_nil)))))) (ea_cons (ev_tup (ea_cons (ev_c) (ea_cons (ev_c) (ea_cons (ev_c) (ea_cons (ev_c) (ea_nil)))))) (ea_nil)))) (ea_nil)))) (ea_nil))))) xg_name)
      (CL.ss_seq (ss_asgX (ex_callX (xa_cons (ex_p (ev_op e2_add (ev_cb ec_len (ea_cons (ev_var) (ea_nil))) (ev_c))) (xa_nil))) xg_name)
      (CL.ss_seq (ss_asgN (xn_lst (xa_cons (ex_p (ev_var)) (xa_cons (ex_callX (xa_cons (ex_p (ev_var)) (xa_nil))) (xa_cons (ex_p (ev_tup (ea_cons (ev_op e2_add (ev_var) (ev_sl esl_cut (ev_var) (eo_none) (eo_some (ev_c)))) (ea_cons (ev_var) (ea_nil))))) (xa_nil))))))
      (CL.ss_seq (ss_append (ex_p (ev_tup (ea_cons (ev_op e2_add (ev_op e2_add (ev_sl esl_cut (ev_var) (eo_none) (eo_some (ev_var))) (ev_tup (ea_cons (ev_var) (ea_nil)))) (ev_sl esl_cut (ev_var) (eo_some (ev_var)) (eo_none))) (ea_cons (ev_var) (ea_nil))))))
      (ss_frzX (CL.ss_seq (ss_ifX (xt_p (et_not (et_b (ev_cb ec_bools (ea_cons (ev_lc (ei_seq (ev_var)) (eg_name) (et_b (ev_call (ea_cons (ev_var) (ea_nil)))) (ev_call (ea_cons (ev_var) (ea_nil)))) (ea_nil)))))) (CL.ss_seq (ss_ret' (ex_p (ev_c)))
      (CL.ss_next)) (CL.ss_next))
      (CL.ss_next))))))))))
      (CL.ss_next))))
      (CL.ss_seq (ss_ret' (ex_p (ev_op e2_eqB (ev_call (ea_cons (ev_tup (ea_cons (ev_tup (ea_nil)) (ea_cons (ev_c) (ea_nil)))) (ea_nil))) (ev_tup (ea_nil)))))
      (CL.ss_next))
theorem mst_law {a0 : Cv} : mstart N_law [a0] = [.pl a0, .no, .no, .no, .no, .no, .no, .no, .no, .no, .no] := rfl
def m_law (us : List Cv) : Option Cv := runV N_law (b_law m_dead_rows m__law_within m__law_right m__law_bent_rules m__law_take m__law_rules m__law_pot) us
end Lw
set_option maxHeartbeats 2000000
namespace Lw
open PySem PySem.Spec PyProof.Rows L2 CL
local macro_rules
  | `(tactic| simp! [$xs,*]) => `(tactic| simp only [w_bor, q_notInG, w_addN, q_notInS, q_tOnly, q_tput, q_tsetd, q_asgTsetd, q_fTIx, q_fTIn, q_tget2, q_tget1, q_tOIx, q_tOIn, q_tOGet2, q_tOGet1, q_lstIt, q_tupIt, w_mth, w_tupF, q_ltS, q_argK1, q_argK2, q_argK2', q_argK3a, q_argK3b, q_argK3c, q_argK3d, q_argK3e, q_argK3f, q_mtupF, q_tupF1, q_tupF2, q_tupF3, q_ord, q_msetL, q_wkF, q_wkT, q_wkL, q_wkN, q_wkS, q_wkI, q_wkB, q_tupleF, q_dictL, q_dictF, q_mth, q_fIndexL, q_zipI, q_fZipL, q_fZipT, q_isBB, q_revT, q_fRevT, q_inS, q_oIx, q_oIn, q_oGet2, q_oGet1, q_dc, q_disp1, q_keyS, q_keyI, q_mrg0, q_mrg, q_put0, q_dkOnly, q_dput, q_setd, q_asgSetd, q_fDIx, q_fDIn, q_dget2, q_dget1, q_fget2, q_fget1, w_m, w_rzN, q_mulAI, q_mulAL, q_rng3, q_isiTT, q_isiLT, q_isiST, q_isiIT, q_isiBT, q_isiNT, q_isiTS, q_isiLS, q_isiSS, q_isiIS, q_isiBS, q_isiNS, q_isiTI, q_isiLI, q_isiSI, q_isiII, q_isiBI, q_isiNI, q_isiTB, q_isiLB, q_isiSB, q_isiIB, q_isiBB, q_isiNB, w_bx, w_bxe, w_sx, w_sxe, w_lift, w_iteT, w_iteF, w_iteN, w_p, w_pT, w_pA, w_op, w_un, w_b, w_not, w_and, w_or, w_notV, w_andV, w_orV, w_if, w_nil, w_cons, w_tup, w_lst, w_cb, w_seqI, w_rng1, w_rng2, w_lc, w_noEx, w_lcL0, w_call, w_argX1, w_argX2, w_argX3, w_argX4, w_pop, w_popAt, w_nxt, w_setc0, w_setc1, w_setc2, w_seq, w_thN, w_thR, w_thO, w_thB, w_thC, w_thE, w_asg, w_asgN, w_drop, w_ret, w_retN, w_retO, w_ifS, w_brk, w_cnt, w_for, w_forL0, w_lkN, w_lkC, w_lkB, w_lkR, w_lkO, w_lkE, w_aug, w_h2, w_h3, w_j2, w_j3, w_par, w_par3, w_parO, w_parO3, w_frz, w_append, w_extend, w_setL, w_runP, w_runV, w_runN, w_outP, w_outPN, w_outV, w_outVN, w_outO, w_rest0, w_rest, q_revL, q_fRev, ite_t, ite_f, ite_n, q_var0, q_varS, q_c, q_op, q_un, q_b, q_fB, q_and, q_or, q_not, q_andV, q_orV, q_notV, q_if, q_chain, q_nil, q_cons, q_tup, q_lst, q_cb, q_ckw, q_noPart, q_part, q_fPart, q_sl, q_gname, q_gnil, q_gcons, q_gtup2, q_gtup3, q_gtup4, q_seqI, q_fSeqT, q_fSeqL, q_fSeqS, q_rng1, q_rng2, q_enumI, q_fEnumT, q_fEnumL, q_arg0, q_arg1, q_arg2, q_arg3, q_arg4, q_arg5, q_next, q_seq, q_thenN, q_thenR, q_thenB, q_thenC, q_asg, q_drop, q_ret, q_retN, q_ifS, q_break, q_cont, q_for, q_forL0, q_forL, q_loopN, q_loopC, q_loopB, q_loopR, q_while, q_loopWN, q_loopWC, q_loopWB, q_loopWR, q_slP, q_slO, q_aug, q_f2, q_f3, q_par, q_par3, q_g2, q_g3, q_parO, q_parO3, q_oNil, q_oP, q_oN, q_asgN, q_frz, q_bor, q_borT, q_thO, q_thP, q_thN, q_ttI, q_ttB, q_ttS, q_append, q_lstOnly, q_extend, q_lc, q_lc2, q_wipe0, q_wipe, q_fI, q_addI, q_eqI, q_eqS, q_isNN, q_isNI, q_isNT, q_isNS, q_isNB, q_ixT, q_ixL, q_at0, q_at1, q_at2, q_at3, q_neg, q_cutT, q_cutL, q_lenT, q_lenL, q_abs, q_lenR, q_ixR, q_intB, q_intI, q_tupL, q_tupT, q_listL, q_listT, q_max2, q_min2, q_maxC, q_minC, q_maxD, q_minD, q_sum, q_allM, q_anyM, q_tup0, q_tup1, q_tup2, q_tup3, q_tup4, q_lst0, q_lst1, q_lst2, q_lst3, q_lst4, q_lst5, q_lst6, q_lst7, q_lst8, q_lst9, q_lst10, q_lst11, q_lst12, q_tup5, q_tup6, q_tup7, q_tup8, q_out, q_outR, q_outN, Option.bind_some, Option.map_some, Option.bind_none, Option.map_none, List.set_cons_zero, List.set_cons_succ, List.getElem?_cons_zero, List.getElem?_cons_succ, List.map_cons, List.map_nil, List.cons_append, List.nil_append, reduceCtorEq, reduceIte, decide_true, decide_false, Bool.false_eq_true, $xs,*])
theorem nb60s : NB (10 ^ Int.toNat 60) 200 := by
  show ((10 : Int) ^ 60).natAbs < 2 ^ 200
  decide
theorem m_pot_eq {ns : List Int} {k : Int} (h0 : 0 ≤ k) (h1 : k < 1000000) : ∃ st, m__law_pot [.scr (ns.map Cv.int), .int k] = some st ∧ PotV st 0 := by
  rw [m__law_pot, b__law_pot]
  simp only [w_runN, mst__law_pot, w_seq, w_asg, w_p]
  generalize hm : mIf _ _ _ _ = o
  obtain ⟨c, rfl⟩ : ∃ c : Int, o = some (.int c) := by
    rw [← hm]
    by_cases h : k < ns.length
    · obtain ⟨w, hw, ew⟩ := atI_mem (xs := ns.map Cv.int) (i := k) h0 (by simpa using h)
      obtain ⟨c, _, rfl⟩ := List.mem_map.mp hw
      simp! [List.length_map, h, ew]
      exact ⟨_, rfl⟩
    · simp! [List.length_map, h]
      rw [q_mulN (k := 23) (by (repeat' with_reducible first | (refine NB.v1 (by omega)) | exact nb60 | exact nb10 | exact nb300 | refine NB.mod (by omega) ?_ | refine NB.mul1 ?_ ?_ | refine NB.add1 ?_ ?_ | refine NB.sub1 ?_ ?_ | refine NB.div (by omega) ?_ | refine NB.abs ?_ | refine NB.pow1 ?_ | assumption)) (by (repeat' with_reducible first | (refine NB.v1 (by omega)) | exact nb60 | exact nb10 | exact nb300 | refine NB.mod (by omega) ?_ | refine NB.mul1 ?_ ?_ | refine NB.add1 ?_ ?_ | refine NB.sub1 ?_ ?_ | refine NB.div (by omega) ?_ | refine NB.abs ?_ | refine NB.pow1 ?_ | assumption))]
      simp! [q_ev0]
      exact ⟨_, rfl⟩
  clear hm
  simp! [q_ev0]
  rw [q_powN (k := 10) (l := 60) (by (repeat' with_reducible first | (refine NB.v1 (by omega)) | exact nb60 | exact nb10 | exact nb300 | refine NB.mod (by omega) ?_ | refine NB.mul1 ?_ ?_ | refine NB.add1 ?_ ?_ | refine NB.sub1 ?_ ?_ | refine NB.div (by omega) ?_ | refine NB.abs ?_ | refine NB.pow1 ?_ | assumption)) (by decide)]
  simp! [q_ev0]
  rw [q_powN (l := 5) (nb60s.mono (by decide)) (by decide)]
  simp! [q_ev0]
  rw [q_mod p300, q_powN (k := 10) (l := 18) (by (repeat' with_reducible first | (refine NB.v1 (by omega)) | exact nb60 | exact nb10 | exact nb300 | refine NB.mod (by omega) ?_ | refine NB.mul1 ?_ ?_ | refine NB.add1 ?_ ?_ | refine NB.sub1 ?_ ?_ | refine NB.div (by omega) ?_ | refine NB.abs ?_ | refine NB.pow1 ?_ | assumption)) (by decide)]
  simp! [q_ev0]
  rw [q_mulN (NB.mod p300 (NB.mono (NB.pow nb60s (by decide) (Int.toNat 5)) (by decide))) (by split <;> exact NB.v1 (by decide))]
  simp! [q_ev0]
  rw [q_mod (l := 2305843009213693951) (by decide)]
  simp! [q_ev0]
  rw [q_mulN (k := c % 2305843009213693951) (by (repeat' with_reducible first | (refine NB.v1 (by omega)) | exact nb60 | exact nb10 | exact nb300 | refine NB.mod (by omega) ?_ | refine NB.mul1 ?_ ?_ | refine NB.add1 ?_ ?_ | refine NB.sub1 ?_ ?_ | refine NB.div (by omega) ?_ | refine NB.abs ?_ | refine NB.pow1 ?_ | assumption)) (by (repeat' with_reducible first | (refine NB.v1 (by omega)) | exact nb60 | exact nb10 | exact nb300 | refine NB.mod (by omega) ?_ | refine NB.mul1 ?_ ?_ | refine NB.add1 ?_ ?_ | refine NB.sub1 ?_ ?_ | refine NB.div (by omega) ?_ | refine NB.abs ?_ | refine NB.pow1 ?_ | assumption)), q_mulN (k := 7919) (by (repeat' with_reducible first | (refine NB.v1 (by omega)) | exact nb60 | exact nb10 | exact nb300 | refine NB.mod (by omega) ?_ | refine NB.mul1 ?_ ?_ | refine NB.add1 ?_ ?_ | refine NB.sub1 ?_ ?_ | refine NB.div (by omega) ?_ | refine NB.abs ?_ | refine NB.pow1 ?_ | assumption)) (by (repeat' with_reducible first | (refine NB.v1 (by omega)) | exact nb60 | exact nb10 | exact nb300 | refine NB.mod (by omega) ?_ | refine NB.mul1 ?_ ?_ | refine NB.add1 ?_ ?_ | refine NB.sub1 ?_ ?_ | refine NB.div (by omega) ?_ | refine NB.abs ?_ | refine NB.pow1 ?_ | assumption))]
  simp! [q_ev0]
  rw [q_mulN (by (repeat' with_reducible first | (refine NB.v1 (by omega)) | exact nb60 | exact nb10 | exact nb300 | refine NB.mod (by omega) ?_ | refine NB.mul1 ?_ ?_ | refine NB.add1 ?_ ?_ | refine NB.sub1 ?_ ?_ | refine NB.div (by omega) ?_ | refine NB.abs ?_ | refine NB.pow1 ?_ | assumption)) (by (repeat' with_reducible first | (refine NB.v1 (by omega)) | exact nb60 | exact nb10 | exact nb300 | refine NB.mod (by omega) ?_ | refine NB.mul1 ?_ ?_ | refine NB.add1 ?_ ?_ | refine NB.sub1 ?_ ?_ | refine NB.div (by omega) ?_ | refine NB.abs ?_ | refine NB.pow1 ?_ | assumption))]
  simp! [q_ev0]
  rw [q_mod (l := 2305843009213693921) (by decide)]
  simp! [q_ev0]
  obtain ⟨p0, p1⟩ := pot_own (c := (c.natAbs : Int)) (m := (10 ^ Int.toNat 60) ^ Int.toNat 5) (b := decide ((10 : Int) ^ Int.toNat 18 ≤ c.natAbs)) p300 p300le
  exact ⟨_, rfl, _, _, _, rfl, p0, p1, Int.emod_nonneg _ (by decide), Int.lt_trans (Int.emod_lt_of_pos _ (by decide)) (by decide), by decide, by decide⟩
theorem m_take_eq {st : Cv} {b u : Int} (h : PotV st b) (hb : b < 1000000000) (h0 : 0 < u) (h1 : u < 2 ^ 63) : ∃ r st', m__law_take [st, .int u] = some (.int r, st') ∧ 0 ≤ r ∧ r < u ∧ PotV st' (b + 1) := by
  obtain ⟨o, s, n, rfl, a1, a2, a3, a4, a5, a6⟩ := h
  rw [m__law_take, b__law_take]
  by_cases ho : 0 < o
  · simp! [ho, mst__law_take]
    rw [q_mod h0]
    simp! [q_ev0]
    rw [q_fdN h0 (by (repeat' with_reducible first | (refine NB.v1 (by omega)) | exact nb60 | exact nb10 | exact nb300 | refine NB.mod (by omega) ?_ | refine NB.mul1 ?_ ?_ | refine NB.add1 ?_ ?_ | refine NB.sub1 ?_ ?_ | refine NB.div (by omega) ?_ | refine NB.abs ?_ | refine NB.pow1 ?_ | assumption))]
    simp! [q_ev0]
    have d1 := Int.ediv_nonneg a1 (show 0 ≤ u by omega)
    have d2 : o / u ≤ o := Int.ediv_le_self u a1
    exact ⟨_, _, rfl, Int.emod_nonneg o (by omega), Int.emod_lt_of_pos o h0, _, _, _, rfl, d1, by omega, a3, a4, a5, by omega⟩
  · simp! [ho, mst__law_take]
    rw [q_mod (k := n + 1) (l := 5) (by decide)]
    simp! [q_ev0]
    obtain ⟨w, hw, ew⟩ := atI_mem (xs := [Cv.int 2147483647, .int 2147483629, .int 2147483587, .int 2147483579, .int 2147483563]) (i := (n + 1) % 5) (Int.emod_nonneg _ (by decide)) (by have := Int.emod_lt_of_pos (n + 1) (show (0 : Int) < 5 by decide); simp only [List.length_cons, List.length_nil]; omega)
    obtain ⟨p, rfl, p0, p1⟩ : ∃ p : Int, w = .int p ∧ 2147483563 ≤ p ∧ p ≤ 2147483647 := by
      simp only [List.mem_cons, List.not_mem_nil, or_false] at hw
      rcases hw with h | h | h | h | h <;> exact ⟨_, h, by decide, by decide⟩
    simp! [ew]
    rw [q_mulN (k := 99989) (l := n + 1) (by (repeat' with_reducible first | (refine NB.v1 (by omega)) | exact nb60 | exact nb10 | exact nb300 | refine NB.mod (by omega) ?_ | refine NB.mul1 ?_ ?_ | refine NB.add1 ?_ ?_ | refine NB.sub1 ?_ ?_ | refine NB.div (by omega) ?_ | refine NB.abs ?_ | refine NB.pow1 ?_ | assumption)) (by (repeat' with_reducible first | (refine NB.v1 (by omega)) | exact nb60 | exact nb10 | exact nb300 | refine NB.mod (by omega) ?_ | refine NB.mul1 ?_ ?_ | refine NB.add1 ?_ ?_ | refine NB.sub1 ?_ ?_ | refine NB.div (by omega) ?_ | refine NB.abs ?_ | refine NB.pow1 ?_ | assumption))]
    simp! [q_ev0]
    rw [q_mulN (by (repeat' with_reducible first | (refine NB.v1 (by omega)) | exact nb60 | exact nb10 | exact nb300 | refine NB.mod (by omega) ?_ | refine NB.mul1 ?_ ?_ | refine NB.add1 ?_ ?_ | refine NB.sub1 ?_ ?_ | refine NB.div (by omega) ?_ | refine NB.abs ?_ | refine NB.pow1 ?_ | assumption)) (by (repeat' with_reducible first | (refine NB.v1 (by omega)) | exact nb60 | exact nb10 | exact nb300 | refine NB.mod (by omega) ?_ | refine NB.mul1 ?_ ?_ | refine NB.add1 ?_ ?_ | refine NB.sub1 ?_ ?_ | refine NB.div (by omega) ?_ | refine NB.abs ?_ | refine NB.pow1 ?_ | assumption))]
    simp! [q_ev0]
    rw [q_powN (by (repeat' with_reducible first | (refine NB.v1 (by omega)) | exact nb60 | exact nb10 | exact nb300 | refine NB.mod (by omega) ?_ | refine NB.mul1 ?_ ?_ | refine NB.add1 ?_ ?_ | refine NB.sub1 ?_ ?_ | refine NB.div (by omega) ?_ | refine NB.abs ?_ | refine NB.pow1 ?_ | assumption)) (by decide)]
    simp! [q_ev0]
    rw [q_mod (show 0 < p by omega)]
    generalize hx : (s + 99989 * (n + 1) * (n + 1) + 31) ^ Int.toNat 3 % p = x
    have x0 : 0 ≤ x := by rw [← hx]; exact Int.emod_nonneg _ (by omega)
    have x1 : x < p := by rw [← hx]; exact Int.emod_lt_of_pos _ (by omega)
    simp! [q_ev0]
    rw [q_mod (k := x) (l := 10007) (by decide), q_mulN (k := 79) (l := n + 1) (by (repeat' with_reducible first | (refine NB.v1 (by omega)) | exact nb60 | exact nb10 | exact nb300 | refine NB.mod (by omega) ?_ | refine NB.mul1 ?_ ?_ | refine NB.add1 ?_ ?_ | refine NB.sub1 ?_ ?_ | refine NB.div (by omega) ?_ | refine NB.abs ?_ | refine NB.pow1 ?_ | assumption)) (by (repeat' with_reducible first | (refine NB.v1 (by omega)) | exact nb60 | exact nb10 | exact nb300 | refine NB.mod (by omega) ?_ | refine NB.mul1 ?_ ?_ | refine NB.add1 ?_ ?_ | refine NB.sub1 ?_ ?_ | refine NB.div (by omega) ?_ | refine NB.abs ?_ | refine NB.pow1 ?_ | assumption))]
    simp! [q_ev0]
    rw [q_mulN (by (repeat' with_reducible first | (refine NB.v1 (by omega)) | exact nb60 | exact nb10 | exact nb300 | refine NB.mod (by omega) ?_ | refine NB.mul1 ?_ ?_ | refine NB.add1 ?_ ?_ | refine NB.sub1 ?_ ?_ | refine NB.div (by omega) ?_ | refine NB.abs ?_ | refine NB.pow1 ?_ | assumption)) (by (repeat' with_reducible first | (refine NB.v1 (by omega)) | exact nb60 | exact nb10 | exact nb300 | refine NB.mod (by omega) ?_ | refine NB.mul1 ?_ ?_ | refine NB.add1 ?_ ?_ | refine NB.sub1 ?_ ?_ | refine NB.div (by omega) ?_ | refine NB.abs ?_ | refine NB.pow1 ?_ | assumption))]
    simp! [q_ev0]
    rw [q_mod (l := 2305843009213693907) (by decide)]
    simp! [q_ev0]
    rw [q_fdN (l := 101) (by decide) (by (repeat' with_reducible first | (refine NB.v1 (by omega)) | exact nb60 | exact nb10 | exact nb300 | refine NB.mod (by omega) ?_ | refine NB.mul1 ?_ ?_ | refine NB.add1 ?_ ?_ | refine NB.sub1 ?_ ?_ | refine NB.div (by omega) ?_ | refine NB.abs ?_ | refine NB.pow1 ?_ | assumption))]
    simp! [q_ev0]
    rw [q_mod h0]
    exact ⟨_, _, rfl, Int.emod_nonneg _ (by omega), Int.emod_lt_of_pos _ h0, _, _, _, rfl, a1, a2, a3, a4, by omega, by omega⟩
theorem m_of_eq {st : Cv} {b : Int} {xs : List Cv} (h : PotV st b) (hb : b < 1000000000) (hx : xs ≠ []) (hl : xs.length < 1000000) : ∃ v st', m__law_of [st, .lst xs] = some (v, st') ∧ v ∈ xs ∧ PotV st' (b + 1) := by
  rw [m__law_of, b__law_of]
  have h0 : 0 < (xs.length : Int) := by
    cases xs with
    | nil => exact absurd rfl hx
    | cons x r => rw [List.length_cons]; omega
  obtain ⟨r, st', e, r0, r1, hp⟩ := m_take_eq (u := xs.length) h hb h0 (by omega)
  obtain ⟨w, hw, ew⟩ := atI_mem (xs := xs) (i := r) r0 r1
  simp! [mst__law_of, e, ew]
  exact ⟨_, _, rfl, hw, hp⟩
theorem m_range_eq {st : Cv} {b : Int} {ms : List Int} (h : PotV st b) (hb : b + 10 < 1000000000) (hm : okMs ms) : ∃ r st', m__law_range [st, .lst (ms.map Cv.int)] = some (eIn r, st') ∧ okRg r ∧ PotV st' (b + 10) := by
  rw [m__law_range, b__law_range]
  obtain ⟨v, st1, e1, hv, hp1⟩ := m_of_eq (xs := ms.map Cv.int) h (by omega) (by simpa using hm.1) (by simpa using Nat.lt_trans hm.2.1 (by decide))
  obtain ⟨m, hmm, rfl⟩ := List.mem_map.mp hv
  have hm4 := hm.2.2 m hmm
  -- behind the most
  have rest : ∀ (most : Int) (st2 : Cv), 0 ≤ most → most ≤ 999 → (0 < m → most < m) → PotV st2 (b + 2) → ∃ lo st3 x st4 y st5, m__law_take [st2, .int (most + 1)] = some (.int lo, st3) ∧ 0 ≤ lo ∧ lo ≤ most ∧ m__law_take [st3, .int (most + 1)] = some (.int x, st4) ∧
      m__law_of [st4, .lst [.int 0, .int 0, .int 1, .int 2, .int x]] = some (.int y, st5) ∧ 0 ≤ y ∧ PotV st5 (b + 5) := by
    intro most st2 h0 h1 h2 hp2
    obtain ⟨lo, st3, e3, a0, a1, hp3⟩ := m_take_eq (u := most + 1) hp2 (by omega) (by omega) (by omega)
    obtain ⟨x, st4, e4, x0, x1, hp4⟩ := m_take_eq (u := most + 1) hp3 (by omega) (by omega) (by omega)
    obtain ⟨y, st5, e5, hy, hp5⟩ := m_of_eq (xs := [.int 0, .int 0, .int 1, .int 2, .int x]) hp4 (by omega) (by simp) (by simp)
    obtain ⟨z, rfl, z0⟩ : ∃ z : Int, y = .int z ∧ 0 ≤ z := by
      simp only [List.mem_cons, List.not_mem_nil, or_false] at hy
      rcases hy with h | h | h | h | h <;> subst h
      · exact ⟨0, rfl, by decide⟩
      · exact ⟨0, rfl, by decide⟩
      · exact ⟨1, rfl, by decide⟩
      · exact ⟨2, rfl, by decide⟩
      · exact ⟨x, rfl, x0⟩
    exact ⟨lo, st3, x, st4, z, st5, e3, a0, by omega, e4, e5, z0, hp5.mono (by omega)⟩
  by_cases m0 : 0 < m
  · obtain ⟨lo, st3, x, st4, y, st5, e3, a0, a1, e4, e5, y0, hp5⟩ := rest (m - 1) st1 (by omega) (by omega) (by omega) (hp1.mono (by omega))
    rw [show m - 1 + 1 = m by omega] at e3 e4
    simp! [mst__law_range, e1, m0, e3, e4, e5, show m - 1 + 1 = m by omega]
    refine ⟨(m, lo, min (m - 1) (lo + y)), _, rfl, ?_, hp5.mono (by omega)⟩
    refine ⟨?_, ?_, ?_, ?_, ?_, ?_, hm4, ?_, ?_⟩ <;> simp only [] <;> omega
  · have m0' : m = 0 := by omega
    obtain ⟨w, st2, e2, hw, hp2⟩ := m_of_eq (xs := [.int 2, .int 3, .int 5, .int 12, .int 12, .int 30, .int 101, .int 999]) hp1 (by omega) (by simp) (by simp)
    obtain ⟨most, rfl, q0, q1⟩ : ∃ z : Int, w = .int z ∧ 0 ≤ z ∧ z ≤ 999 := by
      simp only [List.mem_cons, List.not_mem_nil, or_false] at hw
      rcases hw with h | h | h | h | h | h | h | h <;> exact ⟨_, h, by decide, by decide⟩
    obtain ⟨lo, st3, x, st4, y, st5, e3, a0, a1, e4, e5, y0, hp5⟩ := rest most st2 q0 q1 (by omega) (hp2.mono (by omega))
    simp! [mst__law_range, e1, m0, e2, e3, e4, e5]
    refine ⟨(m, lo, min most (lo + y)), _, rfl, ?_, hp5.mono (by omega)⟩
    refine ⟨?_, ?_, ?_, ?_, ?_, ?_, hm4, ?_, ?_⟩ <;> simp only [] <;> omega
theorem m_cond_eq {ms : List Int} (hm : okMs ms) : ∀ {e d k : Nat} {st : Cv} {b deep : Int}, d ≤ e → PotV st b → deep ≤ d → deep ≤ k + 1 → 1 ≤ d → b + cst d < 1000000000 → ∃ c st', m__law_condition e [st, .lst (ms.map Cv.int), .int deep] = some (enc c, st') ∧ (goodC d c ∧ shC k c) ∧ PotV st' (b + cst d) := by
  intro e
  induction e with
  | zero => intro d k st b deep h1 _ _ _ h; omega
  | succ e ih =>
    intro d k st b deep he hp hd hk hd1 hb
    obtain ⟨d, rfl⟩ : ∃ d', d = d' + 1 := ⟨d - 1, by omega⟩
    have he' : d ≤ e := by omega
    have cg := cst_ge d
    have hd' : deep - 1 ≤ d := by omega
    rw [cst] at hb
    rw [m__law_condition, b__law_condition]
    have rng : ∀ r : Rg, okRg r → goodC (d + 1) (.rg r.1 r.2.1 r.2.2) := fun r hr => ⟨Nat.zero_le _, by rw [cst]; simp [ins]; omega, by simpa [ins] using hr, Nat.zero_le _, by rw [cst]; show ((6 : Nat) : Int) ≤ _; omega⟩
    by_cases h1 : 1 < deep
    · obtain ⟨k, rfl⟩ : ∃ k', k = k' + 1 := ⟨k - 1, by omega⟩
      have hk' : deep - 1 ≤ k + 1 := by omega
      obtain ⟨way, st1, e1, w0, w1, hp1⟩ := m_take_eq (u := 8) hp (by omega) (by decide) (by decide)
      by_cases h2 : way < 3
      · obtain ⟨r, st2, e2, hr, hp2⟩ := m_range_eq hp1 (by omega) hm
        simp! [mst__law_condition, h1, e1, h2, e2]
        exact ⟨_, _, rfl, ⟨rng r hr, shC_rg⟩, hp2.mono (by rw [cst]; omega)⟩
      · by_cases h3 : way = 3
        · obtain ⟨c, st2, e2, ⟨hc, sc⟩, hp2⟩ := ih he' hp1 hd' hk' (by omega) (by omega)
          simp! [mst__law_condition, h1, e1, h2, h3, e2, show ¬ ((3 : Int) < 3) by decide]
          exact ⟨.no c, _, rfl, ⟨⟨by rw [dp]; have := hc.1; omega, by rw [cst, ins]; have := hc.2.1; omega, by rw [ins]; exact hc.2.2.1, by rw [wd]; exact hc.2.2.2.1, by rw [cst, enc]; show ((3 + 1 + (blk (enc c) + 1 + 0) : Nat) : Int) ≤ _; have := hc.2.2.2.2; push_cast; omega⟩, shC_no sc⟩, hp2.mono (by rw [cst]; omega)⟩
        · obtain ⟨n, st2, e2, n0, n1, hp2⟩ := m_take_eq (u := 3) hp1 (by omega) (by decide) (by decide)
          have il : ((iota 0 (1 + n).toNat).length : Int) ≤ 3 := by simp [iota]; omega
          have il2 : (iota 0 (1 + n).toNat).length ≤ 3 := by omega
          have pl3 : cst d * ((iota 0 (1 + n).toNat).length : Int) ≤ cst d * 3 := Int.mul_le_mul_of_nonneg_left il (by omega)
          obtain ⟨ys, st3, e3, hl, hg, hp3⟩ := lc_draw (G := mgName 5) (te := xCall 3 0 (m__law_condition e) (xCons (xp (mVar 1)) (xCons (xp (mOp fSub (mVar 2) (mC (.int 1)))) xNil))) (vs := [5]) (rest := [.pl (.lst (ms.map Cv.int)), .pl (.int deep), .pl (.int way), .no, .no])
            (fun y => ∃ c, y = enc c ∧ (goodC d c ∧ shC k c)) (cst d) (by omega) (iota 0 (1 + n).toNat) st2 (b + 2) (hp2.mono (by omega)) (by
              intro x _ st4 b4 hp4 h5 h6
              obtain ⟨c, st5, e5, hc, hp5⟩ := ih he' hp4 hd' hk' (by omega) (by omega)
              simp! [e5]
              exact ⟨_, _, _, ⟨rfl, rfl⟩, ⟨c, rfl, hc⟩, hp5⟩)
          obtain ⟨cs, rfl, hcs'⟩ := list_of ys hg
          have hcs : ∀ c ∈ cs, goodC d c := fun c hc => (hcs' c hc).1
          have hlen1 : 1 ≤ cs.length := by rw [List.length_map] at hl; rw [hl]; simp [iota]; omega
          have hlen : cs.length ≤ 3 := by rw [List.length_map] at hl; omega
          obtain ⟨w, hw, ew⟩ := atI_mem (xs := [Cv.str "all", .str "any"]) (i := way % 2) (Int.emod_nonneg _ (by decide)) (Int.emod_lt_of_pos _ (by decide))
          obtain ⟨bb, rfl⟩ : ∃ bb : Bool, w = .str (if bb = true then "all" else "any") := by
            simp at hw
            rcases hw with e | e
            · exact ⟨true, e⟩
            · exact ⟨false, e⟩
          simp! [mst__law_condition, h1, e1, h2, h3, e2, q_rngI (k := 1 + n) (by omega), e3, fLst_ok (xs := cs.map enc) (by rw [List.length_map]; omega), q_mod (k := way) (l := 2) (by decide), ew]
          refine ⟨.al bb cs, _, by rw [enc, encs_map], ⟨⟨?_, ?_, ?_, ?_, ?_⟩, shC_al hlen1 hlen fun c hc => (hcs' c hc).2⟩, hp3.mono (by rw [cst]; omega)⟩
          · rw [dp]; have := dps_le (n := d) fun c hc => (hcs c hc).1; omega
          · rw [ins, cst]; have := inss_le cs (cst d) (by omega) fun c hc => (hcs c hc).2.1
            have : cst d * (cs.length : Int) ≤ cst d * 3 := Int.mul_le_mul_of_nonneg_left (by omega) (by omega)
            omega
          · rw [ins, inss_map]; intro r hr
            obtain ⟨c, hc, hr⟩ := List.mem_flatMap.mp hr
            exact (hcs c hc).2.2.1 r hr
          · rw [wd]; have := wds_le fun c hc => (hcs c hc).2.2.2.1; omega
          · rw [cst, enc, encs_map]; have := blks_le cs (cst d) (by omega) fun c hc => (hcs c hc).2.2.2.2
            have h3 : (cst d + 1) * (cs.length : Int) ≤ (cst d + 1) * 3 := Int.mul_le_mul_of_nonneg_left (by omega) (by omega)
            have h4 : blk (.str (if bb = true then "all" else "any")) = 3 := by cases bb <;> rfl
            show ((blk (.str (if bb = true then "all" else "any")) + 1 + (blks (cs.map enc) + 1 + 0) : Nat) : Int) ≤ _
            rw [h4]; push_cast; omega
    · obtain ⟨r, st2, e2, hr, hp2⟩ := m_range_eq hp (by omega) hm
      simp! [mst__law_condition, h1, e2, show ((0 : Int) < 3) by decide]
      exact ⟨_, _, rfl, ⟨rng r hr, shC_rg⟩, hp2.mono (by rw [cst]; omega)⟩
theorem m_rules_eq' {st : Cv} {b : Int} (hp : PotV st b) (hb : b + 100000 < 1000000000) : ∃ r st', m__law_rules [st] = some (eR r, st') ∧ (goodR r ∧ shR 4 r) ∧ PotV st' (b + 100000) := by
  have ec : cst 3 = 6400 := by decide
  rw [m__law_rules, b__law_rules]
  obtain ⟨v, st1, e1, hv, hp1⟩ := m_of_eq (xs := [.lst [.int 0], .lst [.int 0, .int 10], .lst [.int 0, .int 0, .int 10], .lst [.int 0, .int 10, .int 100], .lst [.int 10, .int 100], .lst [.int 0, .int 10, .int 10, .int 10, .int 100, .int 1000]]) hp (by omega) (by simp) (by simp)
  obtain ⟨ms, rfl, hm⟩ : ∃ ms : List Int, v = .lst (ms.map Cv.int) ∧ okMs ms := by
    simp only [List.mem_cons, List.not_mem_nil, or_false] at hv
    rcases hv with rfl | rfl | rfl | rfl | rfl | rfl
    · exact ⟨[0], rfl, by simp [okMs]⟩
    · exact ⟨[0, 10], rfl, by simp [okMs]⟩
    · exact ⟨[0, 0, 10], rfl, by simp [okMs]⟩
    · exact ⟨[0, 10, 100], rfl, by simp [okMs]⟩
    · exact ⟨[10, 100], rfl, by simp [okMs]⟩
    · exact ⟨[0, 10, 10, 10, 100, 1000], rfl, by simp [okMs]⟩
  obtain ⟨n, st2, e2, n0, n1, hp2⟩ := m_take_eq (u := 4) hp1 (by omega) (by decide) (by decide)
  -- the names that are drawn
  obtain ⟨gs3, e3, ls, ss, st3, rfl, hls, hss, _, hsl, hp3⟩ := w_forNx (G := mgName 4) (p := xSeq (xAppend 3 (xPopAt 2 (xCall 2 0 m__law_take (xCons (xp (mBor (mCB fLen (mCons (mVar 2) mNil)))) xNil)))) xNext) (vs := [4])
    (I := fun xs gs => ∃ (ls ss : List Str) (st : Cv), gs = [.ow st, .pl (.lst (ms.map Cv.int)), .ow (.lst (ls.map Cv.str)), .ow (.lst (ss.map Cv.str)), .no, .no, .no, .no] ∧ (∀ x ∈ ls, x ∈ forms8) ∧ (∀ x ∈ ss, x ∈ forms8) ∧ ls.length + ss.length = 8 ∧ xs.length + ss.length = n.toNat + 2 ∧ PotV st (b + 2 + ss.length))
    (by
      rintro x xr gs ⟨ls, ss, st, rfl, a1, a2, a3, a4, a5⟩
      rw [List.length_cons] at a4
      obtain ⟨k, st4, e4, k0, k1, hp4⟩ := m_take_eq (u := ((ls.map Cv.str).length : Nat)) a5 (by omega) (by rw [List.length_map]; omega) (by rw [List.length_map]; omega)
      rw [List.length_map] at k1
      have hk : k.toNat < ls.length := by omega
      have hpop : popAtF (.lst (ls.map Cv.str)) (.int k) = some (.str ls[k.toNat], .lst ((ls.eraseIdx k.toNat).map Cv.str)) := by
        show (if decide (0 ≤ k ∧ k < 1000000) = true then _ else none) = _
        rw [decide_eq_true (by omega), if_pos rfl, List.getElem?_map, List.getElem?_eq_getElem hk]
        simp [eraseIdx_map]
      simp! [e4, hpop, q_fApp (xs := ss.map Cv.str) (v := .str ls[k.toNat]) (by rw [List.length_map]; omega)]
      refine ⟨_, rfl, ls.eraseIdx k.toNat, ss ++ [ls[k.toNat]], st4, by simp! [q_ev0]; rw [List.map_append]; rfl, fun x hx => a1 x (List.mem_of_mem_eraseIdx hx), fun x hx => ?_, ?_, ?_, hp4.mono (by simp; omega)⟩
      · rcases List.mem_append.mp hx with h | h
        · exact a2 x h
        · rw [List.mem_singleton.mp h]; exact a1 _ (List.getElem_mem hk)
      · rw [List.length_eraseIdx, if_pos hk, List.length_append]; simp; omega
      · simp; omega) (iota 0 (2 + n).toNat) [.ow st2, .pl (.lst (ms.map Cv.int)), .ow (.lst [.str "one", .str "two", .str "few", .str "many", .str "zero", .str "other", .str "a", .str "lastform"]), .ow (.lst []), .no, .no, .no, .no] ⟨forms8, [], st2, rfl, fun _ h => h, fun _ h => (by cases h), rfl, by simp [iota]; omega, hp2.mono (by simp; omega)⟩
  have hsl : ss.length = n.toNat + 2 := by simpa using hsl
  have ssne : ss.map Cv.str ≠ [] := by
    intro z
    have h : ss.length = 0 := by simpa using congrArg List.length z
    omega
  obtain ⟨rows, st4, e4, r0, r1, hp4⟩ := m_take_eq (u := 7) hp3 (by omega) (by decide) (by decide)
  obtain ⟨v5, st5, e5, hv5, hp5⟩ := m_of_eq (xs := [.int 1, .int 2, .int 3]) hp4 (by omega) (by simp) (by simp)
  obtain ⟨deep, rfl, d0, d1⟩ : ∃ j : Int, v5 = .int j ∧ 1 ≤ j ∧ j ≤ 3 := by
    simp only [List.mem_cons, List.not_mem_nil, or_false] at hv5
    rcases hv5 with h | h | h <;> exact ⟨_, h, by decide, by decide⟩
  have fin : ∀ (deep : Int) (k : Nat), deep ≤ 3 → deep ≤ k + 1 → k ≤ 2 → (4 < rows → k ≤ 1) → ∃ r st', (((xSeq (xAsg (xLcc (xpA (mRng1 (mCons (mVar 5) mNil))) (mgName 4) (xpT mYes) (xTup (xCons (xCall 2 0 m__law_of (xCons (xp (mVar 3)) xNil)) (xCons (xCall 3 0 (m__law_condition 8) (xCons (xp (mVar 1)) (xCons (xp (mVar 6)) xNil))) xNil))) [4]) (mgName 7))
      (xSeq (xRet (xTup (xCons (xp (mCB fTupleOf (mCons (mVar 7) mNil))) (xCons (xCall 2 0 m__law_of (xCons (xp (mVar 3)) xNil)) xNil)))) xNext)) [.ow st5, .pl (.lst (ms.map Cv.int)), .ow (.lst (ls.map Cv.str)), .pl (.lst (ss.map Cv.str)), .no, .pl (.int rows), .pl (.int deep), .no]).bind outP) = some (eR r, st') ∧ (goodR r ∧ shR 4 r) ∧ PotV st' (b + 100000) := by
    intro deep k hd hdk hk2 hk1
    have il : (iota 0 rows.toNat).length ≤ 7 := by simp [iota]; omega
    have pl7 : (6401 : Int) * ((iota 0 rows.toNat).length : Int) ≤ 6401 * 7 := Int.mul_le_mul_of_nonneg_left (by omega) (by omega)
    obtain ⟨ys, st6, e6, hl, hg, hp6⟩ := lc_draw (G := mgName 4) (te := xTup (xCons (xCall 2 0 m__law_of (xCons (xp (mVar 3)) xNil)) (xCons (xCall 3 0 (m__law_condition 8) (xCons (xp (mVar 1)) (xCons (xp (mVar 6)) xNil))) xNil))) (vs := [4]) (rest := [.pl (.lst (ms.map Cv.int)), .ow (.lst (ls.map Cv.str)), .pl (.lst (ss.map Cv.str)), .no, .pl (.int rows), .pl (.int deep), .no])
      (fun y => ∃ x : Str × Cd, y = eRow x ∧ ((x.1 ∈ forms8 ∧ goodD x.2) ∧ (x.1 ∈ ss ∧ shC k x.2))) 6401 (by decide) (iota 0 rows.toNat) st5 (b + 100) (hp5.mono (by omega)) (by
        intro x _ st7 b7 hp7 h5 h6
        obtain ⟨v7, st8, e7, hv7, hp8⟩ := m_of_eq (xs := ss.map Cv.str) hp7 (by omega) ssne (by simp; omega)
        obtain ⟨f, hf, rfl⟩ := List.mem_map.mp hv7
        obtain ⟨c, st9, e8, hc, hp9⟩ := m_cond_eq hm (e := 8) (d := 3) (k := k) (deep := deep) (by decide) hp8 hd hdk (by decide) (by omega)
        simp! [e7, e8]
        exact ⟨_, _, _, ⟨rfl, rfl⟩, ⟨(f, c), rfl, ⟨hss f hf, hc.1.D⟩, hf, hc.2⟩, hp9.mono (by omega)⟩)
    obtain ⟨xs, rfl, hxs⟩ := list_of' eRow ys hg
    obtain ⟨v7, st8, e7, hv7, hp8⟩ := m_of_eq (xs := ss.map Cv.str) hp6 (by omega) ssne (by simp; omega)
    obtain ⟨f, hf, rfl⟩ := List.mem_map.mp hv7
    rw [List.length_map] at hl
    simp! [q_rngI (k := rows) (by omega), e6, fLst_ok (xs := xs.map eRow) (by rw [List.length_map]; omega), e7]
    have il6 : (iota 0 rows.toNat).length = rows.toNat := by simp [iota]
    have gR : goodR ⟨xs, f⟩ := ⟨by show xs.length ≤ 20; omega, hss f hf, fun x hx => (hxs x hx).1⟩
    have sR : shR 4 ⟨xs, f⟩ := ⟨by show xs.length ≤ 6; omega, fun x hx => (hxs x hx).2.2.mono hk2, fun ht x hx => (hxs x hx).2.2.mono (hk1 (by have ht : 4 < xs.length := ht; omega)), ⟨ss, by omega, hss, hf, fun x hx => (hxs x hx).2.1⟩⟩
    exact ⟨⟨xs, f⟩, _, rfl, ⟨gR, sR⟩, hp8.mono (by omega)⟩
  by_cases h3 : 4 < rows
  · obtain ⟨r, st', e, h⟩ := fin (min deep 2) 1 (by omega) (by omega) (by decide) (fun _ => by decide)
    refine ⟨r, st', ?_, h⟩
    simp! [mst__law_rules, e1, e2, q_rngI (k := 2 + n) (by omega), e3, e4, e5, h3]
    exact e
  · obtain ⟨r, st', e, h⟩ := fin deep 2 (by omega) (by omega) (by decide) (fun h => absurd h h3)
    refine ⟨r, st', ?_, h⟩
    simp! [mst__law_rules, e1, e2, q_rngI (k := 2 + n) (by omega), e3, e4, e5, h3]
    exact e
theorem goodD_rg {g : Rg} (h : okRg g) : goodD (.rg g.1 g.2.1 g.2.2) := ⟨Nat.zero_le _, by simp [ins], by simpa [ins] using h, Nat.zero_le _, by show 6 ≤ 6400; decide⟩
theorem m_bent_eq' {st : Cv} {b : Int} {r : Rl} (hp : PotV st b) (hb : b + 100100 < 1000000000) (hr : goodB r) : ∃ r' st', m__law_bent_rules [st, eR r] = some (eR r', st') ∧ (goodB r' ∧ (shB r → shB r')) ∧ PotV st' (b + 100100) := by
  rw [m__law_bent_rules, b__law_bent_rules]
  obtain ⟨hlen, hlast, hrows⟩ := hr
  have okL := rowsB_okL hrows
  have w1 : isWord "one" = true := by decide +kernel
  have w2 : isWord "other" = true := by decide +kernel
  have w3 : isWord "new" = true := by decide +kernel
  simp only [eR]
  by_cases h0 : r.rows = []
  · obtain ⟨v, st1, e1, hv, hp1⟩ := m_of_eq (xs := [.str "one", .str "other", .str "new"]) hp (by omega) (by simp) (by simp)
    obtain ⟨f, rfl, hf⟩ : ∃ f, v = .str f ∧ isWord f = true := by
      simp only [List.mem_cons, List.not_mem_nil, or_false] at hv
      rcases hv with h | h | h <;> exact ⟨_, h, by assumption⟩
    have i1 : (List.map eRow r.rows).isEmpty = true := by rw [h0]; rfl
    have d1 : decide ((5 : Int) = 0) = false := rfl
    have d2 : decide ((5 : Int) = 1) = false := rfl
    have d3 : decide ((5 : Int) = 2) = false := rfl
    have d4 : decide ((5 : Int) = 3) = false := rfl
    have d5 : decide ((5 : Int) = 4) = false := rfl
    simp! [mst__law_bent_rules, q_eqNil okL, i1, Bool.not_true, d1, d2, d3, d4, d5, e1]
    exact ⟨⟨r.rows, f⟩, _, rfl, ⟨⟨hlen, hf, hrows⟩, fun s => ⟨s.rows, s.cd⟩⟩, hp1.mono (by omega)⟩
  · have i1 : (List.map eRow r.rows).isEmpty = false := by
      cases h : r.rows with
      | nil => exact absurd h h0
      | cons x l => rfl
    have hl0 : 0 < r.rows.length := List.length_pos_iff.mpr h0
    obtain ⟨way, st1, e1, w0, w7, hp1⟩ := m_take_eq (u := 7) hp (by omega) (by decide) (by decide)
    obtain ⟨at', st2, e2, a0, a1, hp2⟩ := m_take_eq (u := ((r.rows.map eRow).length : Nat)) hp1 (by omega) (by rw [List.length_map]; omega) (by rw [List.length_map]; omega)
    rw [List.length_map] at a1
    obtain ⟨k, rfl⟩ : ∃ k : Nat, at' = (k : Nat) := ⟨at'.toNat, by omega⟩
    have hk : k < r.rows.length := by omega
    have ek : atI (r.rows.map eRow) ((k : Nat) : Int) = some (eRow r.rows[k]) := atI_nat (j := k) (by rw [List.getElem?_map, List.getElem?_eq_getElem hk]; rfl)
    have hkm : r.rows[k] ∈ r.rows := List.getElem_mem hk
    have ixk : ixN (r.rows.map eRow).length ((k : Nat) : Int) = some k := by unfold ixN; rw [if_pos (by omega), if_pos (by rw [List.length_map]; omega)]; simp
    have bd : ∀ xs : List (Str × Cd), xs.length ≤ 1000000 → (xs.map eRow).length ≤ 1000000 := fun xs h => by rw [List.length_map]; exact h
    have hc : way = 0 ∨ way = 1 ∨ way = 2 ∨ way = 3 ∨ way = 4 ∨ way = 5 ∨ way = 6 := by omega
    have ek1 : ((k : Nat) : Int) + 1 = ((k + 1 : Nat) : Int) := by omega
    have fo : ∀ (ls : List Str), (∀ f ∈ ls, isWord f = true) → ls ≠ [] → ls.length < 1000000 → ∀ st b, PotV st b → b < 1000000000 → ∃ f st', m__law_of [st, .lst (ls.map Cv.str)] = some (.str f, st') ∧ isWord f = true ∧ PotV st' (b + 1) := by
      intro ls hls hn hl st b hp hb
      obtain ⟨v, st3, e3, hv, hp3⟩ := m_of_eq (xs := ls.map Cv.str) hp hb (by simpa using hn) (by simpa using hl)
      obtain ⟨f, hf, rfl⟩ := List.mem_map.mp hv
      exact ⟨f, st3, e3, hls f hf, hp3⟩
    rcases hc with rfl | rfl | rfl | rfl | rfl | rfl | rfl
    · have ad : fAdd (.lst ((r.rows.map eRow).take k)) (.lst ((r.rows.map eRow).drop (k + 1))) = some (.lst ((r.rows.take k ++ r.rows.drop (k + 1)).map eRow)) := by
        rw [List.map_append, List.map_take, List.map_drop]
        exact q_addL (by simp; omega)
      simp! [mst__law_bent_rules, q_eqNil okL, i1, Bool.not_false, e1, e2, ek1, cut_take, cut_drop, ad]
      exact ⟨⟨r.rows.take k ++ r.rows.drop (k + 1), r.last⟩, _, rfl, ⟨⟨by simp; omega, hlast, fun x hx => hrows x ((List.mem_append.mp hx).elim List.mem_of_mem_take List.mem_of_mem_drop)⟩, fun s => ⟨by have := s.rows; simp; omega, fun x hx => s.cd x ((List.mem_append.mp hx).elim List.mem_of_mem_take List.mem_of_mem_drop)⟩⟩, hp2.mono (by omega)⟩
    · simp only [List.length_map] at e2
      by_cases h5 : (r.rows.length : Int) < 5
      · obtain ⟨f, st3, e3, hf, hp3⟩ := fo ["one", "new", r.last] (by simp [w1, w3, hlast]) (by simp) (by simp) st2 (b + 2) (hp2.mono (by omega)) (by omega)
        simp only [List.map_cons, List.map_nil] at e3
        have ad1 : fAdd (.lst ((r.rows.map eRow).take k)) (.lst [.tup [.str f, enc r.rows[k].2]]) = some (.lst ((r.rows.take k ++ [(f, r.rows[k].2)]).map eRow)) := by
          rw [List.map_append, List.map_take]
          exact q_addL (by simp; omega)
        have ad2 : fAdd (.lst ((r.rows.take k ++ [(f, r.rows[k].2)]).map eRow)) (.lst ((r.rows.map eRow).drop k)) = some (.lst ((r.rows.take k ++ [(f, r.rows[k].2)] ++ r.rows.drop k).map eRow)) := by
          rw [List.map_append (l₁ := r.rows.take k ++ [(f, r.rows[k].2)]), List.map_drop]
          exact q_addL (by simp; omega)
        have ek' : atI (r.rows.map eRow) ((k : Nat) : Int) = some (.tup [.str r.rows[k].1, enc r.rows[k].2]) := ek
        simp only [List.map_append, List.map_cons, List.map_nil] at ad1 ad2
        simp! [mst__law_bent_rules, q_eqNil okL, i1, Bool.not_false, e1, e2, show decide ((1 : Int) = 0) = false from rfl, List.length_map, h5, cut_take, cut_drop, e3, ek']
        rw [ad1]
        simp! [cut_drop]
        rw [ad2]
        simp! [q_ev0]
        refine ⟨⟨r.rows.take k ++ [(f, r.rows[k].2)] ++ r.rows.drop k, r.last⟩, _, by simp, ⟨⟨by simp; omega, hlast, fun x hx => ?_⟩, fun s => ⟨by simp; omega, fun x hx => ?_⟩⟩, hp3.mono (by omega)⟩
        · rcases List.mem_append.mp hx with h | h
          · rcases List.mem_append.mp h with h | h
            · exact hrows x (List.mem_of_mem_take h)
            · rw [List.mem_singleton.mp h]; exact ⟨hf, (hrows _ hkm).2⟩
          · exact hrows x (List.mem_of_mem_drop h)
        · rcases List.mem_append.mp hx with h | h
          · rcases List.mem_append.mp h with h | h
            · exact s.cd x (List.mem_of_mem_take h)
            · rw [List.mem_singleton.mp h]; exact s.cd r.rows[k] hkm
          · exact s.cd x (List.mem_of_mem_drop h)
      · obtain ⟨r', st3, e3, ⟨hr', sr'⟩, hp3⟩ := m_rules_eq' hp2 (by omega)
        simp! [mst__law_bent_rules, q_eqNil okL, i1, Bool.not_false, e1, e2, show decide ((1 : Int) = 0) = false from rfl, List.length_map, h5, show decide ((1 : Int) = 2) = false from rfl, show decide ((1 : Int) = 3) = false from rfl, show decide ((1 : Int) = 4) = false from rfl, show decide ((1 : Int) = 5) = false from rfl, e3]
        exact ⟨r', _, rfl, ⟨hr'.B, fun _ => sr'.B⟩, hp3.mono (by omega)⟩
    · simp! [mst__law_bent_rules, q_eqNil okL, i1, Bool.not_false, e1, e2, show decide ((2 : Int) = 0) = false from rfl, show decide ((2 : Int) = 1) = false from rfl]
      exact ⟨⟨r.rows.reverse, r.last⟩, _, by simp, ⟨⟨by simpa using hlen, hlast, fun x hx => hrows x (by simpa using hx)⟩, fun s => ⟨by simpa using s.rows, fun x hx => s.cd x (by simpa using hx)⟩⟩, hp2.mono (by omega)⟩
    · obtain ⟨f, st3, e3, hf, hp3⟩ := fo ["one", "other", "new", r.last] (by simp [w1, w2, w3, hlast]) (by simp) (by simp) st2 (b + 2) (hp2.mono (by omega)) (by omega)
      simp only [List.map_cons, List.map_nil] at e3
      have ek' : atI (r.rows.map eRow) ((k : Nat) : Int) = some (.tup [.str r.rows[k].1, enc r.rows[k].2]) := ek
      have st' : fSetI (.lst (r.rows.map eRow)) (.int ((k : Nat) : Int)) (.tup [.str f, enc r.rows[k].2]) = some (.lst ((r.rows.set k (f, r.rows[k].2)).map eRow)) := by
        rw [w_set0 (y := .non) ixk, List.map_set]; rfl
      simp! [mst__law_bent_rules, q_eqNil okL, i1, Bool.not_false, e1, e2, show decide ((3 : Int) = 0) = false from rfl, show decide ((3 : Int) = 1) = false from rfl, show decide ((3 : Int) = 2) = false from rfl, e3, ek', fTt_ok (ttv_enc _), st']
      refine ⟨⟨r.rows.set k (f, r.rows[k].2), r.last⟩, _, rfl, ⟨⟨by simpa using hlen, hlast, fun x hx => ?_⟩, fun s => ⟨by simpa using s.rows, fun x hx => ?_⟩⟩, hp3.mono (by omega)⟩
      · rcases List.mem_or_eq_of_mem_set hx with h | h
        · exact hrows x h
        · rw [h]; exact ⟨hf, (hrows _ hkm).2⟩
      · rcases List.mem_or_eq_of_mem_set hx with h | h
        · exact s.cd x h
        · rw [h]; exact s.cd r.rows[k] hkm
    · obtain ⟨g, st3, e3, hg, hp3⟩ := m_range_eq (ms := [0, 10, 100]) hp2 (by omega) (by simp [okMs])
      simp only [List.map_cons, List.map_nil] at e3
      have ek' : atI (r.rows.map eRow) ((k : Nat) : Int) = some (.tup [.str r.rows[k].1, enc r.rows[k].2]) := ek
      have st' : fSetI (.lst (r.rows.map eRow)) (.int ((k : Nat) : Int)) (.tup [.str r.rows[k].1, eIn g]) = some (.lst ((r.rows.set k (r.rows[k].1, .rg g.1 g.2.1 g.2.2)).map eRow)) := by
        rw [w_set0 (y := .non) ixk, List.map_set]; rfl
      simp! [mst__law_bent_rules, q_eqNil okL, i1, Bool.not_false, e1, e2, show decide ((4 : Int) = 0) = false from rfl, show decide ((4 : Int) = 1) = false from rfl, show decide ((4 : Int) = 2) = false from rfl, show decide ((4 : Int) = 3) = false from rfl, e3, ek', st']
      refine ⟨⟨r.rows.set k (r.rows[k].1, .rg g.1 g.2.1 g.2.2), r.last⟩, _, rfl, ⟨⟨by simpa using hlen, hlast, fun x hx => ?_⟩, fun s => ⟨by simpa using s.rows, fun x hx => ?_⟩⟩, hp3.mono (by omega)⟩
      · rcases List.mem_or_eq_of_mem_set hx with h | h
        · exact hrows x h
        · rw [h]; exact ⟨(hrows _ hkm).1, goodD_rg hg⟩
      · rcases List.mem_or_eq_of_mem_set hx with h | h
        · exact s.cd x h
        · rw [h]; exact shC_rg
    · obtain ⟨f, st3, e3, hf, hp3⟩ := fo ["one", "other", "new"] (by simp [w1, w2, w3]) (by simp) (by simp) st2 (b + 2) (hp2.mono (by omega)) (by omega)
      simp only [List.map_cons, List.map_nil] at e3
      simp! [mst__law_bent_rules, q_eqNil okL, i1, Bool.not_false, e1, e2, show decide ((5 : Int) = 0) = false from rfl, show decide ((5 : Int) = 1) = false from rfl, show decide ((5 : Int) = 2) = false from rfl, show decide ((5 : Int) = 3) = false from rfl, show decide ((5 : Int) = 4) = false from rfl, e3]
      exact ⟨⟨r.rows, f⟩, _, rfl, ⟨⟨hlen, hf, hrows⟩, fun s => ⟨s.rows, s.cd⟩⟩, hp3.mono (by omega)⟩
    · obtain ⟨r', st3, e3, ⟨hr', sr'⟩, hp3⟩ := m_rules_eq' hp2 (by omega)
      simp! [mst__law_bent_rules, q_eqNil okL, i1, Bool.not_false, e1, e2, show decide ((6 : Int) = 0) = false from rfl, show decide ((6 : Int) = 1) = false from rfl, show decide ((6 : Int) = 2) = false from rfl, show decide ((6 : Int) = 3) = false from rfl, show decide ((6 : Int) = 4) = false from rfl, show decide ((6 : Int) = 5) = false from rfl, e3]
      exact ⟨r', _, rfl, ⟨hr'.B, fun _ => sr'.B⟩, hp3.mono (by omega)⟩
end Lw
namespace Lw
open PySem PySem.Spec PyProof.Rows L2 CL
local macro_rules
  | `(tactic| simp! [$xs,*]) => `(tactic| simp only [w_bor, q_notInG, w_addN, q_notInS, q_tOnly, q_tput, q_tsetd, q_asgTsetd, q_fTIx, q_fTIn, q_tget2, q_tget1, q_tOIx, q_tOIn, q_tOGet2, q_tOGet1, q_lstIt, q_tupIt, w_mth, w_tupF, q_ltS, q_argK1, q_argK2, q_argK2', q_argK3a, q_argK3b, q_argK3c, q_argK3d, q_argK3e, q_argK3f, q_mtupF, q_tupF1, q_tupF2, q_tupF3, q_ord, q_msetL, q_wkF, q_wkT, q_wkL, q_wkN, q_wkS, q_wkI, q_wkB, q_tupleF, q_dictL, q_dictF, q_mth, q_fIndexL, q_zipI, q_fZipL, q_fZipT, q_isBB, q_revT, q_fRevT, q_inS, q_oIx, q_oIn, q_oGet2, q_oGet1, q_dc, q_disp1, q_keyS, q_keyI, q_mrg0, q_mrg, q_put0, q_dkOnly, q_dput, q_setd, q_asgSetd, q_fDIx, q_fDIn, q_dget2, q_dget1, q_fget2, q_fget1, w_m, w_rzN, q_mulAI, q_mulAL, q_rng3, q_isiTT, q_isiLT, q_isiST, q_isiIT, q_isiBT, q_isiNT, q_isiTS, q_isiLS, q_isiSS, q_isiIS, q_isiBS, q_isiNS, q_isiTI, q_isiLI, q_isiSI, q_isiII, q_isiBI, q_isiNI, q_isiTB, q_isiLB, q_isiSB, q_isiIB, q_isiBB, q_isiNB, w_bx, w_bxe, w_sx, w_sxe, w_lift, w_iteT, w_iteF, w_iteN, w_p, w_pT, w_pA, w_op, w_un, w_b, w_not, w_and, w_or, w_notV, w_andV, w_orV, w_if, w_nil, w_cons, w_tup, w_lst, w_cb, w_seqI, w_rng1, w_rng2, w_lc, w_noEx, w_lcL0, w_call, w_argX1, w_argX2, w_argX3, w_argX4, w_pop, w_popAt, w_nxt, w_setc0, w_setc1, w_setc2, w_seq, w_thN, w_thR, w_thO, w_thB, w_thC, w_thE, w_asg, w_asgN, w_drop, w_ret, w_retN, w_retO, w_ifS, w_brk, w_cnt, w_for, w_forL0, w_lkN, w_lkC, w_lkB, w_lkR, w_lkO, w_lkE, w_aug, w_h2, w_h3, w_j2, w_j3, w_par, w_par3, w_parO, w_parO3, w_frz, w_append, w_extend, w_setL, w_runP, w_runV, w_runN, w_outP, w_outPN, w_outV, w_outVN, w_outO, w_rest0, w_rest, q_revL, q_fRev, ite_t, ite_f, ite_n, q_var0, q_varS, q_c, q_op, q_un, q_b, q_fB, q_and, q_or, q_not, q_andV, q_orV, q_notV, q_if, q_chain, q_nil, q_cons, q_tup, q_lst, q_cb, q_ckw, q_noPart, q_part, q_fPart, q_sl, q_gname, q_gnil, q_gcons, q_gtup2, q_gtup3, q_gtup4, q_seqI, q_fSeqT, q_fSeqL, q_fSeqS, q_rng1, q_rng2, q_enumI, q_fEnumT, q_fEnumL, q_arg0, q_arg1, q_arg2, q_arg3, q_arg4, q_arg5, q_next, q_seq, q_thenN, q_thenR, q_thenB, q_thenC, q_asg, q_drop, q_ret, q_retN, q_ifS, q_break, q_cont, q_for, q_forL0, q_forL, q_loopN, q_loopC, q_loopB, q_loopR, q_while, q_loopWN, q_loopWC, q_loopWB, q_loopWR, q_slP, q_slO, q_aug, q_f2, q_f3, q_par, q_par3, q_g2, q_g3, q_parO, q_parO3, q_oNil, q_oP, q_oN, q_asgN, q_frz, q_bor, q_borT, q_thO, q_thP, q_thN, q_ttI, q_ttB, q_ttS, q_append, q_lstOnly, q_extend, q_lc, q_lc2, q_wipe0, q_wipe, q_fI, q_addI, q_eqI, q_eqS, q_isNN, q_isNI, q_isNT, q_isNS, q_isNB, q_ixT, q_ixL, q_at0, q_at1, q_at2, q_at3, q_neg, q_cutT, q_cutL, q_lenT, q_lenL, q_abs, q_lenR, q_ixR, q_intB, q_intI, q_tupL, q_tupT, q_listL, q_listT, q_max2, q_min2, q_maxC, q_minC, q_maxD, q_minD, q_sum, q_allM, q_anyM, q_tup0, q_tup1, q_tup2, q_tup3, q_tup4, q_lst0, q_lst1, q_lst2, q_lst3, q_lst4, q_lst5, q_lst6, q_lst7, q_lst8, q_lst9, q_lst10, q_lst11, q_lst12, q_tup5, q_tup6, q_tup7, q_tup8, q_out, q_outR, q_outN, Option.bind_some, Option.map_some, Option.bind_none, Option.map_none, List.set_cons_zero, List.set_cons_succ, List.getElem?_cons_zero, List.getElem?_cons_succ, List.map_cons, List.map_nil, List.cons_append, List.nil_append, reduceCtorEq, reduceIte, decide_true, decide_false, Bool.false_eq_true, $xs,*])
theorem m_holds_eq (n : Int) : ∀ {d : Nat} {c : Cd}, dp c < d → wd c ≤ 1000000 → (∀ r ∈ ins c, 0 ≤ r.1) → m_holds d [enc c, .int n] = some (.bl (hold n c)) := by
  intro d
  induction d with
  | zero => intro c h; omega
  | succ d ih =>
    intro c hd hw hm
    rw [m_holds, mst_holds, b_holds]
    cases c with
    | rg m lo hi =>
      simp only [enc]
      by_cases h0 : 0 < m
      · simp! [h0, q_mod h0]
        by_cases h1 : lo ≤ n % m
        · simp! [h1]
          simp [hold, h0, h1]
        · simp! [h1]
          simp [hold, h0, h1]
      · simp! [h0]
        by_cases h1 : lo ≤ n
        · simp! [h1]
          simp [hold, h0, h1]
        · simp! [h1]
          simp [hold, h0, h1]
    | no c =>
      simp only [enc]
      rw [dp] at hd
      have hm' : ∀ r ∈ ins c, 0 ≤ r.1 := by simpa only [ins] using hm
      simp! [show decide (("not" : Str) = "in") = false from rfl, ih (c := c) (by omega) (by rw [wd] at hw; exact hw) hm']
      simp [hold]
    | al b cs =>
      simp only [enc, encs_map]
      rw [dp] at hd
      rw [wd] at hw
      have key : mLcL (mgName 6) mYes (mCB (arg 2 (m_holds d)) (mCons (mVar 6) (mCons (mVar 1) mNil))) [.pl (.tup [.str (if b = true then "all" else "any"), .tup (cs.map enc)]), .pl (.int n), .no, .no, .no, .no, .no] (cs.map enc) = some (cs.map fun c => Cv.bl (hold n c)) := by
        refine mLcL_map enc (fun c => Cv.bl (hold n c)) fun c hc => ?_
        have h1 := dps_mem hc
        have h2 := wds_mem hc
        simp! [q_ev0]
        exact ih (by omega) (by omega) fun r hr => hm r (by rw [ins, inss_map]; exact List.mem_flatMap.mpr ⟨c, hc, hr⟩)
      have fl := fLst_ok (xs := cs.map fun c => Cv.bl (hold n c)) (by simp; omega)
      cases b with
      | true =>
        simp only [if_true] at key ⊢
        simp! [show decide (("all" : Str) = "in") = false from rfl, show decide (("all" : Str) = "not") = false from rfl, key, fl]
        rw [hold, if_pos rfl, holdA_map, List.all_map]; rfl
      | false =>
        simp only [Bool.false_eq_true, if_false] at key ⊢
        simp! [show decide (("any" : Str) = "in") = false from rfl, show decide (("any" : Str) = "not") = false from rfl, show decide (("any" : Str) = "all") = false from rfl, key, fl]
        rw [hold, if_neg (by decide), holdO_map, List.any_map]; rfl
theorem insc_le {c : Cd} {cs : List Cd} (h : c ∈ cs) : (ins c).length ≤ (inss cs).length := by
  rw [inss_map]
  induction cs with
  | nil => cases h
  | cons d r ih =>
    rw [List.flatMap_cons, List.length_append]
    rcases List.mem_cons.mp h with e | e
    · subst e; omega
    · have := ih e; omega
theorem m_ins_eq : ∀ {d : Nat} {c : Cd}, dp c < d → (ins c).length ≤ 1000000 → m_ins_of d [enc c] = some (.lst ((ins c).map eIn)) := by
  intro d
  induction d with
  | zero => intro c h; omega
  | succ d ih =>
    intro c hd hl
    rw [m_ins_of, mst_ins_of, b_ins_of]
    cases c with
    | rg m lo hi =>
      simp only [enc]
      simp! [q_ev0]
      rfl
    | no c =>
      simp only [enc]
      rw [dp] at hd
      rw [ins] at hl ⊢
      simp! [show decide (("not" : Str) = "in") = false from rfl, ih (c := c) (by omega) hl]
    | al b cs =>
      simp only [enc, encs_map]
      rw [dp] at hd
      rw [ins] at hl
      have key : ∀ v w, mLc2L (mgName 1) mYes (mSeqI (mCB (arg 1 (m_ins_of d)) (mCons (mVar 1) mNil))) (mgName 2) mYes (mVar 2) [2] [v, w, .no] (cs.map enc) = some (cs.flatMap fun c => (ins c).map eIn) := by
        intro v w
        refine mLc2L_map enc (fun c => (ins c).map eIn) fun c hc => ?_
        have h1 := dps_mem hc
        have h2 := insc_le hc
        simp! [ih (c := c) (by omega) (by omega)]
        exact mLcL_map eIn eIn fun a _ => by simp! [q_ev0]
      have e : (cs.flatMap fun c => (ins c).map eIn) = (inss cs).map eIn := by rw [inss_map, List.map_flatMap]
      rw [e] at key
      have fl := fLst_ok (xs := (inss cs).map eIn) (by simpa using hl)
      have n1 : decide ((if b = true then ("all" : Str) else "any") = "in") = false := by cases b <;> rfl
      have n2 : decide ((if b = true then ("all" : Str) else "any") = "not") = false := by cases b <;> rfl
      simp! [n1, n2, key, fl]
      rw [ins]
theorem m_all_ins_eq {r : Rl} (h : Sn r) : m_all_ins [eR r] = some (.lst ((insR r).map eIn)) := by
  rw [m_all_ins, mst_all_ins, b_all_ins]
  simp only [eR]
  have key : ∀ v u1 u2, mLc2L (mgTup 2 (mgCons (mgName 1) (mgCons (mgName 2) mgNil))) mYes (mSeqI (mCB (arg 1 (m_ins_of 8)) (mCons (mVar 2) mNil))) (mgName 3) mYes (mVar 3) [3] [v, u1, u2, .no] (r.rows.map eRow) = some (r.rows.flatMap fun x => (ins x.2).map eIn) := by
    intro v u1 u2
    refine mLc2L_map eRow (fun x => (ins x.2).map eIn) fun x hx => ?_
    have hl : (ins x.2).length ≤ (insR r).length := by
      have : ∀ l : List (Str × Cd), x ∈ l → (ins x.2).length ≤ (l.flatMap fun x => ins x.2).length := fun l => by
        induction l with
        | nil => intro h; cases h
        | cons y l ih =>
          intro h
          rw [List.flatMap_cons, List.length_append]
          rcases List.mem_cons.mp h with e | e
          · subst e; omega
          · have := ih e; omega
      exact this _ hx
    have := h.many
    simp only [eRow]
    simp! [m_ins_eq (h.dp x hx) (show (ins x.2).length ≤ 1000000 by omega)]
    exact mLcL_map eIn eIn fun a _ => by simp! [q_ev0]
  have e : (r.rows.flatMap fun x => (ins x.2).map eIn) = (insR r).map eIn := by unfold insR; rw [List.map_flatMap]
  rw [e] at key
  have := h.many
  simp! [key, fLst_ok (xs := (insR r).map eIn) (by rw [List.length_map]; omega)]
def rowI (n : Int) : List (Str × Cd) → Option Nat
  | [] => none
  | x :: r => if hold n x.2 = true then some 0 else (rowI n r).map (· + 1)
theorem m_bound_eq {r : Rl} (h : Sn r) : m_bound [eR r] = some (.int (bnd (insR r))) := by
  rw [m_bound, mst_bound, b_bound]
  have key : ∀ s0 s1 s2 s3 s4, mLcL (mgTup 4 (mgCons (mgName 1) (mgCons (mgName 2) (mgCons (mgName 3) (mgCons (mgName 4) mgNil))))) (mB (mOp fEq (mVar 2) (mC (.int 0)))) (mOp fAdd (mVar 4) (mC (.int 1))) [s0, s1, s2, s3, s4] ((insR r).map eIn) = some (((insR r).filter fun g => decide (g.1 = 0)).map fun g => .int (g.2.2 + 1)) := by
    intro s0 s1 s2 s3 s4
    refine mLcL_filter eIn (fun g => decide (g.1 = 0)) (fun g => .int (g.2.2 + 1)) fun g _ => ⟨[s0, .pl (.str "in"), .pl (.int g.1), .pl (.int g.2.1), .pl (.int g.2.2)], ?_, ?_, fun _ => ?_⟩
    · simp only [eIn]; simp! [q_ev0]
    · simp! [q_ev0]
    · simp! [q_ev0]
  have := h.many
  have e : (((insR r).filter fun g => decide (g.1 = 0)).map fun g => Cv.int (g.2.2 + 1)) = ((insR r).filterMap fun g => if g.1 = 0 then some (g.2.2 + 1) else none).map Cv.int := by
    rw [List.map_filterMap]
    induction insR r with
    | nil => rfl
    | cons g l ih =>
      rw [List.filter_cons, List.filterMap_cons]
      by_cases h : g.1 = 0
      · simp [h, ih]
      · simp [h, ih]
  have fl := fLst_ok (xs := ((insR r).filter fun g => decide (g.1 = 0)).map fun g => Cv.int (g.2.2 + 1)) (by
    have := List.length_filter_le (fun g : Rg => decide (g.1 = 0)) (insR r)
    rw [List.length_map]; omega)
  simp! [m_all_ins_eq h, key, fl]
  rw [e, q_maxD]
  simp! [q_ev0]
  unfold bnd
  generalize List.filterMap _ (insR r) = ns
  cases ns <;> rfl
theorem m_period_eq {r : Rl} (h : Sn r) : m_period [eR r] = some (.int (prd (insR r))) := by
  rw [m_period, mst_period, b_period]
  have key : ∀ s0 s1 s2 s3 s4, mLcL (mgTup 4 (mgCons (mgName 1) (mgCons (mgName 2) (mgCons (mgName 3) (mgCons (mgName 4) mgNil))))) (mB (mOp fGt (mVar 2) (mC (.int 0)))) (mVar 2) [s0, s1, s2, s3, s4] ((insR r).map eIn) = some (((insR r).filter fun g => decide (0 < g.1)).map fun g => .int g.1) := by
    intro s0 s1 s2 s3 s4
    refine mLcL_filter eIn (fun g => decide (0 < g.1)) (fun g => .int g.1) fun g _ => ⟨[s0, .pl (.str "in"), .pl (.int g.1), .pl (.int g.2.1), .pl (.int g.2.2)], ?_, ?_, fun _ => ?_⟩
    · simp only [eIn]; simp! [q_ev0]
    · simp! [q_ev0]
    · simp! [q_ev0]
  have := h.many
  have e : (((insR r).filter fun g => decide (0 < g.1)).map fun g => Cv.int g.1) = ((insR r).filterMap fun g => if 0 < g.1 then some g.1 else none).map Cv.int := by
    rw [List.map_filterMap]
    induction insR r with
    | nil => rfl
    | cons g l ih =>
      rw [List.filter_cons, List.filterMap_cons]
      by_cases h : 0 < g.1
      · simp [h, ih]
      · simp [h, ih]
  have fl := fLst_ok (xs := ((insR r).filter fun g => decide (0 < g.1)).map fun g => Cv.int g.1) (by
    have := List.length_filter_le (fun g : Rg => decide (0 < g.1)) (insR r)
    rw [List.length_map]; omega)
  simp! [m_all_ins_eq h, key, fl]
  rw [e, q_maxD]
  simp! [q_ev0]
  unfold prd
  generalize List.filterMap _ (insR r) = ns
  cases ns <;> rfl
def bndJ (rs : List Rl) : Int := lmax 0 (rs.map fun r => bnd (insR r))
def prdJ (rs : List Rl) : Int := lmax 0 (rs.map fun r => prd (insR r))
def reachJ (rs : List Rl) : Int := bndJ rs + prdJ rs
/-- a tuple or a list of some rules -/
def isSome (w : Cv) (rs : List Rl) : Prop := w = .tup (rs.map eR) ∨ w = .lst (rs.map eR)
theorem bndJ_nonneg {rs : List Rl} (n : rs ≠ []) (h : ∀ r ∈ rs, Sn r) : 0 ≤ bndJ rs ∧ bndJ rs ≤ 5000 := by
  have := lmax_mem (d := 0) (ns := rs.map fun r => bnd (insR r)) (by simpa using n)
  obtain ⟨r, hr, e⟩ := List.mem_map.mp this
  unfold bndJ
  rw [← e]
  exact ⟨(bnd_le _ (h r hr).rg).1, bnd_le5 _ (h r hr).rg⟩
theorem prd_k (l : List Rg) (ok : ∀ r ∈ l, okRg r) : prd l ≤ 1000 := by
  rw [← prd_edge l ok]
  have key := lmax_mem (d := 0) (ns := 1 :: l.map fun r => r.1) (by simp)
  generalize lmax 0 (1 :: l.map fun r => r.1) = z at key ⊢
  rcases List.mem_cons.mp key with e | e
  · omega
  · obtain ⟨r, hr, e⟩ := List.mem_map.mp e
    have := (ok r hr).2.2.2.2.2.2.1
    omega
theorem prdJ_pos {rs : List Rl} (n : rs ≠ []) (h : ∀ r ∈ rs, Sn r) : 1 ≤ prdJ rs ∧ prdJ rs ≤ 1000 := by
  have := lmax_mem (d := 0) (ns := rs.map fun r => prd (insR r)) (by simpa using n)
  obtain ⟨r, hr, e⟩ := List.mem_map.mp this
  unfold prdJ
  rw [← e]
  exact ⟨(prd_le _ (h r hr).rg).1, prd_k _ (h r hr).rg⟩
theorem reach_nonneg {rs : List Rl} (n : rs ≠ []) (h : ∀ r ∈ rs, Sn r) : 0 ≤ reachJ rs := by
  have a := bndJ_nonneg n h
  have b := prdJ_pos n h
  unfold reachJ; omega
theorem reach_le {rs : List Rl} (n : rs ≠ []) (h : ∀ r ∈ rs, Sn r) : reachJ rs ≤ 6000 := by
  have a := bndJ_nonneg n h
  have b := prdJ_pos n h
  unfold reachJ; omega
theorem m_lranges_eq : ∀ {d : Nat} {c : Cd}, dp c < d → (ins c).length ≤ 1000000 → m__law_ranges d [enc c] = some (.lst ((ins c).map eIn)) := by
  intro d
  induction d with
  | zero => intro c h; omega
  | succ d ih =>
    intro c hd hl
    rw [m__law_ranges, mst__law_ranges, b__law_ranges]
    cases c with
    | rg m lo hi =>
      simp only [enc]
      simp! [q_ev0]
      rfl
    | no c =>
      simp only [enc]
      rw [dp] at hd
      rw [ins] at hl ⊢
      simp! [show decide (("not" : Str) = "in") = false from rfl, ih (c := c) (by omega) hl]
      rw [q_fExt (by simpa using hl)]
      simp! [q_ev0]
    | al b cs =>
      simp only [enc, encs_map]
      rw [dp] at hd
      rw [ins] at hl
      have n1 : decide ((if b = true then ("all" : Str) else "any") = "in") = false := by cases b <;> rfl
      have n2 : decide ((if b = true then ("all" : Str) else "any") = "not") = false := by cases b <;> rfl
      have loop : ∀ (v : Cv) (G : MG) (B : MS), G = mgName 2 → B = (mSeq (mExtend 1 (mCB (arg 1 (m__law_ranges d)) (mCons (mVar 2) mNil))) mNext) → ∀ (l : List Cd) (acc : List Rg), (∀ c ∈ l, c ∈ cs) → acc.length + (inss l).length ≤ 1000000 →
          mForL G B [2] (l.map enc) [.pl v, .ow (.lst (acc.map eIn)), .no] = some (.nx [.pl v, .ow (.lst ((acc ++ inss l).map eIn)), .no]) := by
        intro v G B hG hB l
        induction l with
        | nil => intro acc _ _; rw [inss, List.append_nil]; rfl
        | cons c l ih2 =>
          intro acc hm ha
          have hc := hm c List.mem_cons_self
          have h1 := dps_mem hc
          have h2 := insc_le hc
          rw [inss, List.length_append] at ha
          rw [List.map_cons, q_forL, hG, hB]
          simp! [ih (c := c) (by omega) (by omega)]
          rw [q_fExt (by simp; omega)]
          simp! [q_ev0]
          rw [← List.map_append, ← hG, ← hB, ih2 (acc ++ ins c) (fun x hx => hm x (List.mem_cons_of_mem _ hx)) (by rw [List.length_append]; omega), inss, List.append_assoc]
      have := loop (.tup [.str (if b = true then "all" else "any"), .tup (cs.map enc)]) _ _ rfl rfl cs [] (fun _ h => h) (by simpa using hl)
      rw [List.map_nil, List.nil_append] at this
      simp! [n1, n2, this, ins]
theorem m_ledges_eq {r : Rl} (h : Sn r) : m__law_edges [eR r] = some (.tup [.int (bnd (insR r)), .int (prd (insR r))]) := by
  rw [m__law_edges, mst__law_edges, b__law_edges]
  simp only [eR]
  have mny := h.many
  have loop : ∀ (v : Cv) (G : MG) (B : MS), G = (mgTup 2 (mgCons (mgName 2) (mgCons (mgName 3) mgNil))) → B = (mSeq (mExtend 1 (mCB (arg 1 (m__law_ranges 8)) (mCons (mVar 3) mNil))) mNext) → ∀ (l : List (Str × Cd)) (acc : List Rg), (∀ c ∈ l, c ∈ r.rows) → acc.length + (l.flatMap fun x => ins x.2).length ≤ 1000000 →
      mForL G B [2, 3] (l.map eRow) [.pl v, .ow (.lst (acc.map eIn)), .no, .no, .no, .no] = some (.nx [.pl v, .ow (.lst ((acc ++ l.flatMap fun x => ins x.2).map eIn)), .no, .no, .no, .no]) := by
    intro v G B hG hB l
    induction l with
    | nil => intro acc _ _; rw [List.flatMap_nil, List.append_nil]; rfl
    | cons c l ih2 =>
      intro acc hm ha
      rw [List.flatMap_cons, List.length_append] at ha
      rw [List.map_cons, q_forL, hG, hB]
      simp only [eRow]
      simp! [m_lranges_eq (h.dp c (hm c List.mem_cons_self)) (show (ins c.2).length ≤ 1000000 by omega)]
      rw [q_fExt (by simp; omega)]
      simp! [q_ev0]
      rw [← List.map_append, ← hG, ← hB]
      have := ih2 (acc ++ ins c.2) (fun x hx => hm x (List.mem_cons_of_mem _ hx)) (by rw [List.length_append]; omega)
      rw [this, List.flatMap_cons, List.append_assoc]
  have l1 := loop (.tup [.tup (r.rows.map eRow), .str r.last]) _ _ rfl rfl r.rows [] (fun _ h => h) (by show 0 + (insR r).length ≤ 1000000; omega)
  rw [List.map_nil, List.nil_append] at l1
  have k1 : ∀ s0 s1 s2 s3 s4 s5, mLcL (mgName 5) (mB (mOp fEq (mOp fIx (mVar 5) (mC (.int 1))) (mC (.int 0)))) (mOp fAdd (mOp fIx (mVar 5) (mC (.int 3))) (mC (.int 1))) [s0, s1, s2, s3, s4, s5] ((insR r).map eIn) = some (((insR r).filter fun g => decide (g.1 = 0)).map fun g => .int (g.2.2 + 1)) := by
    intro s0 s1 s2 s3 s4 s5
    refine mLcL_filter eIn (fun g => decide (g.1 = 0)) (fun g => .int (g.2.2 + 1)) fun g _ => ⟨[s0, s1, s2, s3, s4, .pl (eIn g)], ?_, ?_, fun _ => ?_⟩
    · simp! [q_ev0]
    · simp only [eIn]; simp! [q_ev0]
    · simp only [eIn]; simp! [q_ev0]
  have e1 : (((insR r).filter fun g => decide (g.1 = 0)).map fun g => Cv.int (g.2.2 + 1)) = ((insR r).filterMap fun g => if g.1 = 0 then some (g.2.2 + 1) else none).map Cv.int := by
    rw [List.map_filterMap]
    induction insR r with
    | nil => rfl
    | cons g l ih =>
      rw [List.filter_cons, List.filterMap_cons]
      by_cases h : g.1 = 0
      · simp [h, ih]
      · simp [h, ih]
  rw [e1] at k1
  have b1 : ((insR r).filterMap fun g => if g.1 = 0 then some (g.2.2 + 1) else none).length ≤ 1000 * 1000 := by
    have := List.length_filterMap_le (fun g : Rg => if g.1 = 0 then some (g.2.2 + 1) else none) (insR r); omega
  have k2 : ∀ s0 s1 s2 s3 s4 s5, mLcL (mgName 5) mYes (mOp fIx (mVar 5) (mC (.int 1))) [s0, s1, s2, s3, s4, s5] ((insR r).map eIn) = some ((insR r).map fun g => .int g.1) := by
    intro s0 s1 s2 s3 s4 s5
    exact mLcL_map eIn (fun g => .int g.1) fun g _ => by simp only [eIn]; simp! [q_ev0]
  have e2 : ((insR r).map fun g => Cv.int g.1) = ((insR r).map fun g => g.1).map Cv.int := by rw [List.map_map]; rfl
  rw [e2] at k2
  have l1' : (r.rows.flatMap fun x => ins x.2) = insR r := rfl
  rw [l1'] at l1
  have f1 := fLst_ok (xs := ((insR r).filterMap fun g => if g.1 = 0 then some (g.2.2 + 1) else none).map Cv.int) (by simpa using b1)
  have f2 := fLst_ok (xs := ((insR r).map fun g => g.1).map Cv.int) (by simp; omega)
  have a1 : fAdd (.lst [.int 0]) (.lst (((insR r).filterMap fun g => if g.1 = 0 then some (g.2.2 + 1) else none).map Cv.int)) = some (.lst ((0 :: (insR r).filterMap fun g => if g.1 = 0 then some (g.2.2 + 1) else none).map Cv.int)) := q_addL (by
    have := List.length_filterMap_le (fun g : Rg => if g.1 = 0 then some (g.2.2 + 1) else none) (insR r)
    rw [List.length_map]; simp only [List.length_cons, List.length_nil]; omega)
  have a2 : fAdd (.lst [.int 1]) (.lst (((insR r).map fun g => g.1).map Cv.int)) = some (.lst ((1 :: (insR r).map fun g => g.1).map Cv.int)) := q_addL (by simp; omega)
  simp! [l1, k1, k2, f1, f2, a1, a2, bnd_edge _ h.rg, prd_edge _ h.rg]
theorem m_lis_eq (n : Int) : ∀ {d : Nat} {c : Cd}, dp c < d → wd c ≤ 1000000 → (∀ r ∈ ins c, 0 ≤ r.1) → m__law_is d [enc c, .int n] = some (.bl (hold n c)) := by
  intro d
  induction d with
  | zero => intro c h; omega
  | succ d ih =>
    intro c hd hw hm
    rw [m__law_is, mst__law_is, b__law_is]
    cases c with
    | rg m lo hi =>
      simp only [enc]
      have m0 : 0 ≤ m := hm (m, lo, hi) (by simp [ins])
      by_cases h0 : m = 0
      · have h0' : ¬ 0 < m := by omega
        by_cases h1 : lo ≤ n
        · simp! [h0, h1]
          simp [hold, h1]
        · simp! [h0, h1]
          simp [hold, h1]
      · have h0' : 0 < m := by omega
        by_cases h1 : lo ≤ n % m
        · simp! [h0, q_mod h0', h1]
          simp [hold, h0', h1]
        · simp! [h0, q_mod h0', h1]
          simp [hold, h0', h1]
    | no c =>
      simp only [enc]
      rw [dp] at hd
      have hm' : ∀ r ∈ ins c, 0 ≤ r.1 := by simpa only [ins] using hm
      simp! [show decide (("not" : Str) = "in") = false from rfl, ih (c := c) (by omega) (by rw [wd] at hw; exact hw) hm']
      simp [hold]
    | al b cs =>
      simp only [enc, encs_map]
      rw [dp] at hd
      rw [wd] at hw
      have key : ∀ s0 s2 s3 s4, mLcL (mgName 5) mYes (mCB (arg 2 (m__law_is d)) (mCons (mVar 5) (mCons (mVar 1) mNil))) [s0, .pl (.int n), s2, s3, s4, .no] (cs.map enc) = some (cs.map fun c => Cv.bl (hold n c)) := by
        intro s0 s2 s3 s4
        refine mLcL_map enc (fun c => Cv.bl (hold n c)) fun c hc => ?_
        have h1 := dps_mem hc
        have h2 := wds_mem hc
        simp! [q_ev0]
        exact ih (by omega) (by omega) fun r hr => hm r (by rw [ins, inss_map]; exact List.mem_flatMap.mpr ⟨c, hc, hr⟩)
      have fl := fLst_ok (xs := cs.map fun c => Cv.bl (hold n c)) (by simp; omega)
      have fl2 : (cs.map fun c => Cv.bl (hold n c)).all flatC = true := by simp [flatC]
      have t1 : ((cs.map fun c => Cv.bl (hold n c)).any fun y => ceq y (.bl true)) = cs.any (hold n) := by
        rw [List.any_map]; congr 1; funext c; show ceq (.bl (hold n c)) (.bl true) = _; cases hold n c <;> rfl
      have t2 : (!(cs.map fun c => Cv.bl (hold n c)).any fun y => ceq y (.bl false)) = cs.all (hold n) := by
        have e : ((fun y => ceq y (.bl false)) ∘ fun c => Cv.bl (hold n c)) = fun c => !hold n c := by
          funext c; show ceq (.bl (hold n c)) (.bl false) = _; cases hold n c <;> rfl
        rw [List.any_map, e, ← List.all_eq_not_any_not]
      cases b with
      | true =>
        simp only [if_true] at key ⊢
        simp! [show decide (("all" : Str) = "in") = false from rfl, show decide (("all" : Str) = "not") = false from rfl, key, fl, q_inL (v := .bl false) rfl fl2, t2]
        rw [hold, if_pos rfl, holdA_map, List.all_map]; rfl
      | false =>
        simp only [Bool.false_eq_true, if_false] at key ⊢
        simp! [show decide (("any" : Str) = "in") = false from rfl, show decide (("any" : Str) = "not") = false from rfl, show decide (("any" : Str) = "all") = false from rfl, key, fl, q_inL (v := .bl true) rfl fl2, t1]
        rw [hold, if_neg (by decide), holdO_map, List.any_map]; rfl
theorem m_lreach_eq {w : Cv} {rs : List Rl} (hw : isSome w rs) (h : ∀ r ∈ rs, Sn r) (n : rs ≠ []) (hl : rs.length ≤ 1000000) : m__law_reach [w] = some (.int (reachJ rs)) := by
  rw [m__law_reach, mst__law_reach, b__law_reach]
  have k0 : ∀ s0 s1 s2 s3, mLcL (mgName 2) mYes (mCB (arg 1 m__law_edges) (mCons (mVar 2) mNil)) [s0, s1, s2, s3] (rs.map eR) = some (rs.map fun r => .tup [.int (bnd (insR r)), .int (prd (insR r))]) := by
    intro s0 s1 s2 s3
    exact mLcL_map eR (fun r => .tup [.int (bnd (insR r)), .int (prd (insR r))]) fun r hr => by simp! [m_ledges_eq (h r hr)]
  have k1 : ∀ s0 s1 s2 s3, mLcL (mgName 3) mYes (mOp fIx (mVar 3) (mC (.int 0))) [s0, s1, s2, s3] (rs.map fun r => .tup [.int (bnd (insR r)), .int (prd (insR r))]) = some (rs.map fun r => .int (bnd (insR r))) := by
    intro s0 s1 s2 s3
    exact mLcL_map (fun r => .tup [.int (bnd (insR r)), .int (prd (insR r))]) (fun r => .int (bnd (insR r))) fun r _ => by simp! [q_ev0]
  have k2 : ∀ s0 s1 s2 s3, mLcL (mgName 3) mYes (mOp fIx (mVar 3) (mC (.int 1))) [s0, s1, s2, s3] (rs.map fun r => .tup [.int (bnd (insR r)), .int (prd (insR r))]) = some (rs.map fun r => .int (prd (insR r))) := by
    intro s0 s1 s2 s3
    exact mLcL_map (fun r => .tup [.int (bnd (insR r)), .int (prd (insR r))]) (fun r => .int (prd (insR r))) fun r _ => by simp! [q_ev0]
  have f0 := fLst_ok (xs := rs.map fun r => Cv.tup [.int (bnd (insR r)), .int (prd (insR r))]) (by simpa using hl)
  have f1 := fLst_ok (xs := rs.map fun r => Cv.int (bnd (insR r))) (by simpa using hl)
  have f2 := fLst_ok (xs := rs.map fun r => Cv.int (prd (insR r))) (by simpa using hl)
  rcases hw with rfl | rfl <;> (simp! [k0, k1, k2, f0, f1, f2, q_maxM n]; rfl)
def namesR (r : Rl) : List Str := r.last :: r.rows.map (·.1)
/-! levels, limits -/
theorem dps_at : ∀ {cs : List Cd}, cs ≠ [] → ∃ c ∈ cs, dp c = dps cs
  | [], h => absurd rfl h
  | [c], _ => ⟨c, List.mem_cons_self, by rw [dps, dps]; omega⟩
  | c :: d :: r, _ => by
    obtain ⟨x, hx, e⟩ := dps_at (cs := d :: r) (by simp)
    by_cases h : dp c ≤ dps (d :: r)
    · exact ⟨x, List.mem_cons_of_mem _ hx, by rw [e]; show dps (d :: r) = max (dp c) (dps (d :: r)); omega⟩
    · exact ⟨c, List.mem_cons_self, by show dp c = max (dp c) (dps (d :: r)); omega⟩
theorem lmax_one (a : Int) : lmax 0 [a] = a := rfl
theorem lmax_dps {cs : List Cd} (h : cs ≠ []) : lmax 0 (cs.map fun c => ((dp c : Nat) : Int) + 1) = ((dps cs : Nat) : Int) + 1 := by
  have hm := lmax_mem (d := 0) (ns := cs.map fun c => ((dp c : Nat) : Int) + 1) (by simpa using h)
  obtain ⟨c, hc, e⟩ := List.mem_map.mp hm
  obtain ⟨d, hd, e2⟩ := dps_at h
  have hg := lmax_ge (d := 0) (ns := cs.map fun c => ((dp c : Nat) : Int) + 1) _ (List.mem_map_of_mem hd)
  have := dps_mem hc
  omega
theorem m_levels_eq : ∀ {d : Nat} {c : Cd}, dp c < d → wsh c = true → m__law_levels d [enc c] = some (.int (((dp c : Nat) : Int) + 1)) := by
  intro d
  induction d with
  | zero => intro c h; omega
  | succ d ih =>
    intro c hd hw
    rw [m__law_levels, mst__law_levels, b__law_levels]
    cases c with
    | rg m lo hi =>
      simp only [enc]
      simp! [q_ev0]
      rfl
    | no c =>
      simp only [enc]
      rw [dp] at hd
      have k1 : ∀ a b : Sl, mLcL (mgName 1) mYes (mCB (arg 1 (m__law_levels d)) (mCons (mVar 1) mNil)) [a, b] [enc c] = some [.int (((dp c : Nat) : Int) + 1)] := fun a b =>
        mLcL_map (as := [c]) enc (fun c => .int (((dp c : Nat) : Int) + 1)) fun x hx => by
          rw [List.mem_singleton.mp hx]
          simp! [ih (c := c) (by omega) hw]
      simp! [show decide (("not" : Str) = "in") = false from rfl, k1, q_maxL (ns := [((dp c : Nat) : Int) + 1]) (by simp), show fMax [.lst [.int (((dp c : Nat) : Int) + 1)]] = some (.int (lmax 0 [((dp c : Nat) : Int) + 1])) from q_maxL (ns := [((dp c : Nat) : Int) + 1]) (by simp), lmax_one]
      rw [dp, show (1 : Int) + (((dp c : Nat) : Int) + 1) = ((dp c + 1 : Nat) : Int) + 1 by omega]
    | al b cs =>
      simp only [enc, encs_map]
      rw [dp] at hd
      rw [wsh, Bool.and_eq_true, decide_eq_true_eq] at hw
      have n1 : decide ((if b = true then ("all" : Str) else "any") = "in") = false := by cases b <;> rfl
      have n2 : decide ((if b = true then ("all" : Str) else "any") = "not") = false := by cases b <;> rfl
      have ne : cs ≠ [] := fun e => by rw [e] at hw; simp at hw
      have k1 : ∀ u v : Sl, mLcL (mgName 1) mYes (mCB (arg 1 (m__law_levels d)) (mCons (mVar 1) mNil)) [u, v] (cs.map enc) = some (cs.map fun c => .int (((dp c : Nat) : Int) + 1)) := fun u v =>
        mLcL_map enc (fun c => .int (((dp c : Nat) : Int) + 1)) fun x hx => by
          have := dps_mem hx
          simp! [ih (c := x) (by omega) (wshs_mem hw.2 x hx)]
      simp! [n1, n2, k1, fLst_ok (xs := cs.map fun c => Cv.int (((dp c : Nat) : Int) + 1)) (by rw [List.length_map]; omega), q_maxM ne, lmax_dps ne]
      rw [dp, show (1 : Int) + (((dps cs : Nat) : Int) + 1) = ((dps cs + 1 : Nat) : Int) + 1 by omega]
def lvls (r : Rl) : List Int := 0 :: r.rows.map fun x => ((dp x.2 : Nat) : Int) + 1
def withinB (r : Rl) : Bool := decide (r.rows.length < 13) && (decide ((ddU (namesR r)).length < 9) && (decide ((insR r).length < 41) && decide (lmax 0 (lvls r) < 7)))
theorem insR_app (last : Str) (m1 : List (Str × Cd)) (a : Str × Cd) : insR ⟨m1 ++ [a], last⟩ = insR ⟨m1, last⟩ ++ ins a.2 := by
  unfold insR; simp
theorem m_withinS {r : Rl} (hs : Sn r) (hl : r.rows.length ≤ 20) (hw : ∀ x ∈ r.rows, wsh x.2 = true) : m__law_within [eR r] = some (.bl (withinB r)) := by
  rw [m__law_within, mst__law_within, b__law_within]
  have loop : mForL (mgName 4) ((mSeq (mAppend 3 (mOp fIx (mVar 4) (mC (.int 0)))) (mSeq (mExtend 1 (mCB (arg 1 (m__law_ranges 8)) (mCons (mOp fIx (mVar 4) (mC (.int 1))) (mNil)))) (mSeq (mAppend 2 (mCB (arg 1 (m__law_levels 8)) (mCons (mOp fIx (mVar 4) (mC (.int 1))) (mNil)))) (mNext))))) [4] (r.rows.map eRow) [.pl (eR r), .ow (.lst []), .ow (.lst [.int 0]), .ow (.lst [.str r.last]), .no] =
      some (.nx [.pl (eR r), .ow (.lst ((insR r).map eIn)), .ow (.lst ((lvls r).map Cv.int)), .ow (.lst ((namesR r).map Cv.str)), .no]) := by
    refine m_forP eRow (fun m => [.pl (eR r), .ow (.lst ((insR ⟨m, r.last⟩).map eIn)), .ow (.lst ((lvls ⟨m, r.last⟩).map Cv.int)), .ow (.lst ((namesR ⟨m, r.last⟩).map Cv.str)), .no]) r.rows ?_
    intro m1 a m2 hm
    have ha : a ∈ r.rows := by rw [hm]; simp
    have hlen := congrArg List.length hm
    rw [List.length_append, List.length_cons] at hlen
    have h1 := hs.dp a ha
    have h2 : (insR ⟨m1, r.last⟩).length + (ins a.2).length ≤ 400000 := by
      have := hs.many
      have e : insR r = insR ⟨m1 ++ [a], r.last⟩ ++ insR ⟨m2, r.last⟩ := by unfold insR; rw [hm]; simp
      rw [e, insR_app, List.length_append, List.length_append] at this
      omega
    have k1 := m_lranges_eq (d := 8) (c := a.2) (by omega) (by omega)
    have k2 := m_levels_eq (d := 8) (c := a.2) (by omega) (hw a ha)
    have k3 := q_fApp (xs := (namesR ⟨m1, r.last⟩).map Cv.str) (v := .str a.1) (by rw [List.length_map, namesR, List.length_cons, List.length_map]; show m1.length + 1 < _; omega)
    have k4 := q_fExt (xs := (insR ⟨m1, r.last⟩).map eIn) (ys := (ins a.2).map eIn) (by rw [List.length_map, List.length_map]; omega)
    have k5 := q_fApp (xs := (lvls ⟨m1, r.last⟩).map Cv.int) (v := .int (((dp a.2 : Nat) : Int) + 1)) (by rw [List.length_map, lvls, List.length_cons, List.length_map]; show m1.length + 1 < _; omega)
    refine ⟨_, by simp only [eRow]; simp! [k1, k2, k3, k4, k5]; rfl, ?_⟩
    simp only [q_wipe, q_wipe0, List.set_cons_succ, List.set_cons_zero, insR_app, lvls, namesR, List.map_append, List.map_cons, List.map_nil, List.cons_append]
  have hn : (ddU (namesR r)).length < 4096 := by
    have := ddU_le (namesR r)
    rw [namesR, List.length_cons, List.length_map] at this
    unfold namesR
    omega
  have k6 := q_lenSetL hn
  have k7 := q_maxL (ns := lvls r) (by unfold lvls; simp)
  simp only [eR] at loop ⊢
  have g1 : decide ((r.rows.length : Int) < 13) = decide (r.rows.length < 13) := decide_eq_decide.mpr (by omega)
  have g2 : decide (((ddU (namesR r)).length : Int) < 9) = decide ((ddU (namesR r)).length < 9) := decide_eq_decide.mpr (by omega)
  have g3 : decide (((insR r).length : Int) < 41) = decide ((insR r).length < 41) := decide_eq_decide.mpr (by omega)
  unfold withinB
  simp! [loop, List.length_map, k6, k7, g1]
  generalize decide (r.rows.length < 13) = A
  cases A with
  | false => simp! [Bool.false_and]
  | true =>
    simp! [k6, k7, g2, Bool.true_and]
    generalize decide ((ddU (namesR r)).length < 9) = B
    cases B with
    | false => simp! [Bool.false_and]
    | true =>
      simp! [k7, g3, Bool.true_and, List.length_map]
      generalize decide ((insR r).length < 41) = C
      cases C with
      | false => simp! [Bool.false_and]
      | true => simp! [k7, Bool.true_and]
theorem m_within_eq {r : Rl} (hg : goodB r) (hw : ∀ x ∈ r.rows, wsh x.2 = true) : m__law_within [eR r] = some (.bl (withinB r)) := m_withinS hg.sn hg.1 hw
end Lw
namespace Lw
open PySem PySem.Spec PyProof.Rows L2 CL
local macro_rules
  | `(tactic| simp! [$xs,*]) => `(tactic| simp -implicitDefEqProofs only [w_bor, q_notInG, w_addN, q_notInS, q_tOnly, q_tput, q_tsetd, q_asgTsetd, q_fTIx, q_fTIn, q_tget2, q_tget1, q_tOIx, q_tOIn, q_tOGet2, q_tOGet1, q_lstIt, q_tupIt, w_mth, w_tupF, q_ltS, q_argK1, q_argK2, q_argK2', q_argK3a, q_argK3b, q_argK3c, q_argK3d, q_argK3e, q_argK3f, q_mtupF, q_tupF1, q_tupF2, q_tupF3, q_ord, q_msetL, q_wkF, q_wkT, q_wkL, q_wkN, q_wkS, q_wkI, q_wkB, q_tupleF, q_dictL, q_dictF, q_mth, q_fIndexL, q_zipI, q_fZipL, q_fZipT, q_isBB, q_revT, q_fRevT, q_inS, q_oIx, q_oIn, q_oGet2, q_oGet1, q_dc, q_disp1, q_keyS, q_keyI, q_mrg0, q_mrg, q_put0, q_dkOnly, q_dput, q_setd, q_asgSetd, q_fDIx, q_fDIn, q_dget2, q_dget1, q_fget2, q_fget1, w_m, w_rzN, q_mulAI, q_mulAL, q_rng3, q_isiTT, q_isiLT, q_isiST, q_isiIT, q_isiBT, q_isiNT, q_isiTS, q_isiLS, q_isiSS, q_isiIS, q_isiBS, q_isiNS, q_isiTI, q_isiLI, q_isiSI, q_isiII, q_isiBI, q_isiNI, q_isiTB, q_isiLB, q_isiSB, q_isiIB, q_isiBB, q_isiNB, w_bx, w_bxe, w_sx, w_sxe, w_lift, w_iteT, w_iteF, w_iteN, w_p, w_pT, w_pA, w_op, w_un, w_b, w_not, w_and, w_or, w_notV, w_andV, w_orV, w_if, w_nil, w_cons, w_tup, w_lst, w_cb, w_seqI, w_rng1, w_rng2, w_lc, w_noEx, w_lcL0, w_call, w_argX1, w_argX2, w_argX3, w_argX4, w_pop, w_popAt, w_nxt, w_setc0, w_setc1, w_setc2, w_seq, w_thN, w_thR, w_thO, w_thB, w_thC, w_thE, w_asg, w_asgN, w_drop, w_ret, w_retN, w_retO, w_ifS, w_brk, w_cnt, w_for, w_forL0, w_lkN, w_lkC, w_lkB, w_lkR, w_lkO, w_lkE, w_aug, w_h2, w_h3, w_j2, w_j3, w_par, w_par3, w_parO, w_parO3, w_frz, w_append, w_extend, w_setL, w_runP, w_runV, w_runN, w_outP, w_outPN, w_outV, w_outVN, w_outO, w_rest0, w_rest, q_revL, q_fRev, ite_t, ite_f, ite_n, q_var0, q_varS, q_c, q_op, q_un, q_b, q_fB, q_and, q_or, q_not, q_andV, q_orV, q_notV, q_if, q_chain, q_nil, q_cons, q_tup, q_lst, q_cb, q_ckw, q_noPart, q_part, q_fPart, q_sl, q_gname, q_gnil, q_gcons, q_gtup2, q_gtup3, q_gtup4, q_seqI, q_fSeqT, q_fSeqL, q_fSeqS, q_rng1, q_rng2, q_enumI, q_fEnumT, q_fEnumL, q_arg0, q_arg1, q_arg2, q_arg3, q_arg4, q_arg5, q_next, q_seq, q_thenN, q_thenR, q_thenB, q_thenC, q_asg, q_drop, q_ret, q_retN, q_ifS, q_break, q_cont, q_for, q_forL0, q_forL, q_loopN, q_loopC, q_loopB, q_loopR, q_while, q_loopWN, q_loopWC, q_loopWB, q_loopWR, q_slP, q_slO, q_aug, q_f2, q_f3, q_par, q_par3, q_g2, q_g3, q_parO, q_parO3, q_oNil, q_oP, q_oN, q_asgN, q_frz, q_bor, q_borT, q_thO, q_thP, q_thN, q_ttI, q_ttB, q_ttS, q_append, q_lstOnly, q_extend, q_lc, q_lc2, q_wipe0, q_wipe, q_fI, q_addI, q_eqI, q_eqS, q_isNN, q_isNI, q_isNT, q_isNS, q_isNB, q_ixT, q_ixL, q_at0, q_at1, q_at2, q_at3, q_neg, q_cutT, q_cutL, q_lenT, q_lenL, q_abs, q_lenR, q_ixR, q_intB, q_intI, q_tupL, q_tupT, q_listL, q_listT, q_max2, q_min2, q_maxC, q_minC, q_maxD, q_minD, q_sum, q_allM, q_anyM, q_tup0, q_tup1, q_tup2, q_tup3, q_tup4, q_lst0, q_lst1, q_lst2, q_lst3, q_lst4, q_lst5, q_lst6, q_lst7, q_lst8, q_lst9, q_lst10, q_lst11, q_lst12, q_tup5, q_tup6, q_tup7, q_tup8, q_out, q_outR, q_outN, Option.bind_some, Option.map_some, Option.bind_none, Option.map_none, List.set_cons_zero, List.set_cons_succ, List.getElem?_cons_zero, List.getElem?_cons_succ, List.map_cons, List.map_nil, List.cons_append, List.nil_append, reduceCtorEq, reduceIte, decide_true, decide_false, Bool.false_eq_true, $xs,*])
/-! k62: sets of numbers as bits -/
def mskN (f : Nat → Bool) : Nat → Nat
  | 0 => 0
  | n + 1 => mskN f n + if f n = true then 2 ^ n else 0
theorem mskN_lt (f : Nat → Bool) : ∀ n, mskN f n < 2 ^ n
  | 0 => Nat.one_pos
  | n + 1 => by
    have := mskN_lt f n
    rw [mskN, Nat.pow_succ]
    split <;> omega
theorem mskN_bit (f : Nat → Bool) : ∀ n k, (mskN f n).testBit k = (decide (k < n) && f k)
  | 0, k => by
    rw [decide_eq_false (by omega), Bool.false_and]
    exact Nat.zero_testBit k
  | n + 1, k => by
    have lt := mskN_lt f n
    have ih := mskN_bit f n k
    rcases Nat.lt_trichotomy k n with h | h | h
    · rw [decide_eq_true (show k < n + 1 by omega)]
      rw [decide_eq_true h] at ih
      rw [mskN]
      split
      · rw [Nat.add_comm, Nat.testBit_two_pow_add_gt h, ih]
      · rw [Nat.add_zero, ih]
    · subst h
      rw [decide_eq_true (show k < k + 1 by omega), Bool.true_and, mskN]
      have z := Nat.testBit_lt_two_pow lt
      cases e : f k with
      | true => rw [if_pos rfl, Nat.add_comm, Nat.testBit_two_pow_add_eq, z]; rfl
      | false => rw [if_neg (by decide), Nat.add_zero, z]
    · rw [decide_eq_false (by omega), Bool.false_and]
      exact Nat.testBit_lt_two_pow (Nat.lt_of_lt_of_le (mskN_lt f (n + 1)) (Nat.pow_le_pow_right (by decide) (by omega)))
theorem mskN_congr {f g : Nat → Bool} : ∀ {n}, (∀ k < n, f k = g k) → mskN f n = mskN g n
  | 0, _ => rfl
  | n + 1, h => by
    rw [mskN, mskN, mskN_congr fun k hk => h k (by omega), h n (by omega)]
theorem mskN_zero {f : Nat → Bool} : ∀ {n}, mskN f n = 0 ↔ ∀ k < n, f k = false
  | 0 => ⟨fun _ k h => absurd h (by omega), fun _ => rfl⟩
  | n + 1 => by
    have p : 0 < 2 ^ n := Nat.two_pow_pos n
    rw [mskN]
    constructor
    · intro h k hk
      by_cases e : k = n
      · subst e
        cases q : f k with
        | false => rfl
        | true => rw [q, if_pos rfl] at h; omega
      · exact mskN_zero.mp (show mskN f n = 0 by omega) k (by omega)
    · intro h
      rw [mskN_zero.mpr fun k hk => h k (by omega), h n (by omega)]
      rfl
theorem mskN_all : ∀ n, mskN (fun _ => true) n = 2 ^ n - 1
  | 0 => rfl
  | n + 1 => by
    rw [mskN, mskN_all n, if_pos rfl, Nat.pow_succ]
    have := Nat.two_pow_pos n
    omega
theorem mskN_and (f g : Nat → Bool) (n : Nat) : mskN f n &&& mskN g n = mskN (fun k => f k && g k) n := by
  refine Nat.eq_of_testBit_eq fun k => ?_
  rw [Nat.testBit_and, mskN_bit, mskN_bit, mskN_bit]
  cases decide (k < n) <;> cases f k <;> cases g k <;> rfl
theorem mskN_split (f g : Nat → Bool) : ∀ n, mskN f n = mskN (fun k => f k && g k) n + mskN (fun k => f k && !g k) n
  | 0 => rfl
  | n + 1 => by
    rw [mskN, mskN, mskN, mskN_split f g n]
    cases f n <;> cases g n <;> simp <;> omega
def mi (f : Nat → Bool) (n : Nat) : Cv := .int ((mskN f n : Nat) : Int)
theorem mi_and {f g : Nat → Bool} {n : Nat} : fBand (mi f n) (mi g n) = some (mi (fun k => f k && g k) n) := by
  unfold mi
  rw [q_band, ← mskN_and]
  unfold Builtin.bitAnd
  rw [decide_eq_true (Int.natCast_nonneg _), decide_eq_true (Int.natCast_nonneg _), Int.toNat_natCast, Int.toNat_natCast]
theorem mi_inv {f g : Nat → Bool} {n : Nat} : ((fInv (mi g n)).bind fun y => fBand (mi f n) y) = some (mi (fun k => f k && !g k) n) := by
  unfold mi fInv
  rw [Option.bind_some, q_band]
  have hs := mskN_split f g n
  have ha := mskN_and f g n
  unfold Builtin.bitAnd
  have n1 : decide ((0 : Int) ≤ Builtin.bitNot ((mskN g n : Nat) : Int)) = false := decide_eq_false (by unfold Builtin.bitNot; omega)
  have n2 : (Builtin.bitNot (Builtin.bitNot ((mskN g n : Nat) : Int))).toNat = mskN g n := by unfold Builtin.bitNot; omega
  rw [decide_eq_true (Int.natCast_nonneg _), n1]
  show some (Cv.int (((mskN f n : Nat) : Int) - (((((mskN f n : Nat) : Int).toNat &&& (Builtin.bitNot (Builtin.bitNot ((mskN g n : Nat) : Int))).toNat : Nat)) : Int))) = _
  rw [n2, Int.toNat_natCast, ha]
  congr 2
  omega
theorem fInv_mi {g : Nat → Bool} {n : Nat} : ∃ y, fInv (mi g n) = some y ∧ ∀ f, fBand (mi f n) y = some (mi (fun k => f k && !g k) n) := ⟨_, rfl, fun f => by
  have h := @mi_inv f g n
  rw [show fInv (mi g n) = some (.int (Builtin.bitNot ((mskN g n : Nat) : Int))) from rfl, Option.bind_some] at h
  exact h⟩
theorem mi_sum (f : Nat → Bool) : ∀ n, (((List.range' 0 n).filter f).map fun k : Nat => (1 : Int) * 2 ^ k).sum = ((mskN f n : Nat) : Int)
  | 0 => rfl
  | n + 1 => by
    rw [List.range'_concat, List.filter_append, List.map_append, List.sum_append, mi_sum f n, mskN, Nat.zero_add, Nat.one_mul]
    cases e : f n with
    | true => rw [if_pos rfl, List.filter_cons_of_pos e]; simp
    | false => rw [if_neg (by decide), List.filter_cons_of_neg (by rw [e]; decide)]; simp
theorem q_shlW {j : Nat} (h : j ≤ 100000) : fShlW (.int 1) (.int ((j : Nat) : Int)) = some (.int (1 * 2 ^ j)) := by
  have : shlCw 1 ((j : Nat) : Int) = true := by
    unfold shlCw
    rw [decide_eq_true (by omega), decide_eq_true (by decide)]; rfl
  exact if_pos this
/-! the rows that hold for a number, and the first of them -/
theorem rowI_lt {n : Int} : ∀ {l : List (Str × Cd)} {i : Nat}, rowI n l = some i → i < l.length
  | [], _, e => by cases e
  | x :: r, i, e => by
    rw [rowI] at e
    split at e
    · cases e; exact Nat.zero_lt_succ _
    · obtain ⟨j, e1, rfl⟩ := map_some' e
      have := rowI_lt e1
      rw [List.length_cons]; omega
theorem rowI_app (n : Int) (a : Str × Cd) : ∀ l : List (Str × Cd), rowI n (l ++ [a]) = match rowI n l with | some i => some i | none => if hold n a.2 = true then some l.length else none
  | [] => by rw [List.nil_append, rowI, rowI]; rfl
  | x :: r => by
    rw [List.cons_append, rowI, rowI, rowI_app n a r]
    by_cases h : hold n x.2 = true
    · rw [if_pos h, if_pos h]
    · rw [if_neg h, if_neg h]
      cases rowI n r with
      | some i => rfl
      | none =>
        by_cases h2 : hold n a.2 = true
        · simp [h2]
        · simp [h2]
/-- who takes a number first -/
def tkB (l : List (Str × Cd)) (i k : Nat) : Bool := decide (rowI ((k : Nat) : Int) l = some i)
def lfB (l : List (Str × Cd)) (k : Nat) : Bool := (rowI ((k : Nat) : Int) l).isNone
def hdB (x : Str × Cd) (k : Nat) : Bool := hold ((k : Nat) : Int) x.2
theorem tkB_old {l : List (Str × Cd)} {a : Str × Cd} {i : Nat} (h : i < l.length) (k : Nat) : tkB (l ++ [a]) i k = tkB l i k := by
  unfold tkB
  rw [rowI_app]
  cases e : rowI ((k : Nat) : Int) l with
  | some j => rfl
  | none =>
    by_cases q : hold ((k : Nat) : Int) a.2 = true
    · rw [if_pos q]
      exact decide_eq_decide.mpr ⟨fun z => by cases z; omega, fun z => by cases z⟩
    · rw [if_neg q]
theorem tkB_new {l : List (Str × Cd)} {a : Str × Cd} (k : Nat) : tkB (l ++ [a]) l.length k = (lfB l k && hdB a k) := by
  unfold tkB lfB hdB
  rw [rowI_app]
  cases e : rowI ((k : Nat) : Int) l with
  | some j => exact decide_eq_false fun z => by have := rowI_lt e; cases z; omega
  | none =>
    by_cases q : hold ((k : Nat) : Int) a.2 = true
    · rw [if_pos q, q]; exact decide_eq_true rfl
    · rw [if_neg q, Bool.eq_false_iff.mpr q]; rfl
theorem lfB_app {l : List (Str × Cd)} {a : Str × Cd} (k : Nat) : lfB (l ++ [a]) k = (lfB l k && !hdB a k) := by
  unfold lfB hdB
  rw [rowI_app]
  cases e : rowI ((k : Nat) : Int) l with
  | some j => rfl
  | none =>
    by_cases q : hold ((k : Nat) : Int) a.2 = true
    · rw [if_pos q, q]; rfl
    · rw [if_neg q, Bool.eq_false_iff.mpr q]; rfl
def takenL (l : List (Str × Cd)) (R : Nat) : List Cv := (List.range' 0 l.length).map fun i => mi (tkB l i) R
theorem takenL_app {l : List (Str × Cd)} {a : Str × Cd} {R : Nat} : takenL (l ++ [a]) R = takenL l R ++ [mi (fun k => lfB l k && hdB a k) R] := by
  unfold takenL
  rw [List.length_append, List.length_singleton, List.range'_concat, List.map_append, Nat.zero_add, Nat.one_mul]
  congr 1
  · refine List.map_congr_left fun i hi => ?_
    have := List.mem_range'_1.mp hi
    unfold mi
    rw [mskN_congr fun k _ => tkB_old (by omega) k]
  · show [mi _ R] = _
    unfold mi
    rw [mskN_congr fun k _ => tkB_new k]
def RN (r : Rl) : Nat := (bnd (insR r) + prd (insR r)).toNat
theorem RN_le {r : Rl} (h : Sn r) : RN r ≤ 6000 ∧ ((RN r : Nat) : Int) = bnd (insR r) + prd (insR r) := by
  have h1 := reach_nonneg (rs := [r]) (by simp) (by simpa using h)
  have h2 := reach_le (rs := [r]) (by simp) (by simpa using h)
  have e : reachJ [r] = bnd (insR r) + prd (insR r) := rfl
  rw [e] at h1 h2
  unfold RN
  omega
theorem m_row_masks_eq {r : Rl} (h : Sn r) : m_row_masks [eR r] = some (.lst (r.rows.map fun x => mi (hdB x) (RN r))) := by
  obtain ⟨l1, l2⟩ := RN_le h
  rw [m_row_masks, b_row_masks]
  have kb := m_bound_eq h
  have kp := m_period_eq h
  have k1 : ∀ (a d e f : Sl), mLcL (mgTup 2 (mgCons (mgName 2) (mgCons (mgName 3) mgNil))) mYes ((mCB fSum (mCons (mLc (mSeqI (mVar 1)) (mgName 4) (mB (mCB (arg 2 (m_holds 8)) (mCons (mVar 3) (mCons (mVar 4) (mNil))))) (mOp fShlW (mC (.int 1)) (mVar 4)) [4]) (mNil)))) [a, .pl (.lst ((List.range' 0 (RN r)).map fun n : Nat => Cv.int ((n : Nat) : Int))), d, e, f] (r.rows.map eRow) = some (r.rows.map fun x => mi (hdB x) (RN r)) := fun a d e f =>
    mLcL_map eRow (fun x => mi (hdB x) (RN r)) fun x hx => by
      have hd := h.dp x hx
      have hw := h.wd x hx
      have hp := fun g hg => (h.rg g (List.mem_flatMap.mpr ⟨x, hx, hg⟩)).1
      have k2 : ∀ (u1 u2 u3 : Sl), mLcL (mgName 4) ((mB (mCB (arg 2 (m_holds 8)) (mCons (mVar 3) (mCons (mVar 4) (mNil)))))) ((mOp fShlW (mC (.int 1)) (mVar 4))) [u1, .pl (.lst ((List.range' 0 (RN r)).map fun n : Nat => Cv.int ((n : Nat) : Int))), u2, .pl (enc x.2), u3] ((List.range' 0 (RN r)).map fun n : Nat => Cv.int ((n : Nat) : Int)) = some (((List.range' 0 (RN r)).filter (hdB x)).map fun k : Nat => Cv.int (1 * 2 ^ k)) := fun u1 u2 u3 =>
        mLcL_filter (fun n : Nat => Cv.int ((n : Nat) : Int)) (hdB x) (fun k : Nat => Cv.int (1 * 2 ^ k)) fun k hk => by
          have hk := List.mem_range'_1.mp hk
          refine ⟨_, rfl, ?_, fun _ => ?_⟩
          · simp! [m_holds_eq ((k : Nat) : Int) (d := 8) (c := x.2) (by omega) (by omega) hp]
            rfl
          · simp! [q_shlW (j := k) (by omega)]
      have es : (((List.range' 0 (RN r)).filter (hdB x)).map fun k : Nat => Cv.int (1 * 2 ^ k)) = (((List.range' 0 (RN r)).filter (hdB x)).map fun k : Nat => (1 : Int) * 2 ^ k).map Cv.int := by rw [List.map_map]; rfl
      have ll : (((List.range' 0 (RN r)).filter (hdB x)).map fun k : Nat => (1 : Int) * 2 ^ k).length ≤ 1000000 := by
        rw [List.length_map]
        have := List.length_filter_le (hdB x) (List.range' 0 (RN r))
        rw [List.length_range'] at this
        omega
      simp only [eRow]
      simp! [k2, es, fLst_ok (xs := ((((List.range' 0 (RN r)).filter (hdB x)).map fun k : Nat => (1 : Int) * 2 ^ k)).map Cv.int) (by rw [List.length_map]; exact ll), q_sum, mi_sum]
      rfl
  have hl := h.rows
  have e0 : fLr1 (.int ((RN r : Nat) : Int)) = some (.lst ((List.range' 0 (RN r)).map fun n : Nat => Cv.int ((n : Nat) : Int))) := by
    rw [q_lr1 (k := ((RN r : Nat) : Int)) (by omega), iota_nat, Int.toNat_natCast]
  simp only [eR] at kb kp k1 ⊢
  simp! [mst_row_masks, kb, kp, ← l2, e0, k1, fLst_ok (xs := r.rows.map fun x => mi (hdB x) (RN r)) (by rw [List.length_map]; omega)]
theorem m_all_numbers_eq {r : Rl} (h : Sn r) : m_all_numbers [eR r] = some (mi (lfB []) (RN r)) := by
  obtain ⟨l1, l2⟩ := RN_le h
  rw [m_all_numbers, b_all_numbers]
  have kb := m_bound_eq h
  have kp := m_period_eq h
  have e : mi (lfB []) (RN r) = .int ((1 : Int) * 2 ^ RN r - 1) := by
    unfold mi
    rw [show lfB [] = fun _ => true from rfl, mskN_all]
    congr 1
    have := Nat.two_pow_pos (RN r)
    rw [Int.one_mul, Int.natCast_sub this, Int.natCast_pow]
    rfl
  rw [e]
  simp! [mst_all_numbers, kb, kp, ← l2, q_shlW (j := RN r) (by omega)]
theorem m_hits_eq {rows : List (Str × Cd)} {R : Nat} (hl : rows.length ≤ 100000) : m_hits [.lst (rows.map fun x => mi (hdB x) R), mi (lfB []) R] = some (.tup [.lst (takenL rows R), mi (lfB rows) R]) := by
  rw [m_hits, b_hits]
  have loop : mForL (mgName 4) ((mSeq (mAppend 2 (mOp fBand (mVar 3) (mVar 4))) (mSeq (mAug 3 (mUn fInv (mVar 4)) fBand) (mNext)))) [4] (rows.map fun x => mi (hdB x) R) [.pl (.lst (rows.map fun x => mi (hdB x) R)), .pl (mi (lfB []) R), .ow (.lst []), .pl (mi (lfB []) R), .no] =
      some (.nx [.pl (.lst (rows.map fun x => mi (hdB x) R)), .pl (mi (lfB []) R), .ow (.lst (takenL rows R)), .pl (mi (lfB rows) R), .no]) := by
    refine m_forP (fun x : Str × Cd => mi (hdB x) R) (fun m => [.pl (.lst (rows.map fun x => mi (hdB x) R)), .pl (mi (lfB []) R), .ow (.lst (takenL m R)), .pl (mi (lfB m) R), .no]) rows ?_
    intro m1 a m2 hm
    have hlen := congrArg List.length hm
    rw [List.length_append, List.length_cons] at hlen
    obtain ⟨y, e1, e2⟩ := @fInv_mi (hdB a) R
    have k3 := q_fApp (xs := takenL m1 R) (v := mi (fun k => lfB m1 k && hdB a k) R) (by unfold takenL; rw [List.length_map, List.length_range']; omega)
    have e3 : mi (fun k => lfB m1 k && !hdB a k) R = mi (lfB (m1 ++ [a])) R := by
      unfold mi
      rw [mskN_congr fun k _ => (@lfB_app m1 a k).symm]
    refine ⟨_, by simp! [mi_and, k3, e1, e2, e3]; rfl, ?_⟩
    simp only [q_wipe, q_wipe0, List.set_cons_succ, List.set_cons_zero, takenL_app]
  simp! [mst_hits, loop]
/-- the rows that are the first ones for no number below -/
def deadL (rows : List (Str × Cd)) (R : Nat) : List Nat := (List.range' 0 rows.length).filter fun i => decide (∀ k < R, rowI ((k : Nat) : Int) rows ≠ some i)
theorem pairsFrom_map {α : Type} (f : Nat → Cv) : ∀ (n i : Nat), pairsFrom i ((List.range' i n).map f) = (List.range' i n).map fun k => .tup [.int ((k : Nat) : Int), f k]
  | 0, _ => rfl
  | n + 1, i => by rw [List.range'_succ, List.map_cons, List.map_cons, pairsFrom, pairsFrom_map (α := α) f n (i + 1)]
theorem m_dead_eq {r : Rl} (h : Sn r) : m_dead_rows [eR r] = some (.tup ((deadL r.rows (RN r)).map fun i : Nat => Cv.int ((i : Nat) : Int))) := by
  have hl := h.rows
  rw [m_dead_rows, b_dead_rows]
  have k1 := m_row_masks_eq h
  have k2 := m_all_numbers_eq h
  have k3 := m_hits_eq (rows := r.rows) (R := RN r) (by omega)
  have k4 : ∀ (a b d e f : Sl), mLcL (mgTup 2 (mgCons (mgName 3) (mgCons (mgName 4) mgNil))) ((mB (mOp fEq (mVar 4) (mC (.int 0))))) (mVar 3) [a, b, d, e, f] ((List.range' 0 r.rows.length).map fun i => Cv.tup [.int ((i : Nat) : Int), mi (tkB r.rows i) (RN r)]) = some ((deadL r.rows (RN r)).map fun i : Nat => Cv.int ((i : Nat) : Int)) := fun a b d e f =>
    mLcL_filter (fun i : Nat => Cv.tup [.int ((i : Nat) : Int), mi (tkB r.rows i) (RN r)]) (fun i => decide (∀ k < RN r, rowI ((k : Nat) : Int) r.rows ≠ some i)) (fun i : Nat => Cv.int ((i : Nat) : Int)) fun i hi => by
      refine ⟨_, rfl, ?_, fun _ => rfl⟩
      have e0 : decide (((mskN (tkB r.rows i) (RN r) : Nat) : Int) = 0) = decide (∀ k < RN r, rowI ((k : Nat) : Int) r.rows ≠ some i) := decide_eq_decide.mpr (by
        rw [show ((((mskN (tkB r.rows i) (RN r) : Nat) : Int) = 0) ↔ mskN (tkB r.rows i) (RN r) = 0) by omega, mskN_zero]
        exact forall_congr' fun k => forall_congr' fun _ => ⟨of_decide_eq_false, decide_eq_false⟩)
      unfold mi
      simp! [e0]
  have pf : pairsFrom 0 (takenL r.rows (RN r)) = (List.range' 0 r.rows.length).map fun i => Cv.tup [.int ((i : Nat) : Int), mi (tkB r.rows i) (RN r)] := pairsFrom_map (α := Nat) _ _ _
  have ll : ((deadL r.rows (RN r)).map fun i : Nat => Cv.int ((i : Nat) : Int)).length ≤ 1000000 := by
    rw [List.length_map]
    have := List.length_filter_le (fun i => decide (∀ k < RN r, rowI ((k : Nat) : Int) r.rows ≠ some i)) (List.range' 0 r.rows.length)
    rw [List.length_range'] at this
    unfold deadL
    omega
  simp only [eR] at k1 k2 ⊢
  simp! [mst_dead_rows, k1, k2, k3, pf, k4, fLst_ok ll]
end Lw
namespace Lw
open PySem PySem.Spec PyProof.Rows L2 CL
local macro_rules
  | `(tactic| simp! [$xs,*]) => `(tactic| simp -implicitDefEqProofs only [w_bor, q_notInG, w_addN, q_notInS, q_tOnly, q_tput, q_tsetd, q_asgTsetd, q_fTIx, q_fTIn, q_tget2, q_tget1, q_tOIx, q_tOIn, q_tOGet2, q_tOGet1, q_lstIt, q_tupIt, w_mth, w_tupF, q_ltS, q_argK1, q_argK2, q_argK2', q_argK3a, q_argK3b, q_argK3c, q_argK3d, q_argK3e, q_argK3f, q_mtupF, q_tupF1, q_tupF2, q_tupF3, q_ord, q_msetL, q_wkF, q_wkT, q_wkL, q_wkN, q_wkS, q_wkI, q_wkB, q_tupleF, q_dictL, q_dictF, q_mth, q_fIndexL, q_zipI, q_fZipL, q_fZipT, q_isBB, q_revT, q_fRevT, q_inS, q_oIx, q_oIn, q_oGet2, q_oGet1, q_dc, q_disp1, q_keyS, q_keyI, q_mrg0, q_mrg, q_put0, q_dkOnly, q_dput, q_setd, q_asgSetd, q_fDIx, q_fDIn, q_dget2, q_dget1, q_fget2, q_fget1, w_m, w_rzN, q_mulAI, q_mulAL, q_rng3, q_isiTT, q_isiLT, q_isiST, q_isiIT, q_isiBT, q_isiNT, q_isiTS, q_isiLS, q_isiSS, q_isiIS, q_isiBS, q_isiNS, q_isiTI, q_isiLI, q_isiSI, q_isiII, q_isiBI, q_isiNI, q_isiTB, q_isiLB, q_isiSB, q_isiIB, q_isiBB, q_isiNB, w_bx, w_bxe, w_sx, w_sxe, w_lift, w_iteT, w_iteF, w_iteN, w_p, w_pT, w_pA, w_op, w_un, w_b, w_not, w_and, w_or, w_notV, w_andV, w_orV, w_if, w_nil, w_cons, w_tup, w_lst, w_cb, w_seqI, w_rng1, w_rng2, w_lc, w_noEx, w_lcL0, w_call, w_argX1, w_argX2, w_argX3, w_argX4, w_pop, w_popAt, w_nxt, w_setc0, w_setc1, w_setc2, w_seq, w_thN, w_thR, w_thO, w_thB, w_thC, w_thE, w_asg, w_asgN, w_drop, w_ret, w_retN, w_retO, w_ifS, w_brk, w_cnt, w_for, w_forL0, w_lkN, w_lkC, w_lkB, w_lkR, w_lkO, w_lkE, w_aug, w_h2, w_h3, w_j2, w_j3, w_par, w_par3, w_parO, w_parO3, w_frz, w_append, w_extend, w_setL, w_runP, w_runV, w_runN, w_outP, w_outPN, w_outV, w_outVN, w_outO, w_rest0, w_rest, q_revL, q_fRev, ite_t, ite_f, ite_n, q_var0, q_varS, q_c, q_op, q_un, q_b, q_fB, q_and, q_or, q_not, q_andV, q_orV, q_notV, q_if, q_chain, q_nil, q_cons, q_tup, q_lst, q_cb, q_ckw, q_noPart, q_part, q_fPart, q_sl, q_gname, q_gnil, q_gcons, q_gtup2, q_gtup3, q_gtup4, q_seqI, q_fSeqT, q_fSeqL, q_fSeqS, q_rng1, q_rng2, q_enumI, q_fEnumT, q_fEnumL, q_arg0, q_arg1, q_arg2, q_arg3, q_arg4, q_arg5, q_next, q_seq, q_thenN, q_thenR, q_thenB, q_thenC, q_asg, q_drop, q_ret, q_retN, q_ifS, q_break, q_cont, q_for, q_forL0, q_forL, q_loopN, q_loopC, q_loopB, q_loopR, q_while, q_loopWN, q_loopWC, q_loopWB, q_loopWR, q_slP, q_slO, q_aug, q_f2, q_f3, q_par, q_par3, q_g2, q_g3, q_parO, q_parO3, q_oNil, q_oP, q_oN, q_asgN, q_frz, q_bor, q_borT, q_thO, q_thP, q_thN, q_ttI, q_ttB, q_ttS, q_append, q_lstOnly, q_extend, q_lc, q_lc2, q_wipe0, q_wipe, q_fI, q_addI, q_eqI, q_eqS, q_isNN, q_isNI, q_isNT, q_isNS, q_isNB, q_ixT, q_ixL, q_at0, q_at1, q_at2, q_at3, q_neg, q_cutT, q_cutL, q_lenT, q_lenL, q_abs, q_lenR, q_ixR, q_intB, q_intI, q_tupL, q_tupT, q_listL, q_listT, q_max2, q_min2, q_maxC, q_minC, q_maxD, q_minD, q_sum, q_allM, q_anyM, q_tup0, q_tup1, q_tup2, q_tup3, q_tup4, q_lst0, q_lst1, q_lst2, q_lst3, q_lst4, q_lst5, q_lst6, q_lst7, q_lst8, q_lst9, q_lst10, q_lst11, q_lst12, q_tup5, q_tup6, q_tup7, q_tup8, q_out, q_outR, q_outN, Option.bind_some, Option.map_some, Option.bind_none, Option.map_none, List.set_cons_zero, List.set_cons_succ, List.getElem?_cons_zero, List.getElem?_cons_succ, List.map_cons, List.map_nil, List.cons_append, List.nil_append, reduceCtorEq, reduceIte, decide_true, decide_false, Bool.false_eq_true, $xs,*])
/-! k62: which rows hold, once each -/
def ptR (r : Rl) (k : Nat) : List Bool := r.rows.map fun x => hdB x k
def pats (r : Rl) : List (List Bool) := ddU ((List.range' 0 (RN r)).map (ptR r))
theorem boolsL_map (bs : List Bool) : boolsL (.lst (bs.map Cv.bl)) = some bs := by
  show blsC (bs.map Cv.bl) = some bs
  induction bs with
  | nil => rfl
  | cons b bs ih => rw [List.map_cons, blsC, ih]; rfl
theorem mPatL_eq {me : ME} {i : Nat} {gs : MEnv} {pt : Nat → List Bool} : ∀ {n k : Nat} {ks : List (List Bool)}, (∀ j : Nat, me (gs.set i (.pl (.int ((j : Nat) : Int)))) = some (.lst ((pt j).map Cv.bl))) → mPatL me i gs n k ks = some (((List.range' k n).map pt).foldl addU ks)
  | 0, _, _, _ => rfl
  | n + 1, k, ks, h => by
    rw [mPatL, h k, Option.bind_some, boolsL_map, Option.bind_some, mPatL_eq h, List.range'_succ, List.map_cons, List.foldl_cons]
theorem q_pat {j i : Nat} {mu : MA} {me : ME} {gs : MEnv} {us : List Cv} {m : Nat} {ks : List (List Bool)} (hl : j < gs.length ∧ i < gs.length) (h1 : mu (gs.set j .no) = some us) (h2 : fPat us = some m) (h3 : mPatL me i (gs.set j .no) m 0 [] = some ks) : mPat j i mu me gs = some (.rt (.lst (ks.map tupB))) := by
  unfold mPat
  rw [if_pos hl, h1, Option.bind_some, h2, Option.bind_some, h3]; rfl
theorem m_pats_eq {r : Rl} (h : Sn r) : m__law_patterns [eR r] = some (.lst ((pats r).map tupB)) := by
  obtain ⟨l1, l2⟩ := RN_le h
  have hl := h.rows
  rw [m__law_patterns, b__law_patterns, mst__law_patterns]
  have kr := m_lreach_eq (w := .lst [eR r]) (rs := [r]) (.inr rfl) (by simpa using h) (by simp) (by simp)
  rw [show reachJ [r] = bnd (insR r) + prd (insR r) from rfl, ← l2] at kr
  have k1 : ∀ (j : Nat) (u1 u2 : Sl), mLcL (mgName 3) mYes ((mCB (arg 2 (m__law_is 8)) (mCons (mOp fIx (mVar 3) (mC (.int 1))) (mCons (mVar 2) (mNil))))) [.pl (eR r), u1, .pl (.int ((j : Nat) : Int)), u2] (r.rows.map eRow) = some (r.rows.map fun x => Cv.bl (hdB x j)) := fun j u1 u2 =>
    mLcL_map eRow (fun x => Cv.bl (hdB x j)) fun x hx => by
      have hd := h.dp x hx
      have hw := h.wd x hx
      have hp := fun g hg => (h.rg g (List.mem_flatMap.mpr ⟨x, hx, hg⟩)).1
      simp only [eRow]
      simp! [m_lis_eq ((j : Nat) : Int) (d := 8) (c := x.2) (by omega) (by omega) hp]
      rfl
  have k2 := mPatL_eq (me := ((mLc (mSeqI (mOp fIx (mVar 0) (mC (.int 0)))) (mgName 3) (mYes) (mCB (arg 2 (m__law_is 8)) (mCons (mOp fIx (mVar 3) (mC (.int 1))) (mCons (mVar 2) (mNil)))) [3]))) (i := 2) (gs := [.pl (eR r), .no, .no, .no]) (pt := ptR r) (n := RN r) (k := 0) (ks := []) fun j => by
    have := k1 j .no .no
    simp only [eR] at this ⊢
    simp! [this, fLst_ok (xs := r.rows.map fun x => Cv.bl (hdB x j)) (by rw [List.length_map]; omega)]
    rw [ptR, List.map_map]; rfl
  have k3 : ((mCons (mCB (arg 1 m__law_reach) (mCons (mLst (mCons (mVar 0) (mNil))) (mNil))) mNil)) [.pl (eR r), .no, .no, .no] = some [.int ((RN r : Nat) : Int)] := by
    simp! [kr]
  have k4 : fPat [.int ((RN r : Nat) : Int)] = some (RN r) := by
    show (if -(2 ^ 62) ≤ ((RN r : Nat) : Int) ∧ ((RN r : Nat) : Int) ≤ 1000000 then some ((RN r : Nat) : Int).toNat else none) = _
    rw [if_pos (by omega), Int.toNat_natCast]
  rw [q_out, q_pat (gs := [.pl (eR r), .no, .no, .no]) ⟨by simp, by simp⟩ k3 k4 k2]
  rfl
/-- the place of the first true one -/
def fiB (bs : List Bool) : Nat := (bs.findIdx? id).getD bs.length
theorem idx_fi : ∀ bs : List Bool, idxC (bs.map Cv.bl ++ [.bl true]) (.bl true) = some (fiB bs) := by
  intro bs
  unfold idxC
  have h1 : (bs.map Cv.bl ++ [Cv.bl true]).all flatC = true := by
    rw [List.all_eq_true]
    intro x hx
    rcases List.mem_append.mp hx with h | h
    · obtain ⟨b, _, rfl⟩ := List.mem_map.mp h; rfl
    · rw [List.mem_singleton.mp h]; rfl
  rw [if_pos ⟨rfl, h1⟩]
  clear h1
  unfold fiB
  induction bs with
  | nil => rfl
  | cons b bs ih =>
    rw [List.map_cons, List.cons_append, List.findIdx?_cons, List.findIdx?_cons]
    cases b with
    | true => rfl
    | false =>
      rw [show ceq (Cv.bl false) (.bl true) = false from rfl, if_neg (by decide), ih, if_neg (by decide), List.length_cons]
      cases bs.findIdx? id <;> rfl
theorem fi_pt (r : Rl) (k : Nat) : fiB (ptR r k) = (rowI ((k : Nat) : Int) r.rows).getD r.rows.length := by
  unfold fiB ptR
  rw [List.length_map]
  have key : ∀ l : List (Str × Cd), (l.map fun x => hdB x k).findIdx? id = rowI ((k : Nat) : Int) l := by
    intro l
    induction l with
    | nil => rfl
    | cons x l ih =>
      rw [List.map_cons, List.findIdx?_cons, rowI, ih]
      rfl
  rw [key]
def metD (m : List (List Bool)) : List (Key × Cv) := m.foldl (fun D bs => putC D (Sum.inl ((fiB bs : Nat) : Int)) (.bl true)) []
theorem metD_app (m : List (List Bool)) (a : List Bool) : metD (m ++ [a]) = putC (metD m) (Sum.inl ((fiB a : Nat) : Int)) (.bl true) := by
  unfold metD
  rw [List.foldl_append]; rfl
theorem metD_len (m : List (List Bool)) : (metD m).length ≤ m.length := by
  have key : ∀ (m : List (List Bool)) (D : List (Key × Cv)), (m.foldl (fun D bs => putC D (Sum.inl ((fiB bs : Nat) : Int)) (.bl true)) D).length ≤ D.length + m.length := by
    intro m
    induction m with
    | nil => intro D; exact Nat.le_refl _
    | cons a m ih =>
      intro D
      have h1 := ih (putC D (Sum.inl ((fiB a : Nat) : Int)) (.bl true))
      have h2 := putC_len D (Sum.inl ((fiB a : Nat) : Int)) (.bl true)
      rw [List.foldl_cons, List.length_cons]
      omega
  have := key m []
  rw [List.length_nil, Nat.zero_add] at this
  exact this
theorem metD_val (m : List (List Bool)) (i : Nat) : (valC (metD m) (Sum.inl ((i : Nat) : Int))).isSome = m.any fun bs => decide (fiB bs = i) := by
  have key : ∀ (m : List (List Bool)) (D : List (Key × Cv)), (valC (m.foldl (fun D bs => putC D (Sum.inl ((fiB bs : Nat) : Int)) (.bl true)) D) (Sum.inl ((i : Nat) : Int))).isSome = ((valC D (Sum.inl ((i : Nat) : Int))).isSome || m.any fun bs => decide (fiB bs = i)) := by
    intro m
    induction m with
    | nil => intro D; simp
    | cons a m ih =>
      intro D
      rw [List.foldl_cons, ih, valC_put, List.any_cons, ← Bool.or_assoc]
      congr 1
      by_cases e : fiB a = i
      · rw [decide_eq_true e, Bool.or_true, if_pos (by rw [e])]; rfl
      · rw [decide_eq_false e, Bool.or_false, if_neg (by intro z; exact e (by have := Sum.inl.inj z; omega))]
  have := key m []
  rw [show valC ([] : List (Key × Cv)) (Sum.inl ((i : Nat) : Int)) = none from rfl, Option.isSome_none, Bool.false_or] at this
  exact this
theorem mem_pats {r : Rl} {bs : List Bool} : bs ∈ pats r ↔ ∃ k < RN r, ptR r k = bs := by
  unfold pats
  rw [mem_ddU, List.mem_map]
  constructor
  · rintro ⟨k, hk, e⟩
    have := List.mem_range'_1.mp hk
    exact ⟨k, by omega, e⟩
  · rintro ⟨k, hk, e⟩
    exact ⟨k, List.mem_range'_1.mpr (by omega), e⟩
theorem pats_len {r : Rl} : (pats r).length ≤ RN r := by
  have := ddU_le ((List.range' 0 (RN r)).map (ptR r))
  rw [List.length_map, List.length_range'] at this
  exact this
theorem dead_met {r : Rl} : ((List.range' 0 r.rows.length).filter fun i : Nat => !(valC (metD (pats r)) (Sum.inl ((i : Nat) : Int))).isSome) = deadL r.rows (RN r) := by
  unfold deadL
  refine List.filter_congr fun i hi => ?_
  have hi := List.mem_range'_1.mp hi
  rw [metD_val, Bool.eq_iff_iff, Bool.not_eq_true', decide_eq_true_eq, ← Bool.not_eq_true, List.any_eq_true]
  constructor
  · intro h k hk e
    exact h ⟨ptR r k, mem_pats.mpr ⟨k, hk, rfl⟩, decide_eq_true (by rw [fi_pt, e]; rfl)⟩
  · rintro h ⟨bs, hb, e⟩
    obtain ⟨k, hk, rfl⟩ := mem_pats.mp hb
    have e := of_decide_eq_true e
    rw [fi_pt] at e
    refine h k hk ?_
    cases q : rowI ((k : Nat) : Int) r.rows with
    | some j => rw [q] at e; exact congrArg some e
    | none =>
      rw [q] at e
      have e : r.rows.length = i := e
      omega
theorem rOk_nats {l : List Nat} (h : ∀ x ∈ l, x ≤ 1000000) (hl : l.length ≤ 50000) : rOk (.tup (l.map fun i : Nat => Cv.int ((i : Nat) : Int))) = true := by
  have key : ∀ l : List Nat, (∀ x ∈ l, x ≤ 1000000) → smallVs (l.map fun i : Nat => Cv.int ((i : Nat) : Int)) = true ∧ deps (l.map fun i : Nat => Cv.int ((i : Nat) : Int)) ≤ 1 ∧ blks (l.map fun i : Nat => Cv.int ((i : Nat) : Int)) ≤ l.length := fun l h => by
    induction l with
    | nil => exact ⟨rfl, Nat.zero_le _, Nat.zero_le _⟩
    | cons x l ih =>
      obtain ⟨i1, i2, i3⟩ := ih fun y hy => h y (List.mem_cons_of_mem _ hy)
      have hx := h x List.mem_cons_self
      have f1 : smallV (.int ((x : Nat) : Int)) = true := decide_eq_true (by omega)
      refine ⟨?_, ?_, ?_⟩
      · show (smallV (.int ((x : Nat) : Int)) && smallVs (l.map fun i : Nat => Cv.int ((i : Nat) : Int))) = true
        rw [f1, i1]; rfl
      · show max (dep (.int ((x : Nat) : Int))) (deps (l.map fun i : Nat => Cv.int ((i : Nat) : Int))) ≤ 1
        have : dep (.int ((x : Nat) : Int)) = 0 := rfl
        omega
      · rw [List.map_cons, List.length_cons]
        have : blks (Cv.int ((x : Nat) : Int) :: l.map fun i : Nat => Cv.int ((i : Nat) : Int)) = 0 + 1 + blks (l.map fun i : Nat => Cv.int ((i : Nat) : Int)) := rfl
        omega
  obtain ⟨a, b, c⟩ := key l h
  unfold rOk
  rw [Bool.and_eq_true, Bool.and_eq_true]
  refine ⟨⟨a, decide_eq_true ?_⟩, decide_eq_true ?_⟩
  · show deps (l.map fun i : Nat => Cv.int ((i : Nat) : Int)) + 1 ≤ 64
    omega
  · show blks (l.map fun i : Nat => Cv.int ((i : Nat) : Int)) ≤ 500000
    omega
theorem m_right62_eq {r : Rl} (h : Sn r) (hl : r.rows.length ≤ 1000) : m__law_right [eR r] = some (.bl true) := by
  obtain ⟨l1, l2⟩ := RN_le h
  rw [m__law_right, b__law_right]
  have k1 := m_pats_eq h
  have k2 := m_dead_eq h
  have loop : mForL (mgName 2) ((mSeq (mDPut 1 (mMth fIndexL (mOp fAdd (mCB fListOf (mCons (mVar 2) (mNil))) (mLst (mCons (mC (.bl true)) (mNil)))) (mCons (mC (.bl true)) (mNil))) (mC (.bl true))) (mNext))) [2] ((pats r).map tupB) [.pl (eR r), .ow (.dK []), .no, .no, .no] = some (.nx [.pl (eR r), .ow (.dK (metD (pats r))), .no, .no, .no]) := by
    refine m_forP tupB (fun m => [.pl (eR r), .ow (.dK (metD m)), .no, .no, .no]) (pats r) ?_
    intro m1 a m2 hm
    have ha : a ∈ pats r := by rw [hm]; simp
    have hlen := congrArg List.length hm
    rw [List.length_append, List.length_cons] at hlen
    have pl := @pats_len r
    have ml := metD_len m1
    obtain ⟨k, hk, e⟩ := mem_pats.mp ha
    have al : a.length = r.rows.length := by rw [← e, ptR, List.length_map]
    have ad : fAdd (.lst (a.map Cv.bl)) (.lst [.bl true]) = some (.lst (a.map Cv.bl ++ [.bl true])) := q_addL (by rw [List.length_map, List.length_singleton]; omega)
    have pu : mDPut.fDPut (.dK (metD m1)) (.int ((fiB a : Nat) : Int)) (.bl true) = some (.dK (metD (m1 ++ [a]))) := by
      rw [metD_app]
      show (if decide ((metD m1).length < 1000000) = true then _ else _) = _
      rw [if_pos (decide_eq_true (by omega))]; rfl
    refine ⟨_, by simp only [tupB]; simp! [ad, idx_fi, pu]; rfl, ?_⟩
    simp only [q_wipe, q_wipe0, List.set_cons_succ, List.set_cons_zero]
  have q0 := q_rngN (n := r.rows.length) (by omega)
  have k3 : ∀ (b d e : Sl), mLcL (mgName 4) ((mB (mOp (fDIn true) (mVar 4) (mVar 1)))) (mVar 4) [b, .pl (.dK (metD (pats r))), d, e, .no] ((List.range' 0 r.rows.length).map fun (k : Nat) => Cv.int (k : Nat)) = some ((deadL r.rows (RN r)).map fun i : Nat => Cv.int ((i : Nat) : Int)) := fun b d e => by
    rw [← dead_met]
    exact mLcL_filter (fun k : Nat => Cv.int (k : Nat)) (fun i : Nat => !(valC (metD (pats r)) (Sum.inl ((i : Nat) : Int))).isSome) (fun i : Nat => Cv.int ((i : Nat) : Int)) fun i hi => ⟨_, rfl, by simp! [q_ev0], fun _ => rfl⟩
  have dl : (deadL r.rows (RN r)).length ≤ r.rows.length := by
    have := List.length_filter_le (fun i => decide (∀ k < RN r, rowI ((k : Nat) : Int) r.rows ≠ some i)) (List.range' 0 r.rows.length)
    rw [List.length_range'] at this
    exact this
  have ll : ((deadL r.rows (RN r)).map fun i : Nat => Cv.int ((i : Nat) : Int)).length ≤ 1000000 := by
    rw [List.length_map]; omega
  have rr := q_repr (rOk_nats (l := deadL r.rows (RN r)) (fun x hx => by
    have := List.mem_range'_1.mp (List.mem_filter.mp hx).1
    omega) (by omega))
  simp only [eR] at k1 k2 loop ⊢
  simp! [mst__law_right, k1, loop, List.length_map, q0, k3, fLst_ok ll, k2, rr, q_eqS]
end Lw
namespace Lw
open PySem PySem.Spec PyProof.Rows L2 CL
local macro_rules
  | `(tactic| simp! [$xs,*]) => `(tactic| simp -implicitDefEqProofs only [w_bor, q_notInG, w_addN, q_notInS, q_tOnly, q_tput, q_tsetd, q_asgTsetd, q_fTIx, q_fTIn, q_tget2, q_tget1, q_tOIx, q_tOIn, q_tOGet2, q_tOGet1, q_lstIt, q_tupIt, w_mth, w_tupF, q_ltS, q_argK1, q_argK2, q_argK2', q_argK3a, q_argK3b, q_argK3c, q_argK3d, q_argK3e, q_argK3f, q_mtupF, q_tupF1, q_tupF2, q_tupF3, q_ord, q_msetL, q_wkF, q_wkT, q_wkL, q_wkN, q_wkS, q_wkI, q_wkB, q_tupleF, q_dictL, q_dictF, q_mth, q_fIndexL, q_zipI, q_fZipL, q_fZipT, q_isBB, q_revT, q_fRevT, q_inS, q_oIx, q_oIn, q_oGet2, q_oGet1, q_dc, q_disp1, q_keyS, q_keyI, q_mrg0, q_mrg, q_put0, q_dkOnly, q_dput, q_setd, q_asgSetd, q_fDIx, q_fDIn, q_dget2, q_dget1, q_fget2, q_fget1, w_m, w_rzN, q_mulAI, q_mulAL, q_rng3, q_isiTT, q_isiLT, q_isiST, q_isiIT, q_isiBT, q_isiNT, q_isiTS, q_isiLS, q_isiSS, q_isiIS, q_isiBS, q_isiNS, q_isiTI, q_isiLI, q_isiSI, q_isiII, q_isiBI, q_isiNI, q_isiTB, q_isiLB, q_isiSB, q_isiIB, q_isiBB, q_isiNB, w_bx, w_bxe, w_sx, w_sxe, w_lift, w_iteT, w_iteF, w_iteN, w_p, w_pT, w_pA, w_op, w_un, w_b, w_not, w_and, w_or, w_notV, w_andV, w_orV, w_if, w_nil, w_cons, w_tup, w_lst, w_cb, w_seqI, w_rng1, w_rng2, w_lc, w_noEx, w_lcL0, w_call, w_argX1, w_argX2, w_argX3, w_argX4, w_pop, w_popAt, w_nxt, w_setc0, w_setc1, w_setc2, w_seq, w_thN, w_thR, w_thO, w_thB, w_thC, w_thE, w_asg, w_asgN, w_drop, w_ret, w_retN, w_retO, w_ifS, w_brk, w_cnt, w_for, w_forL0, w_lkN, w_lkC, w_lkB, w_lkR, w_lkO, w_lkE, w_aug, w_h2, w_h3, w_j2, w_j3, w_par, w_par3, w_parO, w_parO3, w_frz, w_append, w_extend, w_setL, w_runP, w_runV, w_runN, w_outP, w_outPN, w_outV, w_outVN, w_outO, w_rest0, w_rest, q_revL, q_fRev, ite_t, ite_f, ite_n, q_var0, q_varS, q_c, q_op, q_un, q_b, q_fB, q_and, q_or, q_not, q_andV, q_orV, q_notV, q_if, q_chain, q_nil, q_cons, q_tup, q_lst, q_cb, q_ckw, q_noPart, q_part, q_fPart, q_sl, q_gname, q_gnil, q_gcons, q_gtup2, q_gtup3, q_gtup4, q_seqI, q_fSeqT, q_fSeqL, q_fSeqS, q_rng1, q_rng2, q_enumI, q_fEnumT, q_fEnumL, q_arg0, q_arg1, q_arg2, q_arg3, q_arg4, q_arg5, q_next, q_seq, q_thenN, q_thenR, q_thenB, q_thenC, q_asg, q_drop, q_ret, q_retN, q_ifS, q_break, q_cont, q_for, q_forL0, q_forL, q_loopN, q_loopC, q_loopB, q_loopR, q_while, q_loopWN, q_loopWC, q_loopWB, q_loopWR, q_slP, q_slO, q_aug, q_f2, q_f3, q_par, q_par3, q_g2, q_g3, q_parO, q_parO3, q_oNil, q_oP, q_oN, q_asgN, q_frz, q_bor, q_borT, q_thO, q_thP, q_thN, q_ttI, q_ttB, q_ttS, q_append, q_lstOnly, q_extend, q_lc, q_lc2, q_wipe0, q_wipe, q_fI, q_addI, q_eqI, q_eqS, q_isNN, q_isNI, q_isNT, q_isNS, q_isNB, q_ixT, q_ixL, q_at0, q_at1, q_at2, q_at3, q_neg, q_cutT, q_cutL, q_lenT, q_lenL, q_abs, q_lenR, q_ixR, q_intB, q_intI, q_tupL, q_tupT, q_listL, q_listT, q_max2, q_min2, q_maxC, q_minC, q_maxD, q_minD, q_sum, q_allM, q_anyM, q_tup0, q_tup1, q_tup2, q_tup3, q_tup4, q_lst0, q_lst1, q_lst2, q_lst3, q_lst4, q_lst5, q_lst6, q_lst7, q_lst8, q_lst9, q_lst10, q_lst11, q_lst12, q_tup5, q_tup6, q_tup7, q_tup8, q_out, q_outR, q_outN, Option.bind_some, Option.map_some, Option.bind_none, Option.map_none, List.set_cons_zero, List.set_cons_succ, List.getElem?_cons_zero, List.getElem?_cons_succ, List.map_cons, List.map_nil, List.cons_append, List.nil_append, reduceCtorEq, reduceIte, decide_true, decide_false, Bool.false_eq_true, $xs,*])
/-! k62: the law -/
def ok62 (r : Rl) : Prop := goodB r ∧ ∀ x ∈ r.rows, wsh x.2 = true
def evC : Str × Cd := ("a", .al false [.rg 10 0 4, .rg 10 5 9])
theorem evC_ok : isWord evC.1 = true ∧ goodD evC.2 ∧ wsh evC.2 = true := ⟨by decide +kernel, ⟨by decide, by decide, fun g hg => by
  have : g = (10, 0, 4) ∨ g = (10, 5, 9) := by simpa [evC, CL.ins, inss] using hg
  rcases this with rfl | rfl <;> (unfold okRg; decide), by decide, by decide +kernel⟩, rfl⟩
theorem ok62.sub {r s : Rl} (h : ok62 r) (hl : s.rows.length ≤ 20) (el : s.last = r.last) (hm : ∀ x ∈ s.rows, x ∈ r.rows ∨ x = evC) : ok62 s :=
  ⟨⟨hl, by rw [el]; exact h.1.2.1, fun x hx => (hm x hx).elim (fun m => h.1.2.2 x m) fun e => by rw [e]; exact ⟨evC_ok.1, evC_ok.2.1⟩⟩, fun x hx => (hm x hx).elim (fun m => h.2 x m) fun e => by rw [e]; exact evC_ok.2.2⟩
theorem all62 {l : List Rl} (h : ∀ r ∈ l, ok62 r) {a0 a1 a2 a3 a4 a5 a6 a7 a8 a9 a10 : Sl} : mLcL (mgName 10) ((mB (mCB (arg 1 m__law_within) (mCons (mVar 10) (mNil))))) ((mCB (arg 1 m__law_right) (mCons (mVar 10) (mNil)))) [a0, a1, a2, a3, a4, a5, a6, a7, a8, a9, a10] (l.map eR) = some ((l.filter withinB).map fun _ => Cv.bl true) :=
  mLcL_filter eR withinB (fun _ => Cv.bl true) fun r hr => by
    obtain ⟨h1, h2⟩ := h r hr
    have w := m_within_eq h1 h2
    have q := m_right62_eq h1.sn (by have := h1.1; omega)
    exact ⟨_, rfl, by simp! [w], fun _ => by simp! [q]⟩
theorem law_ok : ∀ ns : List Int, m_law [.scr (ns.map Cv.int)] = some (.bl true) := by
  intro ns
  rw [m_law, b_law]
  obtain ⟨gs', e0, _, rfl⟩ := w_forNx (G := mgName 1) (p := ((xSeq (xAsgN (xCB (arg 2 m__law_pot) (xCons (xp (mVar 0)) (xCons (xp (mVar 1)) (xNil)))) 2) (xSeq (xFor (xpA (mRng1 (mCons (mC (.int 4)) (mNil)))) (mgName 3) (xSeq (xAsg (xCall 1 2 m__law_rules (xNil)) (mgName 4)) (xSeq (xAsg (xp (mVar 4)) (mgTup 2 (mgCons (mgName 5) (mgCons (mgName 6) (mgNil))))) (xSeq (xAsg (xp (mTup (mCons (mC (.str "a")) (mCons (mTup (mCons (mC (.str "any")) (mCons (mTup (mCons (mTup (mCons (mC (.str "in")) (mCons (mC (.int 10)) (mCons (mC (.int 0)) (mCons (mC (.int 4)) (mNil)))))) (mCons (mTup (mCons (mC (.str "in")) (mCons (mC (.int 10)) (mCons (mC (.int 5)) (mCons (mC (.int 9)) (mNil)))))) (mNil)))) (mNil)))) (mNil))))) (mgName 7)) (xSeq (xAsg (xCall 2 2 m__law_take (xCons (xp (mOp fAdd (mCB fLen (mCons (mVar 5) (mNil))) (mC (.int 1)))) (xNil))) (mgName 8)) (xSeq (xAsgN (xLst (xCons (xp (mVar 4)) (xCons (xCall 2 2 m__law_bent_rules (xCons (xp (mVar 4)) (xNil))) (xCons (xp (mTup (mCons (mOp fAdd (mVar 5) (mSl fCut (mVar 5) (mNoPart) (mPart (mC (.int 1))))) (mCons (mVar 6) (mNil))))) (xNil))))) 9) (xSeq (xAppend 9 (xp (mTup (mCons (mOp fAdd (mOp fAdd (mSl fCut (mVar 5) (mNoPart) (mPart (mVar 8))) (mTup (mCons (mVar 7) (mNil)))) (mSl fCut (mVar 5) (mPart (mVar 8)) (mNoPart))) (mCons (mVar 6) (mNil)))))) (xFrz 9 (xSeq (xIfS (xpT (mNot (mB (mCB fAll (mCons (mLc (mSeqI (mVar 9)) (mgName 10) (mB (mCB (arg 1 m__law_within) (mCons (mVar 10) (mNil)))) (mCB (arg 1 m__law_right) (mCons (mVar 10) (mNil))) [10]) (mNil)))))) (xSeq (xRet (xp (mC (.bl false)))) (xNext)) (xNext)) (xNext))))))))) [3, 4, 5, 6, 7, 8, 9, 10]) (xNext))))) (vs := [1, 2, 3, 4, 5, 6, 7, 8, 9, 10])
    (I := fun xs gs => (∀ x ∈ xs, ∃ k : Int, x = .int k ∧ 0 ≤ k ∧ k < 1000) ∧ gs = [.pl (.scr (ns.map Cv.int)), .no, .no, .no, .no, .no, .no, .no, .no, .no, .no])
    (by
      rintro x xr gs ⟨hx, rfl⟩
      obtain ⟨k, rfl, k0, k1⟩ := hx x List.mem_cons_self
      obtain ⟨st, e1, hp⟩ := m_pot_eq (ns := ns) k0 (by omega)
      obtain ⟨gs2, e2, st2, rfl, _, _, hp2⟩ := w_forNx (G := mgName 3) (p := ((xSeq (xAsg (xCall 1 2 m__law_rules (xNil)) (mgName 4)) (xSeq (xAsg (xp (mVar 4)) (mgTup 2 (mgCons (mgName 5) (mgCons (mgName 6) (mgNil))))) (xSeq (xAsg (xp (mTup (mCons (mC (.str "a")) (mCons (mTup (mCons (mC (.str "any")) (mCons (mTup (mCons (mTup (mCons (mC (.str "in")) (mCons (mC (.int 10)) (mCons (mC (.int 0)) (mCons (mC (.int 4)) (mNil)))))) (mCons (mTup (mCons (mC (.str "in")) (mCons (mC (.int 10)) (mCons (mC (.int 5)) (mCons (mC (.int 9)) (mNil)))))) (mNil)))) (mNil)))) (mNil))))) (mgName 7)) (xSeq (xAsg (xCall 2 2 m__law_take (xCons (xp (mOp fAdd (mCB fLen (mCons (mVar 5) (mNil))) (mC (.int 1)))) (xNil))) (mgName 8)) (xSeq (xAsgN (xLst (xCons (xp (mVar 4)) (xCons (xCall 2 2 m__law_bent_rules (xCons (xp (mVar 4)) (xNil))) (xCons (xp (mTup (mCons (mOp fAdd (mVar 5) (mSl fCut (mVar 5) (mNoPart) (mPart (mC (.int 1))))) (mCons (mVar 6) (mNil))))) (xNil))))) 9) (xSeq (xAppend 9 (xp (mTup (mCons (mOp fAdd (mOp fAdd (mSl fCut (mVar 5) (mNoPart) (mPart (mVar 8))) (mTup (mCons (mVar 7) (mNil)))) (mSl fCut (mVar 5) (mPart (mVar 8)) (mNoPart))) (mCons (mVar 6) (mNil)))))) (xFrz 9 (xSeq (xIfS (xpT (mNot (mB (mCB fAll (mCons (mLc (mSeqI (mVar 9)) (mgName 10) (mB (mCB (arg 1 m__law_within) (mCons (mVar 10) (mNil)))) (mCB (arg 1 m__law_right) (mCons (mVar 10) (mNil))) [10]) (mNil)))))) (xSeq (xRet (xp (mC (.bl false)))) (xNext)) (xNext)) (xNext))))))))))) (vs := [3, 4, 5, 6, 7, 8, 9, 10])
        (I := fun xs gs => ∃ st, gs = [.pl (.scr (ns.map Cv.int)), .pl (.int k), .ow st, .no, .no, .no, .no, .no, .no, .no, .no] ∧ (∀ x ∈ xs, ∃ t : Int, x = .int t) ∧ xs.length ≤ 4 ∧ PotV st (300000 * (4 - xs.length)))
        (by
          rintro x xr gs ⟨st, rfl, hx, hl, hp⟩
          rw [List.length_cons] at hl hp
          obtain ⟨t, rfl⟩ := hx x List.mem_cons_self
          obtain ⟨r, st1, e3, ⟨hr, hr2⟩, hp1⟩ := m_rules_eq' hp (by omega)
          have hR : ok62 r := ⟨hr.B, fun x hx => (hr2.B.cd x hx).1⟩
          have r7 := hr2.B.rows
          obtain ⟨at', st2, e4, a0, a1, hp2⟩ := m_take_eq (u := ((r.rows.length + 1 : Nat) : Int)) hp1 (by omega) (by omega) (by omega)
          obtain ⟨a, rfl⟩ : ∃ a : Nat, at' = (a : Nat) := ⟨at'.toNat, by omega⟩
          obtain ⟨s, st3, e5, ⟨hs, hs2⟩, hp3⟩ := m_bent_eq' hp2 (by omega) hr.B
          have hS : ok62 s := ⟨hs, fun x hx => ((hs2 hr2.B).cd x hx).1⟩
          have hT : ok62 ⟨r.rows ++ r.rows.take 1, r.last⟩ := hR.sub (by simp; omega) rfl fun x hx => .inl ((List.mem_append.mp hx).elim id List.mem_of_mem_take)
          have hU : ok62 ⟨r.rows.take a ++ [evC] ++ r.rows.drop a, r.last⟩ := hR.sub (by simp; omega) rfl fun x hx => by
            rcases List.mem_append.mp hx with h | h
            · rcases List.mem_append.mp h with h | h
              · exact .inl (List.mem_of_mem_take h)
              · exact .inr (List.mem_singleton.mp h)
            · exact .inl (List.mem_of_mem_drop h)
          have ka := @all62 [r, s, ⟨r.rows ++ r.rows.take 1, r.last⟩, ⟨r.rows.take a ++ [evC] ++ r.rows.drop a, r.last⟩] (by
            intro x hx
            simp only [List.mem_cons, List.not_mem_nil, or_false] at hx
            rcases hx with rfl | rfl | rfl | rfl <;> assumption)
          have c1 : fCut (.tup (r.rows.map eRow)) none (some 1) = some (.tup ((r.rows.take 1).map eRow)) := by
            rw [show (1 : Int) = ((1 : Nat) : Int) from rfl]
            simp! [cut_take, List.map_take]
          have c2 : fCut (.tup (r.rows.map eRow)) none (some ((a : Nat) : Int)) = some (.tup ((r.rows.take a).map eRow)) := by
            simp! [cut_take, List.map_take]
          have c3 : fCut (.tup (r.rows.map eRow)) (some ((a : Nat) : Int)) none = some (.tup ((r.rows.drop a).map eRow)) := by
            simp! [cut_drop, List.map_drop]
          have d1 : fAdd (.tup (r.rows.map eRow)) (.tup ((r.rows.take 1).map eRow)) = some (.tup ((r.rows ++ r.rows.take 1).map eRow)) := by
            rw [List.map_append]
            exact q_addT (by simp; omega)
          have d2 : fAdd (.tup ((r.rows.take a).map eRow)) (.tup [eRow evC]) = some (.tup ((r.rows.take a ++ [evC]).map eRow)) := by
            rw [List.map_append]
            exact q_addT (by simp; omega)
          have d3 : fAdd (.tup ((r.rows.take a ++ [evC]).map eRow)) (.tup ((r.rows.drop a).map eRow)) = some (.tup ((r.rows.take a ++ [evC] ++ r.rows.drop a).map eRow)) := by
            rw [List.map_append (l₂ := r.rows.drop a)]
            exact q_addT (by simp; omega)
          have ev : eRow evC = .tup [.str "a", .tup [.str "any", .tup [.tup [.str "in", .int 10, .int 0, .int 4], .tup [.str "in", .int 10, .int 5, .int 9]]]] := rfl
          rw [ev] at d2
          rw [show (((r.rows.length + 1 : Nat) : Int)) = ((r.rows.length : Nat) : Int) + 1 by omega] at e4
          have ap := q_fApp (xs := [eR r, eR s, eR ⟨r.rows ++ r.rows.take 1, r.last⟩]) (v := eR ⟨r.rows.take a ++ [evC] ++ r.rows.drop a, r.last⟩) (by simp)
          have fa : ∀ l : List Rl, fAll [.lst (l.map fun _ => Cv.bl true)] = some (.bl true) := fun l => by
            rw [q_allM (h := fun _ => true)]; simp
          simp only [List.map_cons, List.map_nil] at ka
          simp only [eR] at e3 e5 ka ap
          have hlen : ((([r, s, ⟨r.rows ++ r.rows.take 1, r.last⟩, ⟨r.rows.take a ++ [evC] ++ r.rows.drop a, r.last⟩] : List Rl).filter withinB).map fun _ => Cv.bl true).length ≤ 1000000 := by
            rw [List.length_map]
            have := List.length_filter_le withinB [r, s, ⟨r.rows ++ r.rows.take 1, r.last⟩, ⟨r.rows.take a ++ [evC] ++ r.rows.drop a, r.last⟩]
            simp only [List.length_cons, List.length_nil] at this
            omega
          refine ⟨_, by simp! [e3, List.length_map, e4, e5, c1, c2, c3, d1, d2, d3, ap, ka, fLst_ok hlen, fa, Bool.not_true]; rfl, _, rfl, fun z hz => hx z (List.mem_cons_of_mem _ hz), by omega, hp3.mono (by push_cast; omega)⟩)
        (iota 0 (4 : Int).toNat) [.pl (.scr (ns.map Cv.int)), .pl (.int k), .ow st, .no, .no, .no, .no, .no, .no, .no, .no] ⟨st, rfl, fun x hx => by obtain ⟨i, _, rfl⟩ := List.mem_map.mp hx; exact ⟨_, rfl⟩, by decide, hp.mono (by decide)⟩
      simp! [e1, q_rngI (k := 4) (by decide), e2]
      exact ⟨_, rfl, fun z hz => hx z (List.mem_cons_of_mem _ hz), rfl⟩)
    (iota 0 (max 1 (min 3 (ns.length : Int))).toNat) [.pl (.scr (ns.map Cv.int)), .no, .no, .no, .no, .no, .no, .no, .no, .no, .no] ⟨fun x hx => by
      obtain ⟨i, hi, rfl⟩ := List.mem_map.mp hx
      have hi := List.mem_range.mp hi
      exact ⟨_, rfl, by omega, by omega⟩, rfl⟩
  have hz : Sn ⟨[], "other"⟩ := ⟨fun _ h => (by cases h), fun _ h => (by cases h), fun _ h => (by cases h), by simp [insR], by simp⟩
  have cz := m_dead_eq hz
  rw [show deadL ([] : List (Str × Cd)) (RN ⟨[], "other"⟩) = [] from rfl] at cz
  simp only [eR, List.map_nil] at cz
  simp! [mst_law, List.length_map, q_rngI (k := max 1 (min 3 (ns.length : Int))) (by omega), e0, cz]
  rfl
end Lw
set_option maxHeartbeats 1000000
namespace Lw
open PySem PySem.Spec PyProof.Rows L2 CL
theorem law_sp : ∀ _ : World, LawSp 63 (spM 1 m_law) := fun _ ns _ _ => x_m (law_ok ns) rfl
theorem fnf {K : Fg} {h : Heap} {mg : Str → Option Value} {x : Str} {st : Stmt} {f : Addr} {fd : FuncData} {ps : List Str} (X : K.In h) (G : h.Ns mainGlobals mg) (a : PySem.W.nsIn K mainGlobals x = some (some (.ref f))) (F : Fun K x x st f fd) (b : Binds K fd ps []) (k : PySem.W.keepIn K (.ref f) = true) : FnF K mg x st f fd ps := ⟨F, b, PySem.W.mg_of X G a, k⟩
theorem spM_zero {P : Program} {w : World} {K : Fg} {mg : Str → Option Value} {base : Heap} {k : Nat} {f : Addr} {fd : FuncData} {ps : List Str} {n : Nat} {m : List Cv → Option Cv} (h : ∀ us, m us = none) : FnG P w K mg base L2.CX0 k f fd ps (spM n m) := fn_no.imp spM_mono fun us S Q E ⟨_, v, e, _⟩ => by rw [h] at e; cases e
theorem spX_zero {P : Program} {w : World} {K : Fg} {mg : Str → Option Value} {base : Heap} {k : Nat} {f : Addr} {fd : FuncData} {ps : List Str} {n : Nat} {m : List Cv → Option (Cv × Cv)} (h : ∀ us, m us = none) : FnG P w K mg base L2.CX0 k f fd ps (spX n m) := fn_no.imp spX_mono fun us S Q E ⟨_, _, _, _, _, _, _, _, _, _, e, _⟩ => by rw [h] at e; cases e
theorem all_mk {l : PySem.W.OpenLaw} {w : World} {K : Fg} {h : Heap} {mg : Str → Option Value} {fa : Addr} (X : K.In h) (G : h.Ns mainGlobals mg) (hfa : mg "law" = some (.ref fa))
    {f_hits : Addr} {od_hits an_hits : Option Addr} {sl_hits : Array (Option Value)} {oc_hits kV_hits dc_hits pm_hits cd_hits ct_hits : Value} (a_hits : PySem.W.nsIn K mainGlobals "hits" = some (some (.ref f_hits)))
    (l_hits : K.lookup f_hits = some ⟨oc_hits, od_hits, .func (PySem.W.fnOf "hits" "hits" (defArgs s_hits) (defBody s_hits) (defScope s_hits) .none kV_hits dc_hits pm_hits an_hits cd_hits ct_hits), sl_hits⟩) (c_hits : PySem.W.codeIn K cd_hits "hits" = true) (k_hits : PySem.W.keepIn K (.ref f_hits) = true)
    {f_ins_of : Addr} {od_ins_of an_ins_of : Option Addr} {sl_ins_of : Array (Option Value)} {oc_ins_of kV_ins_of dc_ins_of pm_ins_of cd_ins_of ct_ins_of : Value} (a_ins_of : PySem.W.nsIn K mainGlobals "ins_of" = some (some (.ref f_ins_of)))
    (l_ins_of : K.lookup f_ins_of = some ⟨oc_ins_of, od_ins_of, .func (PySem.W.fnOf "ins_of" "ins_of" (defArgs s_ins_of) (defBody s_ins_of) (defScope s_ins_of) .none kV_ins_of dc_ins_of pm_ins_of an_ins_of cd_ins_of ct_ins_of), sl_ins_of⟩) (c_ins_of : PySem.W.codeIn K cd_ins_of "ins_of" = true) (k_ins_of : PySem.W.keepIn K (.ref f_ins_of) = true)
    {f_all_ins : Addr} {od_all_ins an_all_ins : Option Addr} {sl_all_ins : Array (Option Value)} {oc_all_ins kV_all_ins dc_all_ins pm_all_ins cd_all_ins ct_all_ins : Value} (a_all_ins : PySem.W.nsIn K mainGlobals "all_ins" = some (some (.ref f_all_ins)))
    (l_all_ins : K.lookup f_all_ins = some ⟨oc_all_ins, od_all_ins, .func (PySem.W.fnOf "all_ins" "all_ins" (defArgs s_all_ins) (defBody s_all_ins) (defScope s_all_ins) .none kV_all_ins dc_all_ins pm_all_ins an_all_ins cd_all_ins ct_all_ins), sl_all_ins⟩) (c_all_ins : PySem.W.codeIn K cd_all_ins "all_ins" = true) (k_all_ins : PySem.W.keepIn K (.ref f_all_ins) = true)
    {f_bound : Addr} {od_bound an_bound : Option Addr} {sl_bound : Array (Option Value)} {oc_bound kV_bound dc_bound pm_bound cd_bound ct_bound : Value} (a_bound : PySem.W.nsIn K mainGlobals "bound" = some (some (.ref f_bound)))
    (l_bound : K.lookup f_bound = some ⟨oc_bound, od_bound, .func (PySem.W.fnOf "bound" "bound" (defArgs s_bound) (defBody s_bound) (defScope s_bound) .none kV_bound dc_bound pm_bound an_bound cd_bound ct_bound), sl_bound⟩) (c_bound : PySem.W.codeIn K cd_bound "bound" = true) (k_bound : PySem.W.keepIn K (.ref f_bound) = true)
    {f_period : Addr} {od_period an_period : Option Addr} {sl_period : Array (Option Value)} {oc_period kV_period dc_period pm_period cd_period ct_period : Value} (a_period : PySem.W.nsIn K mainGlobals "period" = some (some (.ref f_period)))
    (l_period : K.lookup f_period = some ⟨oc_period, od_period, .func (PySem.W.fnOf "period" "period" (defArgs s_period) (defBody s_period) (defScope s_period) .none kV_period dc_period pm_period an_period cd_period ct_period), sl_period⟩) (c_period : PySem.W.codeIn K cd_period "period" = true) (k_period : PySem.W.keepIn K (.ref f_period) = true)
    {f_all_numbers : Addr} {od_all_numbers an_all_numbers : Option Addr} {sl_all_numbers : Array (Option Value)} {oc_all_numbers kV_all_numbers dc_all_numbers pm_all_numbers cd_all_numbers ct_all_numbers : Value} (a_all_numbers : PySem.W.nsIn K mainGlobals "all_numbers" = some (some (.ref f_all_numbers)))
    (l_all_numbers : K.lookup f_all_numbers = some ⟨oc_all_numbers, od_all_numbers, .func (PySem.W.fnOf "all_numbers" "all_numbers" (defArgs s_all_numbers) (defBody s_all_numbers) (defScope s_all_numbers) .none kV_all_numbers dc_all_numbers pm_all_numbers an_all_numbers cd_all_numbers ct_all_numbers), sl_all_numbers⟩) (c_all_numbers : PySem.W.codeIn K cd_all_numbers "all_numbers" = true) (k_all_numbers : PySem.W.keepIn K (.ref f_all_numbers) = true)
    {f_holds : Addr} {od_holds an_holds : Option Addr} {sl_holds : Array (Option Value)} {oc_holds kV_holds dc_holds pm_holds cd_holds ct_holds : Value} (a_holds : PySem.W.nsIn K mainGlobals "holds" = some (some (.ref f_holds)))
    (l_holds : K.lookup f_holds = some ⟨oc_holds, od_holds, .func (PySem.W.fnOf "holds" "holds" (defArgs s_holds) (defBody s_holds) (defScope s_holds) .none kV_holds dc_holds pm_holds an_holds cd_holds ct_holds), sl_holds⟩) (c_holds : PySem.W.codeIn K cd_holds "holds" = true) (k_holds : PySem.W.keepIn K (.ref f_holds) = true)
    {f_row_masks : Addr} {od_row_masks an_row_masks : Option Addr} {sl_row_masks : Array (Option Value)} {oc_row_masks kV_row_masks dc_row_masks pm_row_masks cd_row_masks ct_row_masks : Value} (a_row_masks : PySem.W.nsIn K mainGlobals "row_masks" = some (some (.ref f_row_masks)))
    (l_row_masks : K.lookup f_row_masks = some ⟨oc_row_masks, od_row_masks, .func (PySem.W.fnOf "row_masks" "row_masks" (defArgs s_row_masks) (defBody s_row_masks) (defScope s_row_masks) .none kV_row_masks dc_row_masks pm_row_masks an_row_masks cd_row_masks ct_row_masks), sl_row_masks⟩) (c_row_masks : PySem.W.codeIn K cd_row_masks "row_masks" = true) (k_row_masks : PySem.W.keepIn K (.ref f_row_masks) = true)
    {f_dead_rows : Addr} {od_dead_rows an_dead_rows : Option Addr} {sl_dead_rows : Array (Option Value)} {oc_dead_rows kV_dead_rows dc_dead_rows pm_dead_rows cd_dead_rows ct_dead_rows : Value} (a_dead_rows : PySem.W.nsIn K mainGlobals "dead_rows" = some (some (.ref f_dead_rows)))
    (l_dead_rows : K.lookup f_dead_rows = some ⟨oc_dead_rows, od_dead_rows, .func (PySem.W.fnOf "dead_rows" "dead_rows" (defArgs s_dead_rows) (defBody s_dead_rows) (defScope s_dead_rows) .none kV_dead_rows dc_dead_rows pm_dead_rows an_dead_rows cd_dead_rows ct_dead_rows), sl_dead_rows⟩) (c_dead_rows : PySem.W.codeIn K cd_dead_rows "dead_rows" = true) (k_dead_rows : PySem.W.keepIn K (.ref f_dead_rows) = true)
    {f__law_levels : Addr} {od__law_levels an__law_levels : Option Addr} {sl__law_levels : Array (Option Value)} {oc__law_levels kV__law_levels dc__law_levels pm__law_levels cd__law_levels ct__law_levels : Value} (a__law_levels : PySem.W.nsIn K mainGlobals "_law_levels" = some (some (.ref f__law_levels)))
    (l__law_levels : K.lookup f__law_levels = some ⟨oc__law_levels, od__law_levels, .func (PySem.W.fnOf "_law_levels" "_law_levels" (defArgs s__law_levels) (defBody s__law_levels) (defScope s__law_levels) .none kV__law_levels dc__law_levels pm__law_levels an__law_levels cd__law_levels ct__law_levels), sl__law_levels⟩) (c__law_levels : PySem.W.codeIn K cd__law_levels "_law_levels" = true) (k__law_levels : PySem.W.keepIn K (.ref f__law_levels) = true)
    {f__law_ranges : Addr} {od__law_ranges an__law_ranges : Option Addr} {sl__law_ranges : Array (Option Value)} {oc__law_ranges kV__law_ranges dc__law_ranges pm__law_ranges cd__law_ranges ct__law_ranges : Value} (a__law_ranges : PySem.W.nsIn K mainGlobals "_law_ranges" = some (some (.ref f__law_ranges)))
    (l__law_ranges : K.lookup f__law_ranges = some ⟨oc__law_ranges, od__law_ranges, .func (PySem.W.fnOf "_law_ranges" "_law_ranges" (defArgs s__law_ranges) (defBody s__law_ranges) (defScope s__law_ranges) .none kV__law_ranges dc__law_ranges pm__law_ranges an__law_ranges cd__law_ranges ct__law_ranges), sl__law_ranges⟩) (c__law_ranges : PySem.W.codeIn K cd__law_ranges "_law_ranges" = true) (k__law_ranges : PySem.W.keepIn K (.ref f__law_ranges) = true)
    {f__law_within : Addr} {od__law_within an__law_within : Option Addr} {sl__law_within : Array (Option Value)} {oc__law_within kV__law_within dc__law_within pm__law_within cd__law_within ct__law_within : Value} (a__law_within : PySem.W.nsIn K mainGlobals "_law_within" = some (some (.ref f__law_within)))
    (l__law_within : K.lookup f__law_within = some ⟨oc__law_within, od__law_within, .func (PySem.W.fnOf "_law_within" "_law_within" (defArgs s__law_within) (defBody s__law_within) (defScope s__law_within) .none kV__law_within dc__law_within pm__law_within an__law_within cd__law_within ct__law_within), sl__law_within⟩) (c__law_within : PySem.W.codeIn K cd__law_within "_law_within" = true) (k__law_within : PySem.W.keepIn K (.ref f__law_within) = true)
    {f__law_edges : Addr} {od__law_edges an__law_edges : Option Addr} {sl__law_edges : Array (Option Value)} {oc__law_edges kV__law_edges dc__law_edges pm__law_edges cd__law_edges ct__law_edges : Value} (a__law_edges : PySem.W.nsIn K mainGlobals "_law_edges" = some (some (.ref f__law_edges)))
    (l__law_edges : K.lookup f__law_edges = some ⟨oc__law_edges, od__law_edges, .func (PySem.W.fnOf "_law_edges" "_law_edges" (defArgs s__law_edges) (defBody s__law_edges) (defScope s__law_edges) .none kV__law_edges dc__law_edges pm__law_edges an__law_edges cd__law_edges ct__law_edges), sl__law_edges⟩) (c__law_edges : PySem.W.codeIn K cd__law_edges "_law_edges" = true) (k__law_edges : PySem.W.keepIn K (.ref f__law_edges) = true)
    {f__law_reach : Addr} {od__law_reach an__law_reach : Option Addr} {sl__law_reach : Array (Option Value)} {oc__law_reach kV__law_reach dc__law_reach pm__law_reach cd__law_reach ct__law_reach : Value} (a__law_reach : PySem.W.nsIn K mainGlobals "_law_reach" = some (some (.ref f__law_reach)))
    (l__law_reach : K.lookup f__law_reach = some ⟨oc__law_reach, od__law_reach, .func (PySem.W.fnOf "_law_reach" "_law_reach" (defArgs s__law_reach) (defBody s__law_reach) (defScope s__law_reach) .none kV__law_reach dc__law_reach pm__law_reach an__law_reach cd__law_reach ct__law_reach), sl__law_reach⟩) (c__law_reach : PySem.W.codeIn K cd__law_reach "_law_reach" = true) (k__law_reach : PySem.W.keepIn K (.ref f__law_reach) = true)
    {f__law_is : Addr} {od__law_is an__law_is : Option Addr} {sl__law_is : Array (Option Value)} {oc__law_is kV__law_is dc__law_is pm__law_is cd__law_is ct__law_is : Value} (a__law_is : PySem.W.nsIn K mainGlobals "_law_is" = some (some (.ref f__law_is)))
    (l__law_is : K.lookup f__law_is = some ⟨oc__law_is, od__law_is, .func (PySem.W.fnOf "_law_is" "_law_is" (defArgs s__law_is) (defBody s__law_is) (defScope s__law_is) .none kV__law_is dc__law_is pm__law_is an__law_is cd__law_is ct__law_is), sl__law_is⟩) (c__law_is : PySem.W.codeIn K cd__law_is "_law_is" = true) (k__law_is : PySem.W.keepIn K (.ref f__law_is) = true)
    {f__law_patterns : Addr} {od__law_patterns an__law_patterns : Option Addr} {sl__law_patterns : Array (Option Value)} {oc__law_patterns kV__law_patterns dc__law_patterns pm__law_patterns cd__law_patterns ct__law_patterns : Value} (a__law_patterns : PySem.W.nsIn K mainGlobals "_law_patterns" = some (some (.ref f__law_patterns)))
    (l__law_patterns : K.lookup f__law_patterns = some ⟨oc__law_patterns, od__law_patterns, .func (PySem.W.fnOf "_law_patterns" "_law_patterns" (defArgs s__law_patterns) (defBody s__law_patterns) (defScope s__law_patterns) .none kV__law_patterns dc__law_patterns pm__law_patterns an__law_patterns cd__law_patterns ct__law_patterns), sl__law_patterns⟩) (c__law_patterns : PySem.W.codeIn K cd__law_patterns "_law_patterns" = true) (k__law_patterns : PySem.W.keepIn K (.ref f__law_patterns) = true)
    {f__law_right : Addr} {od__law_right an__law_right : Option Addr} {sl__law_right : Array (Option Value)} {oc__law_right kV__law_right dc__law_right pm__law_right cd__law_right ct__law_right : Value} (a__law_right : PySem.W.nsIn K mainGlobals "_law_right" = some (some (.ref f__law_right)))
    (l__law_right : K.lookup f__law_right = some ⟨oc__law_right, od__law_right, .func (PySem.W.fnOf "_law_right" "_law_right" (defArgs s__law_right) (defBody s__law_right) (defScope s__law_right) .none kV__law_right dc__law_right pm__law_right an__law_right cd__law_right ct__law_right), sl__law_right⟩) (c__law_right : PySem.W.codeIn K cd__law_right "_law_right" = true) (k__law_right : PySem.W.keepIn K (.ref f__law_right) = true)
    {f__law_take : Addr} {od__law_take an__law_take : Option Addr} {sl__law_take : Array (Option Value)} {oc__law_take kV__law_take dc__law_take pm__law_take cd__law_take ct__law_take : Value} (a__law_take : PySem.W.nsIn K mainGlobals "_law_take" = some (some (.ref f__law_take)))
    (l__law_take : K.lookup f__law_take = some ⟨oc__law_take, od__law_take, .func (PySem.W.fnOf "_law_take" "_law_take" (defArgs s__law_take) (defBody s__law_take) (defScope s__law_take) .none kV__law_take dc__law_take pm__law_take an__law_take cd__law_take ct__law_take), sl__law_take⟩) (c__law_take : PySem.W.codeIn K cd__law_take "_law_take" = true) (k__law_take : PySem.W.keepIn K (.ref f__law_take) = true)
    {f__law_of : Addr} {od__law_of an__law_of : Option Addr} {sl__law_of : Array (Option Value)} {oc__law_of kV__law_of dc__law_of pm__law_of cd__law_of ct__law_of : Value} (a__law_of : PySem.W.nsIn K mainGlobals "_law_of" = some (some (.ref f__law_of)))
    (l__law_of : K.lookup f__law_of = some ⟨oc__law_of, od__law_of, .func (PySem.W.fnOf "_law_of" "_law_of" (defArgs s__law_of) (defBody s__law_of) (defScope s__law_of) .none kV__law_of dc__law_of pm__law_of an__law_of cd__law_of ct__law_of), sl__law_of⟩) (c__law_of : PySem.W.codeIn K cd__law_of "_law_of" = true) (k__law_of : PySem.W.keepIn K (.ref f__law_of) = true)
    {f__law_range : Addr} {od__law_range an__law_range : Option Addr} {sl__law_range : Array (Option Value)} {oc__law_range kV__law_range dc__law_range pm__law_range cd__law_range ct__law_range : Value} (a__law_range : PySem.W.nsIn K mainGlobals "_law_range" = some (some (.ref f__law_range)))
    (l__law_range : K.lookup f__law_range = some ⟨oc__law_range, od__law_range, .func (PySem.W.fnOf "_law_range" "_law_range" (defArgs s__law_range) (defBody s__law_range) (defScope s__law_range) .none kV__law_range dc__law_range pm__law_range an__law_range cd__law_range ct__law_range), sl__law_range⟩) (c__law_range : PySem.W.codeIn K cd__law_range "_law_range" = true) (k__law_range : PySem.W.keepIn K (.ref f__law_range) = true)
    {f__law_condition : Addr} {od__law_condition an__law_condition : Option Addr} {sl__law_condition : Array (Option Value)} {oc__law_condition kV__law_condition dc__law_condition pm__law_condition cd__law_condition ct__law_condition : Value} (a__law_condition : PySem.W.nsIn K mainGlobals "_law_condition" = some (some (.ref f__law_condition)))
    (l__law_condition : K.lookup f__law_condition = some ⟨oc__law_condition, od__law_condition, .func (PySem.W.fnOf "_law_condition" "_law_condition" (defArgs s__law_condition) (defBody s__law_condition) (defScope s__law_condition) .none kV__law_condition dc__law_condition pm__law_condition an__law_condition cd__law_condition ct__law_condition), sl__law_condition⟩) (c__law_condition : PySem.W.codeIn K cd__law_condition "_law_condition" = true) (k__law_condition : PySem.W.keepIn K (.ref f__law_condition) = true)
    {f__law_rules : Addr} {od__law_rules an__law_rules : Option Addr} {sl__law_rules : Array (Option Value)} {oc__law_rules kV__law_rules dc__law_rules pm__law_rules cd__law_rules ct__law_rules : Value} (a__law_rules : PySem.W.nsIn K mainGlobals "_law_rules" = some (some (.ref f__law_rules)))
    (l__law_rules : K.lookup f__law_rules = some ⟨oc__law_rules, od__law_rules, .func (PySem.W.fnOf "_law_rules" "_law_rules" (defArgs s__law_rules) (defBody s__law_rules) (defScope s__law_rules) .none kV__law_rules dc__law_rules pm__law_rules an__law_rules cd__law_rules ct__law_rules), sl__law_rules⟩) (c__law_rules : PySem.W.codeIn K cd__law_rules "_law_rules" = true) (k__law_rules : PySem.W.keepIn K (.ref f__law_rules) = true)
    {f__law_bent_rules : Addr} {od__law_bent_rules an__law_bent_rules : Option Addr} {sl__law_bent_rules : Array (Option Value)} {oc__law_bent_rules kV__law_bent_rules dc__law_bent_rules pm__law_bent_rules cd__law_bent_rules ct__law_bent_rules : Value} (a__law_bent_rules : PySem.W.nsIn K mainGlobals "_law_bent_rules" = some (some (.ref f__law_bent_rules)))
    (l__law_bent_rules : K.lookup f__law_bent_rules = some ⟨oc__law_bent_rules, od__law_bent_rules, .func (PySem.W.fnOf "_law_bent_rules" "_law_bent_rules" (defArgs s__law_bent_rules) (defBody s__law_bent_rules) (defScope s__law_bent_rules) .none kV__law_bent_rules dc__law_bent_rules pm__law_bent_rules an__law_bent_rules cd__law_bent_rules ct__law_bent_rules), sl__law_bent_rules⟩) (c__law_bent_rules : PySem.W.codeIn K cd__law_bent_rules "_law_bent_rules" = true) (k__law_bent_rules : PySem.W.keepIn K (.ref f__law_bent_rules) = true)
    {f__law_pot : Addr} {od__law_pot an__law_pot : Option Addr} {sl__law_pot : Array (Option Value)} {oc__law_pot kV__law_pot dc__law_pot pm__law_pot cd__law_pot ct__law_pot : Value} (a__law_pot : PySem.W.nsIn K mainGlobals "_law_pot" = some (some (.ref f__law_pot)))
    (l__law_pot : K.lookup f__law_pot = some ⟨oc__law_pot, od__law_pot, .func (PySem.W.fnOf "_law_pot" "_law_pot" (defArgs s__law_pot) (defBody s__law_pot) (defScope s__law_pot) .none kV__law_pot dc__law_pot pm__law_pot an__law_pot cd__law_pot ct__law_pot), sl__law_pot⟩) (c__law_pot : PySem.W.codeIn K cd__law_pot "_law_pot" = true) (k__law_pot : PySem.W.keepIn K (.ref f__law_pot) = true)
    {f_law : Addr} {od_law an_law : Option Addr} {sl_law : Array (Option Value)} {oc_law kV_law dc_law pm_law cd_law ct_law : Value} (a_law : PySem.W.nsIn K mainGlobals "law" = some (some (.ref f_law)))
    (l_law : K.lookup f_law = some ⟨oc_law, od_law, .func (PySem.W.fnOf "law" "law" (defArgs s_law) (defBody s_law) (defScope s_law) .none kV_law dc_law pm_law an_law cd_law ct_law), sl_law⟩) (c_law : PySem.W.codeIn K cd_law "law" = true) (k_law : PySem.W.keepIn K (.ref f_law) = true)
    (b_abs : PySem.W.nsIn K mainGlobals "abs" = some none)
    (b_all : PySem.W.nsIn K mainGlobals "all" = some none)
    (b_any : PySem.W.nsIn K mainGlobals "any" = some none)
    (b_enumerate : PySem.W.nsIn K mainGlobals "enumerate" = some none)
    (b_int : PySem.W.nsIn K mainGlobals "int" = some none)
    (b_len : PySem.W.nsIn K mainGlobals "len" = some none)
    (b_list : PySem.W.nsIn K mainGlobals "list" = some none)
    (b_max : PySem.W.nsIn K mainGlobals "max" = some none)
    (b_min : PySem.W.nsIn K mainGlobals "min" = some none)
    (b_range : PySem.W.nsIn K mainGlobals "range" = some none)
    (b_repr : PySem.W.nsIn K mainGlobals "repr" = some none)
    (b_set : PySem.W.nsIn K mainGlobals "set" = some none)
    (b_sum : PySem.W.nsIn K mainGlobals "sum" = some none)
    (b_tuple : PySem.W.nsIn K mainGlobals "tuple" = some none)
    {t_ALL : Tok} (n_ALL : PySem.W.nsIn K mainGlobals "ALL" = some (some (.str "all" t_ALL)))
    {t_IN : Tok} (n_IN : PySem.W.nsIn K mainGlobals "IN" = some (some (.str "in" t_IN)))
    {t_NOT : Tok} (n_NOT : PySem.W.nsIn K mainGlobals "NOT" = some (some (.str "not" t_NOT)))
    : ∃ fd : FuncData, (∀ (s : Shared) (v : Value), BindsTo s fd ⟨[v], []⟩ [("_law_script", v)]) ∧ ∀ base : Heap, K.In base → base.Ns mainGlobals mg → FnG l.prog w K mg base L2.CX0 14 fa fd ["_law_script"] (spM 1 m_law) := by
  have e := hfa.symm.trans (PySem.W.mg_of X G a_law)
  cases e
  have T : Txt K mg := { b_abs := PySem.W.mg_none_of X G b_abs, b_all := PySem.W.mg_none_of X G b_all, b_any := PySem.W.mg_none_of X G b_any, b_enumerate := PySem.W.mg_none_of X G b_enumerate, b_int := PySem.W.mg_none_of X G b_int, b_len := PySem.W.mg_none_of X G b_len, b_list := PySem.W.mg_none_of X G b_list, b_max := PySem.W.mg_none_of X G b_max, b_min := PySem.W.mg_none_of X G b_min, b_range := PySem.W.mg_none_of X G b_range, b_repr := PySem.W.mg_none_of X G b_repr, b_set := PySem.W.mg_none_of X G b_set, b_sum := PySem.W.mg_none_of X G b_sum, b_tuple := PySem.W.mg_none_of X G b_tuple, c_ALL := ⟨_, PySem.W.mg_of X G n_ALL⟩, c_IN := ⟨_, PySem.W.mg_of X G n_IN⟩, c_NOT := ⟨_, PySem.W.mg_of X G n_NOT⟩, yes := True.intro }
  have U_hits := fun_mk (st := s_hits) l_hits c_hits k_hits
  have F_hits := fnf (ps := ["masks", "everything"]) X G a_hits U_hits (U_hits.binds fun _ _ _ _ _ _ us hl => match us, hl with | [_, _], _ => rfl) k_hits
  have U_ins_of := fun_mk (st := s_ins_of) l_ins_of c_ins_of k_ins_of
  have F_ins_of := fnf (ps := ["condition"]) X G a_ins_of U_ins_of (U_ins_of.binds fun _ _ _ _ _ _ us hl => match us, hl with | [_], _ => rfl) k_ins_of
  have U_all_ins := fun_mk (st := s_all_ins) l_all_ins c_all_ins k_all_ins
  have F_all_ins := fnf (ps := ["rules"]) X G a_all_ins U_all_ins (U_all_ins.binds fun _ _ _ _ _ _ us hl => match us, hl with | [_], _ => rfl) k_all_ins
  have U_bound := fun_mk (st := s_bound) l_bound c_bound k_bound
  have F_bound := fnf (ps := ["rules"]) X G a_bound U_bound (U_bound.binds fun _ _ _ _ _ _ us hl => match us, hl with | [_], _ => rfl) k_bound
  have U_period := fun_mk (st := s_period) l_period c_period k_period
  have F_period := fnf (ps := ["rules"]) X G a_period U_period (U_period.binds fun _ _ _ _ _ _ us hl => match us, hl with | [_], _ => rfl) k_period
  have U_all_numbers := fun_mk (st := s_all_numbers) l_all_numbers c_all_numbers k_all_numbers
  have F_all_numbers := fnf (ps := ["rules"]) X G a_all_numbers U_all_numbers (U_all_numbers.binds fun _ _ _ _ _ _ us hl => match us, hl with | [_], _ => rfl) k_all_numbers
  have U_holds := fun_mk (st := s_holds) l_holds c_holds k_holds
  have F_holds := fnf (ps := ["condition", "number"]) X G a_holds U_holds (U_holds.binds fun _ _ _ _ _ _ us hl => match us, hl with | [_, _], _ => rfl) k_holds
  have U_row_masks := fun_mk (st := s_row_masks) l_row_masks c_row_masks k_row_masks
  have F_row_masks := fnf (ps := ["rules"]) X G a_row_masks U_row_masks (U_row_masks.binds fun _ _ _ _ _ _ us hl => match us, hl with | [_], _ => rfl) k_row_masks
  have U_dead_rows := fun_mk (st := s_dead_rows) l_dead_rows c_dead_rows k_dead_rows
  have F_dead_rows := fnf (ps := ["rules"]) X G a_dead_rows U_dead_rows (U_dead_rows.binds fun _ _ _ _ _ _ us hl => match us, hl with | [_], _ => rfl) k_dead_rows
  have U__law_levels := fun_mk (st := s__law_levels) l__law_levels c__law_levels k__law_levels
  have F__law_levels := fnf (ps := ["_law_condition_here"]) X G a__law_levels U__law_levels (U__law_levels.binds fun _ _ _ _ _ _ us hl => match us, hl with | [_], _ => rfl) k__law_levels
  have U__law_ranges := fun_mk (st := s__law_ranges) l__law_ranges c__law_ranges k__law_ranges
  have F__law_ranges := fnf (ps := ["_law_condition_here"]) X G a__law_ranges U__law_ranges (U__law_ranges.binds fun _ _ _ _ _ _ us hl => match us, hl with | [_], _ => rfl) k__law_ranges
  have U__law_within := fun_mk (st := s__law_within) l__law_within c__law_within k__law_within
  have F__law_within := fnf (ps := ["_law_rules_here"]) X G a__law_within U__law_within (U__law_within.binds fun _ _ _ _ _ _ us hl => match us, hl with | [_], _ => rfl) k__law_within
  have U__law_edges := fun_mk (st := s__law_edges) l__law_edges c__law_edges k__law_edges
  have F__law_edges := fnf (ps := ["_law_rules_here"]) X G a__law_edges U__law_edges (U__law_edges.binds fun _ _ _ _ _ _ us hl => match us, hl with | [_], _ => rfl) k__law_edges
  have U__law_reach := fun_mk (st := s__law_reach) l__law_reach c__law_reach k__law_reach
  have F__law_reach := fnf (ps := ["_law_some"]) X G a__law_reach U__law_reach (U__law_reach.binds fun _ _ _ _ _ _ us hl => match us, hl with | [_], _ => rfl) k__law_reach
  have U__law_is := fun_mk (st := s__law_is) l__law_is c__law_is k__law_is
  have F__law_is := fnf (ps := ["_law_condition_here", "_law_number"]) X G a__law_is U__law_is (U__law_is.binds fun _ _ _ _ _ _ us hl => match us, hl with | [_, _], _ => rfl) k__law_is
  have U__law_patterns := fun_mk (st := s__law_patterns) l__law_patterns c__law_patterns k__law_patterns
  have F__law_patterns := fnf (ps := ["_law_rules_here"]) X G a__law_patterns U__law_patterns (U__law_patterns.binds fun _ _ _ _ _ _ us hl => match us, hl with | [_], _ => rfl) k__law_patterns
  have U__law_right := fun_mk (st := s__law_right) l__law_right c__law_right k__law_right
  have F__law_right := fnf (ps := ["_law_rules_here"]) X G a__law_right U__law_right (U__law_right.binds fun _ _ _ _ _ _ us hl => match us, hl with | [_], _ => rfl) k__law_right
  have U__law_take := fun_mk (st := s__law_take) l__law_take c__law_take k__law_take
  have F__law_take := fnf (ps := ["_law_pot_here", "_law_upto"]) X G a__law_take U__law_take (U__law_take.binds fun _ _ _ _ _ _ us hl => match us, hl with | [_, _], _ => rfl) k__law_take
  have U__law_of := fun_mk (st := s__law_of) l__law_of c__law_of k__law_of
  have F__law_of := fnf (ps := ["_law_pot_here", "_law_some"]) X G a__law_of U__law_of (U__law_of.binds fun _ _ _ _ _ _ us hl => match us, hl with | [_, _], _ => rfl) k__law_of
  have U__law_range := fun_mk (st := s__law_range) l__law_range c__law_range k__law_range
  have F__law_range := fnf (ps := ["_law_pot_here", "_law_moduli"]) X G a__law_range U__law_range (U__law_range.binds fun _ _ _ _ _ _ us hl => match us, hl with | [_, _], _ => rfl) k__law_range
  have U__law_condition := fun_mk (st := s__law_condition) l__law_condition c__law_condition k__law_condition
  have F__law_condition := fnf (ps := ["_law_pot_here", "_law_moduli", "_law_deep"]) X G a__law_condition U__law_condition (U__law_condition.binds fun _ _ _ _ _ _ us hl => match us, hl with | [_, _, _], _ => rfl) k__law_condition
  have U__law_rules := fun_mk (st := s__law_rules) l__law_rules c__law_rules k__law_rules
  have F__law_rules := fnf (ps := ["_law_pot_here"]) X G a__law_rules U__law_rules (U__law_rules.binds fun _ _ _ _ _ _ us hl => match us, hl with | [_], _ => rfl) k__law_rules
  have U__law_bent_rules := fun_mk (st := s__law_bent_rules) l__law_bent_rules c__law_bent_rules k__law_bent_rules
  have F__law_bent_rules := fnf (ps := ["_law_pot_here", "_law_rules_here"]) X G a__law_bent_rules U__law_bent_rules (U__law_bent_rules.binds fun _ _ _ _ _ _ us hl => match us, hl with | [_, _], _ => rfl) k__law_bent_rules
  have U__law_pot := fun_mk (st := s__law_pot) l__law_pot c__law_pot k__law_pot
  have F__law_pot := fnf (ps := ["_law_script", "_law_k"]) X G a__law_pot U__law_pot (U__law_pot.binds fun _ _ _ _ _ _ us hl => match us, hl with | [_, _], _ => rfl) k__law_pot
  have U_law := fun_mk (st := s_law) l_law c_law k_law
  have F_law := fnf (ps := ["_law_script"]) X G a_law U_law (U_law.binds fun _ _ _ _ _ _ us hl => match us, hl with | [_], _ => rfl) k_law
  refine ⟨PySem.W.fnOf "law" "law" (defArgs s_law) (defBody s_law) (defScope s_law) .none kV_law dc_law pm_law an_law cd_law ct_law, fun s v => .of_eq rfl, fun base _ _ => ?_⟩
  have C_hits : FnG l.prog w K mg base L2.CX0 1 f_hits _ ["masks", "everything"] (spM 2 m_hits) := ok_hits T  F_hits (PL.ofEv es_hits)
  have R_ins_of : ∀ d : Nat, FnG l.prog w K mg base L2.CX0 (0 + d) f_ins_of _ ["condition"] (spM 1 (m_ins_of d)) := fun d => by
    induction d with
    | zero => exact spM_zero fun _ => rfl
    | succ d ih => exact ok_ins_of T F_ins_of ih F_ins_of (PL.ofEv es_ins_of)
  have C_ins_of := R_ins_of 8
  have C_all_ins : FnG l.prog w K mg base L2.CX0 9 f_all_ins _ ["rules"] (spM 1 m_all_ins) := ok_all_ins T F_ins_of (C_ins_of.mono_k (by decide)) F_all_ins (PL.ofEv es_all_ins)
  have C_bound : FnG l.prog w K mg base L2.CX0 10 f_bound _ ["rules"] (spM 1 m_bound) := ok_bound T F_all_ins (C_all_ins.mono_k (by decide)) F_bound (PL.ofEv es_bound)
  have C_period : FnG l.prog w K mg base L2.CX0 10 f_period _ ["rules"] (spM 1 m_period) := ok_period T F_all_ins (C_all_ins.mono_k (by decide)) F_period (PL.ofEv es_period)
  have C_all_numbers : FnG l.prog w K mg base L2.CX0 11 f_all_numbers _ ["rules"] (spM 1 m_all_numbers) := ok_all_numbers T F_bound (C_bound.mono_k (by decide)) F_period (C_period.mono_k (by decide)) F_all_numbers (PL.ofEv es_all_numbers)
  have R_holds : ∀ d : Nat, FnG l.prog w K mg base L2.CX0 (0 + d) f_holds _ ["condition", "number"] (spM 2 (m_holds d)) := fun d => by
    induction d with
    | zero => exact spM_zero fun _ => rfl
    | succ d ih => exact ok_holds T F_holds ih F_holds (PL.ofEv es_holds)
  have C_holds := R_holds 8
  have C_row_masks : FnG l.prog w K mg base L2.CX0 11 f_row_masks _ ["rules"] (spM 1 m_row_masks) := ok_row_masks T F_holds (C_holds.mono_k (by decide)) F_bound (C_bound.mono_k (by decide)) F_period (C_period.mono_k (by decide)) F_row_masks (PL.ofEv es_row_masks)
  have C_dead_rows : FnG l.prog w K mg base L2.CX0 12 f_dead_rows _ ["rules"] (spM 1 m_dead_rows) := ok_dead_rows T F_hits (C_hits.mono_k (by decide)) F_all_numbers (C_all_numbers.mono_k (by decide)) F_row_masks (C_row_masks.mono_k (by decide)) F_dead_rows (PL.ofEv es_dead_rows)
  have R__law_levels : ∀ d : Nat, FnG l.prog w K mg base L2.CX0 (0 + d) f__law_levels _ ["_law_condition_here"] (spM 1 (m__law_levels d)) := fun d => by
    induction d with
    | zero => exact spM_zero fun _ => rfl
    | succ d ih => exact ok__law_levels T F__law_levels ih F__law_levels (PL.ofEv es__law_levels)
  have C__law_levels := R__law_levels 8
  have R__law_ranges : ∀ d : Nat, FnG l.prog w K mg base L2.CX0 (0 + d) f__law_ranges _ ["_law_condition_here"] (spM 1 (m__law_ranges d)) := fun d => by
    induction d with
    | zero => exact spM_zero fun _ => rfl
    | succ d ih => exact ok__law_ranges T F__law_ranges ih F__law_ranges (PL.ofEv es__law_ranges)
  have C__law_ranges := R__law_ranges 8
  have C__law_within : FnG l.prog w K mg base L2.CX0 9 f__law_within _ ["_law_rules_here"] (spM 1 m__law_within) := ok__law_within T F__law_levels (C__law_levels.mono_k (by decide)) F__law_ranges (C__law_ranges.mono_k (by decide)) F__law_within (PL.ofEv es__law_within)
  have C__law_edges : FnG l.prog w K mg base L2.CX0 9 f__law_edges _ ["_law_rules_here"] (spM 1 m__law_edges) := ok__law_edges T F__law_ranges (C__law_ranges.mono_k (by decide)) F__law_edges (PL.ofEv es__law_edges)
  have C__law_reach : FnG l.prog w K mg base L2.CX0 10 f__law_reach _ ["_law_some"] (spM 1 m__law_reach) := ok__law_reach T F__law_edges (C__law_edges.mono_k (by decide)) F__law_reach (PL.ofEv es__law_reach)
  have R__law_is : ∀ d : Nat, FnG l.prog w K mg base L2.CX0 (0 + d) f__law_is _ ["_law_condition_here", "_law_number"] (spM 2 (m__law_is d)) := fun d => by
    induction d with
    | zero => exact spM_zero fun _ => rfl
    | succ d ih => exact ok__law_is T F__law_is ih F__law_is (PL.ofEv es__law_is)
  have C__law_is := R__law_is 8
  have C__law_patterns : FnG l.prog w K mg base L2.CX0 11 f__law_patterns _ ["_law_rules_here"] (spM 1 m__law_patterns) := ok__law_patterns T F__law_reach (C__law_reach.mono_k (by decide)) F__law_is (C__law_is.mono_k (by decide)) F__law_patterns (PL.ofEv es__law_patterns)
  have C__law_right : FnG l.prog w K mg base L2.CX0 13 f__law_right _ ["_law_rules_here"] (spM 1 m__law_right) := ok__law_right T F_dead_rows (C_dead_rows.mono_k (by decide)) F__law_patterns (C__law_patterns.mono_k (by decide)) F__law_right (PL.ofEv es__law_right)
  have C__law_take : FnG l.prog w K mg base L2.CX0 1 f__law_take _ ["_law_pot_here", "_law_upto"] (spX 2 m__law_take) := ok__law_take T  F__law_take (PL.ofX es__law_take)
  have C__law_of : FnG l.prog w K mg base L2.CX0 2 f__law_of _ ["_law_pot_here", "_law_some"] (spX 2 m__law_of) := ok__law_of T F__law_take (C__law_take.mono_k (by decide)) F__law_of (PL.ofX es__law_of)
  have C__law_range : FnG l.prog w K mg base L2.CX0 3 f__law_range _ ["_law_pot_here", "_law_moduli"] (spX 2 m__law_range) := ok__law_range T F__law_of (C__law_of.mono_k (by decide)) F__law_take (C__law_take.mono_k (by decide)) F__law_range (PL.ofX es__law_range)
  have R__law_condition : ∀ d : Nat, FnG l.prog w K mg base L2.CX0 (3 + d) f__law_condition _ ["_law_pot_here", "_law_moduli", "_law_deep"] (spX 3 (m__law_condition d)) := fun d => by
    induction d with
    | zero => exact spX_zero fun _ => rfl
    | succ d ih => exact ok__law_condition T F__law_take (C__law_take.mono_k (by omega)) F__law_condition ih F__law_range (C__law_range.mono_k (by omega)) F__law_condition (PL.ofX es__law_condition)
  have C__law_condition := R__law_condition 8
  have C__law_rules : FnG l.prog w K mg base L2.CX0 12 f__law_rules _ ["_law_pot_here"] (spX 1 m__law_rules) := ok__law_rules T F__law_of (C__law_of.mono_k (by decide)) F__law_condition (C__law_condition.mono_k (by decide)) F__law_take (C__law_take.mono_k (by decide)) F__law_rules (PL.ofX es__law_rules)
  have C__law_bent_rules : FnG l.prog w K mg base L2.CX0 13 f__law_bent_rules _ ["_law_pot_here", "_law_rules_here"] (spX 2 m__law_bent_rules) := ok__law_bent_rules T F__law_of (C__law_of.mono_k (by decide)) F__law_range (C__law_range.mono_k (by decide)) F__law_rules (C__law_rules.mono_k (by decide)) F__law_take (C__law_take.mono_k (by decide)) F__law_bent_rules (PL.ofX es__law_bent_rules)
  have C__law_pot : FnG l.prog w K mg base L2.CX0 1 f__law_pot _ ["_law_script", "_law_k"] (spN 2 m__law_pot) := ok__law_pot T  F__law_pot (PL.ofXN es__law_pot)
  have C_law : FnG l.prog w K mg base L2.CX0 14 fa _ ["_law_script"] (spM 1 m_law) := ok_law T F_dead_rows (C_dead_rows.mono_k (by decide)) F__law_within (C__law_within.mono_k (by decide)) F__law_right (C__law_right.mono_k (by decide)) F__law_bent_rules (C__law_bent_rules.mono_k (by decide)) F__law_take (C__law_take.mono_k (by decide)) F__law_rules (C__law_rules.mono_k (by decide)) F__law_pot (C__law_pot.mono_k (by decide)) F_law (PL.ofXV es_law)
  exact C_law
end Lw
open PySem PySem.W PyProof.Rows in
set_option maxRecDepth 100000 in
set_option maxHeartbeats 0 in
theorem PySem.Challenge.cw_pluralforms_k62_rows_that_no_number_meet_holds : PySem.Challenge.rw_pluralforms_k62_rows_that_no_number_meet.Holds := by
  w_on; o_law; k_head; (case hw => w_witness2)
  k_fill
  refine CL.law_end (l := PySem.Challenge.rw_pluralforms_k62_rows_that_no_number_meet) (n := 63) (k := 14) (x := "_law_script") (sp := fun _ => CL.spM 1 Lw.m_law) rfl (by decide) rfl (CL.room_caller (by decide)) (fun w h Y => PySem.W.kIn_of Y) ?F Lw.law_sp rfl
  case F =>
    intro w mg fa h KX G hmg
    refine' Lw.all_mk KX G hmg ?a_hits ?l_hits ?c_hits ?k_hits ?a_ins_of ?l_ins_of ?c_ins_of ?k_ins_of ?a_all_ins ?l_all_ins ?c_all_ins ?k_all_ins ?a_bound ?l_bound ?c_bound ?k_bound ?a_period ?l_period ?c_period ?k_period ?a_all_numbers ?l_all_numbers ?c_all_numbers ?k_all_numbers ?a_holds ?l_holds ?c_holds ?k_holds ?a_row_masks ?l_row_masks ?c_row_masks ?k_row_masks ?a_dead_rows ?l_dead_rows ?c_dead_rows ?k_dead_rows ?a__law_levels ?l__law_levels ?c__law_levels ?k__law_levels ?a__law_ranges ?l__law_ranges ?c__law_ranges ?k__law_ranges ?a__law_within ?l__law_within ?c__law_within ?k__law_within ?a__law_edges ?l__law_edges ?c__law_edges ?k__law_edges ?a__law_reach ?l__law_reach ?c__law_reach ?k__law_reach ?a__law_is ?l__law_is ?c__law_is ?k__law_is ?a__law_patterns ?l__law_patterns ?c__law_patterns ?k__law_patterns ?a__law_right ?l__law_right ?c__law_right ?k__law_right ?a__law_take ?l__law_take ?c__law_take ?k__law_take ?a__law_of ?l__law_of ?c__law_of ?k__law_of ?a__law_range ?l__law_range ?c__law_range ?k__law_range ?a__law_condition ?l__law_condition ?c__law_condition ?k__law_condition ?a__law_rules ?l__law_rules ?c__law_rules ?k__law_rules ?a__law_bent_rules ?l__law_bent_rules ?c__law_bent_rules ?k__law_bent_rules ?a__law_pot ?l__law_pot ?c__law_pot ?k__law_pot ?a_law ?l_law ?c_law ?k_law ?b_abs ?b_all ?b_any ?b_enumerate ?b_int ?b_len ?b_list ?b_max ?b_min ?b_range ?b_repr ?b_set ?b_sum ?b_tuple ?n_ALL ?n_IN ?n_NOT
    (case a_hits => k_is)
    (case l_hits => k_is)
    (case c_hits => k_is)
    (case k_hits => k_is)
    (case a_ins_of => k_is)
    (case l_ins_of => k_is)
    (case c_ins_of => k_is)
    (case k_ins_of => k_is)
    (case a_all_ins => k_is)
    (case l_all_ins => k_is)
    (case c_all_ins => k_is)
    (case k_all_ins => k_is)
    (case a_bound => k_is)
    (case l_bound => k_is)
    (case c_bound => k_is)
    (case k_bound => k_is)
    (case a_period => k_is)
    (case l_period => k_is)
    (case c_period => k_is)
    (case k_period => k_is)
    (case a_all_numbers => k_is)
    (case l_all_numbers => k_is)
    (case c_all_numbers => k_is)
    (case k_all_numbers => k_is)
    (case a_holds => k_is)
    (case l_holds => k_is)
    (case c_holds => k_is)
    (case k_holds => k_is)
    (case a_row_masks => k_is)
    (case l_row_masks => k_is)
    (case c_row_masks => k_is)
    (case k_row_masks => k_is)
    (case a_dead_rows => k_is)
    (case l_dead_rows => k_is)
    (case c_dead_rows => k_is)
    (case k_dead_rows => k_is)
    (case a__law_levels => k_is)
    (case l__law_levels => k_is)
    (case c__law_levels => k_is)
    (case k__law_levels => k_is)
    (case a__law_ranges => k_is)
    (case l__law_ranges => k_is)
    (case c__law_ranges => k_is)
    (case k__law_ranges => k_is)
    (case a__law_within => k_is)
    (case l__law_within => k_is)
    (case c__law_within => k_is)
    (case k__law_within => k_is)
    (case a__law_edges => k_is)
    (case l__law_edges => k_is)
    (case c__law_edges => k_is)
    (case k__law_edges => k_is)
    (case a__law_reach => k_is)
    (case l__law_reach => k_is)
    (case c__law_reach => k_is)
    (case k__law_reach => k_is)
    (case a__law_is => k_is)
    (case l__law_is => k_is)
    (case c__law_is => k_is)
    (case k__law_is => k_is)
    (case a__law_patterns => k_is)
    (case l__law_patterns => k_is)
    (case c__law_patterns => k_is)
    (case k__law_patterns => k_is)
    (case a__law_right => k_is)
    (case l__law_right => k_is)
    (case c__law_right => k_is)
    (case k__law_right => k_is)
    (case a__law_take => k_is)
    (case l__law_take => k_is)
    (case c__law_take => k_is)
    (case k__law_take => k_is)
    (case a__law_of => k_is)
    (case l__law_of => k_is)
    (case c__law_of => k_is)
    (case k__law_of => k_is)
    (case a__law_range => k_is)
    (case l__law_range => k_is)
    (case c__law_range => k_is)
    (case k__law_range => k_is)
    (case a__law_condition => k_is)
    (case l__law_condition => k_is)
    (case c__law_condition => k_is)
    (case k__law_condition => k_is)
    (case a__law_rules => k_is)
    (case l__law_rules => k_is)
    (case c__law_rules => k_is)
    (case k__law_rules => k_is)
    (case a__law_bent_rules => k_is)
    (case l__law_bent_rules => k_is)
    (case c__law_bent_rules => k_is)
    (case k__law_bent_rules => k_is)
    (case a__law_pot => k_is)
    (case l__law_pot => k_is)
    (case c__law_pot => k_is)
    (case k__law_pot => k_is)
    (case a_law => k_is)
    (case l_law => k_is)
    (case c_law => k_is)
    (case k_law => k_is)
    (case b_abs => k_is)
    (case b_all => k_is)
    (case b_any => k_is)
    (case b_enumerate => k_is)
    (case b_int => k_is)
    (case b_len => k_is)
    (case b_list => k_is)
    (case b_max => k_is)
    (case b_min => k_is)
    (case b_range => k_is)
    (case b_repr => k_is)
    (case b_set => k_is)
    (case b_sum => k_is)
    (case b_tuple => k_is)
    (case n_ALL => k_is)
    (case n_IN => k_is)
    (case n_NOT => k_is)
#print axioms PySem.Challenge.cw_pluralforms_k62_rows_that_no_number_meet_holds