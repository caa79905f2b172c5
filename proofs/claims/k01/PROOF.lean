import PyProof.Rows.All
import Wide.All
import OpenK.AllK
import Wide.FinOn
import HandS.ForMost
import HandS.ForExc
import HandS.Wide
import HandS.SortKw
import HandS.TupAny
import KE.DatumOrd
import HandS.EndBits
import HandS.Style
import PyProof.ReprBulk
import HandS.Iter
import KE.GoesMore
import HandS.Dict
import HandS.DictComp
import HandS.SetKeys
import HandS.More
import HandS.TupMul
import HandS.IsInst
import HandS.Strs
import PyProof.Rows.SortShellAny
import PyProof.Rows.SortKeyStr
import HandS.DictTup
import HandS.ListItems
import KE.KDictPairs
import HandS.Conv
import HandS.Zip
import KE.KIndexOf
import PyProof.StrBlock2
import PyProof.Rows.StrJoin2
import PySem.Challenge.RW_pluralforms_k01_forms_of_any_value
set_option Elab.async false
set_option linter.all false
set_option maxRecDepth 100000
set_option maxHeartbeats 4000000
/-! CL1: clean values, the owned store, what a clean value stands for; lifted readings -/
namespace CL
open PySem PySem.Spec PyProof.Rows L2

abbrev Fg := PySem.W.Frag

/-- clean values: immutable trees, and references to owned objects -/
inductive Cv where
  | non | bl (b : Bool) | int (i : Int) | str (x : Str)
  | tup (xs : List Cv) | lst (xs : List Cv)
  | dK (kvs : List (Key × Cv)) | dT (kvs : List (List Key × Cv))
  | ref (a : Addr) | opq (v : V)
  /-- a list that is only read (the script) -/
  | scr (xs : List Cv)
  /-- a tuple that is known to have no dict of its own -/
  | tupF (xs : List Cv)

inductive Ob where
  | lst (xs : List Cv)
  | dK (kvs : List (Key × Cv)) | dT (kvs : List (List Key × Cv))
  | ins (C dx : Addr) (fs : List (Str × Cv))

abbrev Sto := Addr → Option Ob
def Sto.set (S : Sto) (a : Addr) (o : Ob) : Sto := fun b => if b = a then some o else S b
@[simp] theorem Sto.set_same {S : Sto} {a : Addr} {o : Ob} : S.set a o a = some o := by simp [Sto.set]
theorem Sto.set_ne {S : Sto} {a b : Addr} {o : Ob} (h : b ≠ a) : S.set a o b = S b := by simp [Sto.set, h]
@[simp] theorem Sto.set_set {S : Sto} {a : Addr} {o u : Ob} : (S.set a o).set a u = S.set a u := by
  funext b; by_cases h : b = a <;> simp [Sto.set, h]

mutual
inductive Rep (K : Fg) (Z : List Addr) (S : Sto) (H : Hp) : Cv → V → Prop
  | non : Rep K Z S H .non .non
  | bl (b : Bool) : Rep K Z S H (.bl b) (.bl b)
  | int (i : Int) : Rep K Z S H (.int i) (.int i)
  | str (x : Str) : Rep K Z S H (.str x) (.str x)
  | tup {a : Addr} {vs : List V} {ws : List Cv} : Rd H a (.tup vs) → S a = none → Reps K Z S H ws vs → Rep K Z S H (.tup ws) (.ref a)
  | tupK {a : Addr} {vs : List V} {ws : List Cv} : (∀ H' : Hp, SqT K H' a vs) → Reps K Z S H ws vs → Rep K Z S H (.tup ws) (.ref a)
  | lst {a : Addr} {vs : List V} {ws : List Cv} : H a = some (.lst vs) → S a = none → a ∉ Z → Reps K Z S H ws vs → Rep K Z S H (.lst ws) (.ref a)
  | scr {a : Addr} {vs : List V} {ws : List Cv} {o : Obj} : H a = some (.frz o (.lst vs)) → S a = none → Reps K Z S H ws vs → Rep K Z S H (.scr ws) (.ref a)
  | tupF {a : Addr} {vs : List V} {ws : List Cv} {o : Obj} : H a = some (.frz o (.tup vs)) → S a = none → Reps K Z S H ws vs → o.dict = none → Rep K Z S H (.tupF ws) (.ref a)
  | scrK {a : Addr} {vs : List V} {ws : List Cv} : (∀ H' : Hp, SqL K H' a vs) → Reps K Z S H ws vs → Rep K Z S H (.scr ws) (.ref a)
  | dK {a : Addr} {kvs : List (Key × V)} {kws : List (Key × Cv)} : H a = some (.dK kvs) → S a = none → a ∉ Z → kws.map Prod.fst = kvs.map Prod.fst → Reps K Z S H (kws.map Prod.snd) (kvs.map Prod.snd) → Rep K Z S H (.dK kws) (.ref a)
  | dT {a : Addr} {kvs : List (List Key × V)} {kws : List (List Key × Cv)} : H a = some (.dT kvs) → S a = none → a ∉ Z → kws.map Prod.fst = kvs.map Prod.fst → Reps K Z S H (kws.map Prod.snd) (kvs.map Prod.snd) → Rep K Z S H (.dT kws) (.ref a)
  | ref (a : Addr) : Rep K Z S H (.ref a) (.ref a)
  | opq (v : V) : Rep K Z S H (.opq v) v
inductive Reps (K : Fg) (Z : List Addr) (S : Sto) (H : Hp) : List Cv → List V → Prop
  | nil : Reps K Z S H [] []
  | cons {w : Cv} {v : V} {ws : List Cv} {vs : List V} : Rep K Z S H w v → Reps K Z S H ws vs → Reps K Z S H (w :: ws) (v :: vs)
end

def RepOb (K : Fg) (Z : List Addr) (S : Sto) (H : Hp) (a : Addr) : Ob → Prop
  | .lst ws => ∃ vs, H a = some (.lst vs) ∧ Reps K Z S H ws vs
  | .dK kws => ∃ kvs, H a = some (.dK kvs) ∧ kws.map Prod.fst = kvs.map Prod.fst ∧ Reps K Z S H (kws.map Prod.snd) (kvs.map Prod.snd)
  | .dT kws => ∃ kvs, H a = some (.dT kvs) ∧ kws.map Prod.fst = kvs.map Prod.fst ∧ Reps K Z S H (kws.map Prod.snd) (kvs.map Prod.snd)
  | .ins C dx fs => ∃ fvs, H a = some (.ins C dx fvs) ∧ fs.map Prod.fst = fvs.map Prod.fst ∧ Reps K Z S H (fs.map Prod.snd) (fvs.map Prod.snd)

/-- no tuple, nothing locked -/
def plainO : HO → Bool
  | .tup _ => false
  | .frz _ _ => false
  | _ => true
/-- the owned objects stand so -/
structure StOk (K : Fg) (Z : List Addr) (S : Sto) (H : Hp) : Prop where
  ob : ∀ a o, S a = some o → RepOb K Z S H a o
  hid : ∀ a, a ∈ Z → S a = none ∧ ∃ u, H a = some u ∧ plainO u = true
/-- what is not owned is kept, and not taken; what is tracked stays tracked -/
structure Fr (S : Sto) (H : Hp) (S' : Sto) (H' : Hp) : Prop where
  keep : ∀ a o, H a = some o → S a = none → H' a = some o ∧ S' a = none
  dom : ∀ a, H' a = none → H a = none

theorem Fr.refl (S : Sto) (H : Hp) : Fr S H S H := ⟨fun _ _ h n => ⟨h, n⟩, fun _ h => h⟩
theorem Fr.trans {S S1 S2 : Sto} {H H1 H2 : Hp} (a : Fr S H S1 H1) (b : Fr S1 H1 S2 H2) : Fr S H S2 H2 :=
  ⟨fun p o h n => let ⟨h1, n1⟩ := a.keep p o h n; b.keep p o h1 n1, fun p h => a.dom p (b.dom p h)⟩
theorem dom_upd {H : Hp} {p : Addr} {o : HO} : ∀ a, upd H p o a = none → H a = none := fun a h => by
  by_cases e : a = p
  · rw [e, upd_same] at h; cases h
  · rwa [upd_ne e] at h
/-- a new object, tracked and not owned -/
theorem Fr.new {S : Sto} {H : Hp} {p : Addr} {o : HO} (h : H p = none) : Fr S H S (upd H p o) :=
  ⟨fun a u e n => ⟨by rw [upd_ne (ne_of_none e h)]; exact e, n⟩, dom_upd⟩
/-- a new object, owned -/
theorem Fr.own {S : Sto} {H : Hp} {p : Addr} {o : HO} {u : Ob} (h : H p = none) : Fr S H (S.set p u) (upd H p o) :=
  ⟨fun a x e n => by
    have np := ne_of_none e h
    exact ⟨by rw [upd_ne np]; exact e, by rw [Sto.set_ne np]; exact n⟩, dom_upd⟩
/-- an owned object is written -/
theorem Fr.wr {S : Sto} {H : Hp} {p : Addr} {o : HO} {u u' : Ob} (h : S p = some u') : Fr S H (S.set p u) (upd H p o) :=
  ⟨fun a x e n => by
    have np : a ≠ p := fun z => by subst z; rw [h] at n; cases n
    exact ⟨by rw [upd_ne np]; exact e, by rw [Sto.set_ne np]; exact n⟩, dom_upd⟩

/-- the same, but for what is hidden -/
structure FrZ (Z : List Addr) (S : Sto) (H : Hp) (S' : Sto) (H' : Hp) : Prop where
  keep : ∀ a o, a ∉ Z → H a = some o → S a = none → H' a = some o ∧ S' a = none
  dom : ∀ a, H' a = none → H a = none
theorem Fr.z {S S' : Sto} {H H' : Hp} (f : Fr S H S' H') (Z : List Addr) : FrZ Z S H S' H' := ⟨fun a o _ h n => f.keep a o h n, f.dom⟩
theorem FrZ.trans {Z : List Addr} {S S1 S2 : Sto} {H H1 H2 : Hp} (a : FrZ Z S H S1 H1) (b : FrZ Z S1 H1 S2 H2) : FrZ Z S H S2 H2 :=
  ⟨fun p o z h n => let ⟨h1, n1⟩ := a.keep p o z h n; b.keep p o z h1 n1, fun p h => a.dom p (b.dom p h)⟩
theorem FrZ.chg {Z : List Addr} {S : Sto} {H : Hp} {D : Addr} {o : HO} (hD : D ∈ Z) : FrZ Z S H S (upd H D o) :=
  ⟨fun a u z e n => ⟨by rw [upd_ne (fun q => z (by rw [q]; exact hD))]; exact e, n⟩, dom_upd⟩
theorem Rd.fr {S S' : Sto} {H H' : Hp} {a : Addr} {u : HO} (f : Fr S H S' H') (h : Rd H a u) (n : S a = none) : Rd H' a u ∧ S' a = none := by
  rcases h with h | ⟨o, h⟩
  · exact ⟨.inl (f.keep _ _ h n).1, (f.keep _ _ h n).2⟩
  · exact ⟨.inr ⟨o, (f.keep _ _ h n).1⟩, (f.keep _ _ h n).2⟩

section
variable {K : Fg} {Z : List Addr} {S S' : Sto} {H H' : Hp}
mutual
theorem Rep.fr (f : Fr S H S' H') : ∀ {w : Cv} {v : V}, Rep K Z S H w v → Rep K Z S' H' w v
  | _, _, .non => .non
  | _, _, .bl b => .bl b
  | _, _, .int i => .int i
  | _, _, .str x => .str x
  | _, _, .tup h n r => .tup (Rd.fr f h n).1 (Rd.fr f h n).2 (Reps.fr f r)
  | _, _, .tupK h r => .tupK h (Reps.fr f r)
  | _, _, .lst h n z r => .lst (f.keep _ _ h n).1 (f.keep _ _ h n).2 z (Reps.fr f r)
  | _, _, .scr h n r => .scr (f.keep _ _ h n).1 (f.keep _ _ h n).2 (Reps.fr f r)
  | _, _, .tupF h n r d => .tupF (f.keep _ _ h n).1 (f.keep _ _ h n).2 (Reps.fr f r) d
  | _, _, .scrK h r => .scrK h (Reps.fr f r)
  | _, _, .dK h n z e r => .dK (f.keep _ _ h n).1 (f.keep _ _ h n).2 z e (Reps.fr f r)
  | _, _, .dT h n z e r => .dT (f.keep _ _ h n).1 (f.keep _ _ h n).2 z e (Reps.fr f r)
  | _, _, .ref a => .ref a
  | _, _, .opq v => .opq v
theorem Reps.fr (f : Fr S H S' H') : ∀ {ws : List Cv} {vs : List V}, Reps K Z S H ws vs → Reps K Z S' H' ws vs
  | _, _, .nil => .nil
  | _, _, .cons a r => .cons (Rep.fr f a) (Reps.fr f r)
end
theorem Reps.length : ∀ {ws : List Cv} {vs : List V}, Reps K Z S H ws vs → ws.length = vs.length
  | _, _, .nil => rfl
  | _, _, .cons _ r => by simp [Reps.length r]
theorem Reps.get : ∀ {ws : List Cv} {vs : List V} {i : Nat} {w : Cv}, Reps K Z S H ws vs → ws[i]? = some w → ∃ v, vs[i]? = some v ∧ Rep K Z S H w v
  | _, _, _, _, .nil, h => by simp at h
  | _, _, 0, _, .cons a _, h => by simp at h; subst h; exact ⟨_, rfl, a⟩
  | _, _, i + 1, w, .cons _ r, h => by
    obtain ⟨v, h1, h2⟩ := Reps.get (i := i) (w := w) r (by simpa using h)
    exact ⟨v, by simpa using h1, h2⟩
theorem Reps.getV : ∀ {ws : List Cv} {vs : List V} {i : Nat} {v : V}, Reps K Z S H ws vs → vs[i]? = some v → ∃ w, ws[i]? = some w ∧ Rep K Z S H w v
  | _, _, _, _, .nil, h => by simp at h
  | _, _, 0, _, .cons a _, h => by simp at h; subst h; exact ⟨_, rfl, a⟩
  | _, _, i + 1, w, .cons _ r, h => by
    obtain ⟨v, h1, h2⟩ := Reps.getV (i := i) (v := w) r (by simpa using h)
    exact ⟨v, by simpa using h1, h2⟩
theorem Reps.app : ∀ {ws us : List Cv} {vs xs : List V}, Reps K Z S H ws vs → Reps K Z S H us xs → Reps K Z S H (ws ++ us) (vs ++ xs)
  | _, _, _, _, .nil, s => s
  | _, _, _, _, .cons a r, s => .cons a (Reps.app r s)
theorem Reps.one {w : Cv} {v : V} (h : Rep K Z S H w v) : Reps K Z S H [w] [v] := .cons h .nil
theorem Reps.split : ∀ {us ws : List Cv} {vs : List V}, Reps K Z S H (us ++ ws) vs → ∃ xs ys, vs = xs ++ ys ∧ Reps K Z S H us xs ∧ Reps K Z S H ws ys
  | [], _, vs, r => ⟨[], vs, rfl, .nil, r⟩
  | _ :: us, ws, _, .cons a r => by
    obtain ⟨xs, ys, rfl, h1, h2⟩ := Reps.split (us := us) (ws := ws) r
    exact ⟨_ :: xs, ys, rfl, .cons a h1, h2⟩
theorem Reps.take : ∀ {ws : List Cv} {vs : List V} (n : Nat), Reps K Z S H ws vs → Reps K Z S H (ws.take n) (vs.take n)
  | _, _, 0, _ => .nil
  | _, _, _ + 1, .nil => .nil
  | _, _, n + 1, .cons a r => .cons a (Reps.take n r)
theorem Reps.drop : ∀ {ws : List Cv} {vs : List V} (n : Nat), Reps K Z S H ws vs → Reps K Z S H (ws.drop n) (vs.drop n)
  | _, _, 0, r => r
  | _, _, _ + 1, .nil => .nil
  | _, _, n + 1, .cons _ r => Reps.drop n r
theorem Reps.set {w : Cv} {v : V} (h : Rep K Z S H w v) : ∀ {ws : List Cv} {vs : List V} (n : Nat), Reps K Z S H ws vs → Reps K Z S H (ws.set n w) (vs.set n v)
  | _, _, _, .nil => .nil
  | _, _, 0, .cons _ r => .cons h r
  | _, _, n + 1, .cons a r => .cons a (Reps.set h n r)
theorem Reps.rev {ws : List Cv} {vs : List V} (r : Reps K Z S H ws vs) : Reps K Z S H ws.reverse vs.reverse := by
  induction ws generalizing vs with
  | nil => cases r; exact .nil
  | cons w ws ih =>
    cases r with
    | cons a r => rw [List.reverse_cons, List.reverse_cons]; exact (ih r).app (.one a)
theorem RepOb.fr {a : Addr} {o : Ob} (f : Fr S H S' H') (e : H' a = H a) (h : RepOb K Z S H a o) : RepOb K Z S' H' a o := by
  cases o with
  | lst ws => obtain ⟨vs, h1, h2⟩ := h; exact ⟨vs, e.trans h1, h2.fr f⟩
  | dK ws => obtain ⟨vs, h1, h3, h2⟩ := h; exact ⟨vs, e.trans h1, h3, h2.fr f⟩
  | dT ws => obtain ⟨vs, h1, h3, h2⟩ := h; exact ⟨vs, e.trans h1, h3, h2.fr f⟩
  | ins C dx fs => obtain ⟨vs, h1, h3, h2⟩ := h; exact ⟨vs, e.trans h1, h3, h2.fr f⟩
theorem RepOb.there {a : Addr} {o : Ob} (h : RepOb K Z S H a o) : ∃ u, H a = some u := by
  cases o with
  | lst ws => obtain ⟨vs, h1, h2⟩ := h; exact ⟨_, h1⟩
  | dK ws => obtain ⟨vs, h1, h3, h2⟩ := h; exact ⟨_, h1⟩
  | dT ws => obtain ⟨vs, h1, h3, h2⟩ := h; exact ⟨_, h1⟩
  | ins C dx fs => obtain ⟨vs, h1, h3, h2⟩ := h; exact ⟨_, h1⟩
theorem StOk.free (ok : StOk K Z S H) {p : Addr} (h : H p = none) : S p = none := by
  cases e : S p with
  | none => rfl
  | some o => obtain ⟨u, hu⟩ := (ok.ob p o e).there; rw [h] at hu; cases hu
theorem StOk.notZ (ok : StOk K Z S H) {p : Addr} (h : H p = none) : p ∉ Z := fun z => by
  obtain ⟨_, u, e, _⟩ := ok.hid p z
  rw [h] at e; cases e
/-- a new object, not owned -/
theorem StOk.new (ok : StOk K Z S H) {p : Addr} {o : HO} (h : H p = none) : StOk K Z S (upd H p o) where
  ob := fun a u e => (ok.ob a u e).fr (Fr.new h) (upd_ne (fun z => by subst z; rw [ok.free h] at e; cases e))
  hid := fun a z => by
    obtain ⟨n, u, e, p⟩ := ok.hid a z
    exact ⟨n, u, by rw [upd_ne (ne_of_none e h)]; exact e, p⟩
/-- a new object, owned -/
theorem StOk.own (ok : StOk K Z S H) {p : Addr} {o : HO} {u : Ob} (h : H p = none) (r : RepOb K Z (S.set p u) (upd H p o) p u) : StOk K Z (S.set p u) (upd H p o) where
  ob := fun a x e => by
    by_cases np : a = p
    · subst np; rw [Sto.set_same] at e; cases e; exact r
    · rw [Sto.set_ne np] at e
      exact (ok.ob a x e).fr (Fr.own h) (upd_ne np)
  hid := fun a z => by
    obtain ⟨n, u, e, p⟩ := ok.hid a z
    have np := ne_of_none e h
    exact ⟨by rw [Sto.set_ne np]; exact n, u, by rw [upd_ne np]; exact e, p⟩
/-- an owned object is written -/
theorem StOk.wr (ok : StOk K Z S H) {p : Addr} {o : HO} {u u' : Ob} (h : S p = some u') (r : RepOb K Z (S.set p u) (upd H p o) p u) : StOk K Z (S.set p u) (upd H p o) where
  ob := fun a x e => by
    by_cases np : a = p
    · subst np; rw [Sto.set_same] at e; cases e; exact r
    · rw [Sto.set_ne np] at e
      exact (ok.ob a x e).fr (Fr.wr h) (upd_ne np)
  hid := fun a z => by
    obtain ⟨n, x, e, q⟩ := ok.hid a z
    have np : a ≠ p := fun q => by subst q; rw [h] at n; cases n
    exact ⟨by rw [Sto.set_ne np]; exact n, x, by rw [upd_ne np]; exact e, q⟩
/-! what is hidden may change, nobody sees it -/
mutual
theorem Rep.hid {D : Addr} {l l' : List V} (hD : D ∈ Z) (hl : H D = some (.lst l)) : ∀ {w : Cv} {v : V}, Rep K Z S H w v → Rep K Z S (upd H D (.lst l')) w v
  | _, _, .non => .non
  | _, _, .bl b => .bl b
  | _, _, .int i => .int i
  | _, _, .str x => .str x
  | _, _, .tup h n r => .tup (by
      rcases h with h | ⟨o, h⟩
      · exact .inl (by rw [upd_ne (ne_of h hl (by intro z; cases z))]; exact h)
      · exact .inr ⟨o, by rw [upd_ne (ne_of h hl (by intro z; cases z))]; exact h⟩) n (Reps.hid hD hl r)
  | _, _, .tupK h r => .tupK h (Reps.hid hD hl r)
  | _, _, .lst h n z r => .lst (by rw [upd_ne (fun q => z (by rw [q]; exact hD))]; exact h) n z (Reps.hid hD hl r)
  | _, _, .scr h n r => .scr (by rw [upd_ne (ne_of h hl (by intro z; cases z))]; exact h) n (Reps.hid hD hl r)
  | _, _, .tupF h n r d => .tupF (by rw [upd_ne (ne_of h hl (by intro z; cases z))]; exact h) n (Reps.hid hD hl r) d
  | _, _, .scrK h r => .scrK h (Reps.hid hD hl r)
  | _, _, .dK h n z e r => .dK (by rw [upd_ne (fun q => z (by rw [q]; exact hD))]; exact h) n z e (Reps.hid hD hl r)
  | _, _, .dT h n z e r => .dT (by rw [upd_ne (fun q => z (by rw [q]; exact hD))]; exact h) n z e (Reps.hid hD hl r)
  | _, _, .ref a => .ref a
  | _, _, .opq v => .opq v
theorem Reps.hid {D : Addr} {l l' : List V} (hD : D ∈ Z) (hl : H D = some (.lst l)) : ∀ {ws : List Cv} {vs : List V}, Reps K Z S H ws vs → Reps K Z S (upd H D (.lst l')) ws vs
  | _, _, .nil => .nil
  | _, _, .cons a r => .cons (Rep.hid hD hl a) (Reps.hid hD hl r)
end
theorem RepOb.hid {D a : Addr} {l l' : List V} {o : Ob} (hD : D ∈ Z) (hl : H D = some (.lst l)) (na : a ≠ D) (h : RepOb K Z S H a o) : RepOb K Z S (upd H D (.lst l')) a o := by
  cases o with
  | lst ws => obtain ⟨vs, h1, h2⟩ := h; exact ⟨vs, by rw [upd_ne na]; exact h1, h2.hid hD hl⟩
  | dK ws => obtain ⟨vs, h1, h3, h2⟩ := h; exact ⟨vs, by rw [upd_ne na]; exact h1, h3, h2.hid hD hl⟩
  | dT ws => obtain ⟨vs, h1, h3, h2⟩ := h; exact ⟨vs, by rw [upd_ne na]; exact h1, h3, h2.hid hD hl⟩
  | ins C dx fs => obtain ⟨vs, h1, h3, h2⟩ := h; exact ⟨vs, by rw [upd_ne na]; exact h1, h3, h2.hid hD hl⟩
theorem StOk.chg {D : Addr} {l l' : List V} (hD : D ∈ Z) (hl : H D = some (.lst l)) (ok : StOk K Z S H) : StOk K Z S (upd H D (.lst l')) where
  ob := fun a o e => (ok.ob a o e).hid hD hl (fun q => by subst q; rw [(ok.hid _ hD).1] at e; cases e)
  hid := fun a z => by
    by_cases q : a = D
    · subst q; exact ⟨(ok.hid _ z).1, _, upd_same, rfl⟩
    · rw [upd_ne q]; exact ok.hid a z
/-! less is hidden -/
mutual
theorem Rep.sub {Z' : List Addr} (hz : ∀ a, a ∈ Z' → a ∈ Z) : ∀ {w : Cv} {v : V}, Rep K Z S H w v → Rep K Z' S H w v
  | _, _, .non => .non
  | _, _, .bl b => .bl b
  | _, _, .int i => .int i
  | _, _, .str x => .str x
  | _, _, .tup h n r => .tup h n (Reps.sub hz r)
  | _, _, .tupK h r => .tupK h (Reps.sub hz r)
  | _, _, .lst h n z r => .lst h n (fun q => z (hz _ q)) (Reps.sub hz r)
  | _, _, .scr h n r => .scr h n (Reps.sub hz r)
  | _, _, .tupF h n r d => .tupF h n (Reps.sub hz r) d
  | _, _, .scrK h r => .scrK h (Reps.sub hz r)
  | _, _, .dK h n z e r => .dK h n (fun q => z (hz _ q)) e (Reps.sub hz r)
  | _, _, .dT h n z e r => .dT h n (fun q => z (hz _ q)) e (Reps.sub hz r)
  | _, _, .ref a => .ref a
  | _, _, .opq v => .opq v
theorem Reps.sub {Z' : List Addr} (hz : ∀ a, a ∈ Z' → a ∈ Z) : ∀ {ws : List Cv} {vs : List V}, Reps K Z S H ws vs → Reps K Z' S H ws vs
  | _, _, .nil => .nil
  | _, _, .cons a r => .cons (Rep.sub hz a) (Reps.sub hz r)
end
theorem RepOb.sub {Z' : List Addr} (hz : ∀ a, a ∈ Z' → a ∈ Z) {a : Addr} {o : Ob} (h : RepOb K Z S H a o) : RepOb K Z' S H a o := by
  cases o with
  | lst ws => obtain ⟨vs, h1, h2⟩ := h; exact ⟨vs, h1, h2.sub hz⟩
  | dK ws => obtain ⟨vs, h1, h3, h2⟩ := h; exact ⟨vs, h1, h3, h2.sub hz⟩
  | dT ws => obtain ⟨vs, h1, h3, h2⟩ := h; exact ⟨vs, h1, h3, h2.sub hz⟩
  | ins C dx fs => obtain ⟨vs, h1, h3, h2⟩ := h; exact ⟨vs, h1, h3, h2.sub hz⟩
theorem StOk.sub {Z' : List Addr} (hz : ∀ a, a ∈ Z' → a ∈ Z) (ok : StOk K Z S H) : StOk K Z' S H :=
  ⟨fun a o e => (ok.ob a o e).sub hz, fun a z => ok.hid a (hz a z)⟩
/-! a new list, to be filled unseen -/
mutual
theorem Rep.more {D : Addr} (hD : H D = none) : ∀ {w : Cv} {v : V}, Rep K Z S H w v → Rep K (D :: Z) S H w v
  | _, _, .non => .non
  | _, _, .bl b => .bl b
  | _, _, .int i => .int i
  | _, _, .str x => .str x
  | _, _, .tup h n r => .tup h n (Reps.more hD r)
  | _, _, .tupK h r => .tupK h (Reps.more hD r)
  | _, _, .lst h n z r => .lst h n (fun q => (List.mem_cons.mp q).elim (ne_of_none h hD) z) (Reps.more hD r)
  | _, _, .scr h n r => .scr h n (Reps.more hD r)
  | _, _, .tupF h n r d => .tupF h n (Reps.more hD r) d
  | _, _, .scrK h r => .scrK h (Reps.more hD r)
  | _, _, .dK h n z e r => .dK h n (fun q => (List.mem_cons.mp q).elim (ne_of_none h hD) z) e (Reps.more hD r)
  | _, _, .dT h n z e r => .dT h n (fun q => (List.mem_cons.mp q).elim (ne_of_none h hD) z) e (Reps.more hD r)
  | _, _, .ref a => .ref a
  | _, _, .opq v => .opq v
theorem Reps.more {D : Addr} (hD : H D = none) : ∀ {ws : List Cv} {vs : List V}, Reps K Z S H ws vs → Reps K (D :: Z) S H ws vs
  | _, _, .nil => .nil
  | _, _, .cons a r => .cons (Rep.more hD a) (Reps.more hD r)
end
theorem Rep.newD {D : Addr} (hD : H D = none) {o : HO} {w : Cv} {v : V} (r : Rep K Z S H w v) : Rep K (D :: Z) S (upd H D o) w v := (r.more hD).fr (Fr.new hD)
theorem Reps.newD {D : Addr} (hD : H D = none) {o : HO} {w : List Cv} {v : List V} (r : Reps K Z S H w v) : Reps K (D :: Z) S (upd H D o) w v := (r.more hD).fr (Fr.new hD)
theorem RepOb.more {D a : Addr} (hD : H D = none) {o : Ob} (h : RepOb K Z S H a o) : RepOb K (D :: Z) S H a o := by
  cases o with
  | lst ws => obtain ⟨vs, h1, h2⟩ := h; exact ⟨vs, h1, h2.more hD⟩
  | dK ws => obtain ⟨vs, h1, h3, h2⟩ := h; exact ⟨vs, h1, h3, h2.more hD⟩
  | dT ws => obtain ⟨vs, h1, h3, h2⟩ := h; exact ⟨vs, h1, h3, h2.more hD⟩
  | ins C dx fs => obtain ⟨vs, h1, h3, h2⟩ := h; exact ⟨vs, h1, h3, h2.more hD⟩
theorem StOk.newD {D : Addr} (hD : H D = none) {o : HO} (ok : StOk K Z S H) (po : plainO o = true := by rfl) : StOk K (D :: Z) S (upd H D o) where
  ob := fun a u e => ((ok.ob a u e).more hD).fr (Fr.new hD) (upd_ne (fun z => by subst z; rw [ok.free hD] at e; cases e))
  hid := fun a z => by
    rcases List.mem_cons.mp z with q | z
    · subst q; exact ⟨ok.free hD, _, upd_same, po⟩
    · obtain ⟨n, u, e, p⟩ := ok.hid a z
      exact ⟨n, u, by rw [upd_ne (ne_of_none e hD)]; exact e, p⟩
/-! what was hidden becomes an owned list -/
mutual
theorem Rep.toOwn {D : Addr} {l : List V} {o : Ob} {Z' : List Addr} (hD : D ∈ Z) (hl : H D = some (.lst l)) (hz : ∀ a, a ∈ Z' → a ∈ Z) : ∀ {w : Cv} {v : V}, Rep K Z S H w v → Rep K Z' (S.set D o) H w v
  | _, _, .non => .non
  | _, _, .bl b => .bl b
  | _, _, .int i => .int i
  | _, _, .str x => .str x
  | _, _, .tup h n r => .tup h (by
      rw [Sto.set_ne]
      · exact n
      · intro e
        subst e
        rcases h with h | ⟨o, h⟩ <;> (rw [hl] at h; cases h)) (Reps.toOwn hD hl hz r)
  | _, _, .tupK h r => .tupK h (Reps.toOwn hD hl hz r)
  | _, _, .lst h n z r => .lst h (by rw [Sto.set_ne (fun q => z (by rw [q]; exact hD))]; exact n) (fun q => z (hz _ q)) (Reps.toOwn hD hl hz r)
  | _, _, .scr h n r => .scr h (by
      rw [Sto.set_ne]
      · exact n
      · intro e
        subst e
        rw [hl] at h; cases h) (Reps.toOwn hD hl hz r)
  | _, _, .tupF h n r d => .tupF h (by
      rw [Sto.set_ne]
      · exact n
      · intro e
        subst e
        rw [hl] at h; cases h) (Reps.toOwn hD hl hz r) d
  | _, _, .scrK h r => .scrK h (Reps.toOwn hD hl hz r)
  | _, _, .dK h n z e r => .dK h (by rw [Sto.set_ne (fun q => z (by rw [q]; exact hD))]; exact n) (fun q => z (hz _ q)) e (Reps.toOwn hD hl hz r)
  | _, _, .dT h n z e r => .dT h (by rw [Sto.set_ne (fun q => z (by rw [q]; exact hD))]; exact n) (fun q => z (hz _ q)) e (Reps.toOwn hD hl hz r)
  | _, _, .ref a => .ref a
  | _, _, .opq v => .opq v
theorem Reps.toOwn {D : Addr} {l : List V} {o : Ob} {Z' : List Addr} (hD : D ∈ Z) (hl : H D = some (.lst l)) (hz : ∀ a, a ∈ Z' → a ∈ Z) : ∀ {ws : List Cv} {vs : List V}, Reps K Z S H ws vs → Reps K Z' (S.set D o) H ws vs
  | _, _, .nil => .nil
  | _, _, .cons a r => .cons (Rep.toOwn hD hl hz a) (Reps.toOwn hD hl hz r)
end
theorem RepOb.toOwn {D a : Addr} {l : List V} {o u : Ob} {Z' : List Addr} (hD : D ∈ Z) (hl : H D = some (.lst l)) (hz : ∀ a, a ∈ Z' → a ∈ Z) (h : RepOb K Z S H a u) : RepOb K Z' (S.set D o) H a u := by
  cases u with
  | lst ws => obtain ⟨vs, h1, h2⟩ := h; exact ⟨vs, h1, h2.toOwn hD hl hz⟩
  | dK ws => obtain ⟨vs, h1, h3, h2⟩ := h; exact ⟨vs, h1, h3, h2.toOwn hD hl hz⟩
  | dT ws => obtain ⟨vs, h1, h3, h2⟩ := h; exact ⟨vs, h1, h3, h2.toOwn hD hl hz⟩
  | ins C dx fs => obtain ⟨vs, h1, h3, h2⟩ := h; exact ⟨vs, h1, h3, h2.toOwn hD hl hz⟩
theorem StOk.toOwn {D : Addr} {l : List V} {ws : List Cv} (nZ : D ∉ Z) (ok : StOk K (D :: Z) S H) (hl : H D = some (.lst l)) (r : Reps K (D :: Z) S H ws l) : StOk K Z (S.set D (.lst ws)) H where
  ob := fun a u e => by
    by_cases q : a = D
    · subst q
      rw [Sto.set_same] at e
      cases e
      exact ⟨l, hl, r.toOwn List.mem_cons_self hl fun _ z => List.mem_cons_of_mem _ z⟩
    · rw [Sto.set_ne q] at e
      exact (ok.ob a u e).toOwn List.mem_cons_self hl fun _ z => List.mem_cons_of_mem _ z
  hid := fun a z => by
    obtain ⟨n, u⟩ := ok.hid a (List.mem_cons_of_mem _ z)
    exact ⟨by rw [Sto.set_ne (fun q => nZ (by rw [← q]; exact z))]; exact n, u⟩
end

/-! ### the slots -/
abbrev Env := List (Option Cv)
def RepSt (K : Fg) (Z : List Addr) (S : Sto) (H : Hp) (σ : L2.St) (ws : CL.Env) : Prop := σ.length = ws.length ∧ ∀ (i : Nat) (w : Cv), ws[i]? = some (some w) → ∃ v, σ[i]? = some (some v) ∧ Rep K Z S H w v
theorem RepSt.fr {K : Fg} {Z : List Addr} {S S' : Sto} {H H' : Hp} {σ : L2.St} {ws : CL.Env} (h : RepSt K Z S H σ ws) (f : Fr S H S' H') : RepSt K Z S' H' σ ws :=
  ⟨h.1, fun i w e => let ⟨v, h1, h2⟩ := h.2 i w e; ⟨v, h1, h2.fr f⟩⟩
theorem RepSt.set {K : Fg} {Z : List Addr} {S : Sto} {H : Hp} {σ : L2.St} {ws : CL.Env} {i : Nat} {w : Cv} {v : V} (h : RepSt K Z S H σ ws) (r : Rep K Z S H w v) : RepSt K Z S H (σ.set i (some v)) (ws.set i (some w)) := by
  refine ⟨by rw [List.length_set, List.length_set]; exact h.1, fun j u e => ?_⟩
  by_cases hj : i = j
  · subst hj
    have hl : i < ws.length := by
      have := (List.getElem?_eq_some_iff.mp e).1
      rwa [List.length_set] at this
    rw [List.getElem?_set_self hl] at e
    cases e
    exact ⟨v, by rw [List.getElem?_set_self (by rw [h.1]; exact hl)], r⟩
  · rw [List.getElem?_set_ne hj] at e
    obtain ⟨x, h1, h2⟩ := h.2 j u e
    exact ⟨x, by rw [List.getElem?_set_ne hj]; exact h1, h2⟩

/-! ### clean readings -/
abbrev CE := CL.Env → Sto → (Cv → Sto → Prop) → Prop
abbrev CT := CL.Env → Sto → (Bool → Sto → Prop) → Prop
abbrev CA := CL.Env → Sto → (List Cv → Sto → Prop) → Prop
def MonE (t : CE) : Prop := ∀ ws S (Q Q' : Cv → Sto → Prop), (∀ w S', Q w S' → Q' w S') → t ws S Q → t ws S Q'
def MonT (t : CT) : Prop := ∀ ws S (Q Q' : Bool → Sto → Prop), (∀ w S', Q w S' → Q' w S') → t ws S Q → t ws S Q'
def MonA (t : CA) : Prop := ∀ ws S (Q Q' : List Cv → Sto → Prop), (∀ w S', Q w S' → Q' w S') → t ws S Q → t ws S Q'

def liftE (K : Fg) (t : CE) : TE := fun σ H Q => ∃ Z S ws, StOk K Z S H ∧ RepSt K Z S H σ ws ∧ t ws S fun w S' => ∀ v H', Fr S H S' H' → StOk K Z S' H' → Rep K Z S' H' w v → Q v H'
def liftT (K : Fg) (t : CT) : TT := fun σ H Q => ∃ Z S ws, StOk K Z S H ∧ RepSt K Z S H σ ws ∧ t ws S fun b S' => ∀ H', Fr S H S' H' → StOk K Z S' H' → Q b H'
def liftA (K : Fg) (t : CA) : TA := fun σ H Q => ∃ Z S ws, StOk K Z S H ∧ RepSt K Z S H σ ws ∧ t ws S fun us S' => ∀ vs H', Fr S H S' H' → StOk K Z S' H' → Reps K Z S' H' us vs → Q vs H'

structure SE (X : Cx) (e : Expr) (t : CE) : Prop where
  mono : MonE t
  ok : PE X e (liftE X.K t)
structure ST (X : Cx) (e : Expr) (t : CT) : Prop where
  mono : MonT t
  ok : PT X e (liftT X.K t)
structure SW (X : Cx) (e : Expr) (t : CT) : Prop where
  mono : MonT t
  ok : PW X e (liftT X.K t)
structure SA (X : Cx) (es : List Expr) (t : CA) : Prop where
  mono : MonA t
  ok : PA X es (liftA X.K t)

theorem _root_.L2.PE.imp {X : Cx} {e : Expr} {t t' : TE} (h : PE X e t) (f : ∀ σ H Q, t' σ H Q → t σ H Q) : PE X e t' := ⟨fun pins s σ H Q I q => h.run pins s σ H Q I (f σ H Q q)⟩
theorem _root_.L2.PT.imp {X : Cx} {e : Expr} {t t' : TT} (h : PT X e t) (f : ∀ σ H Q, t' σ H Q → t σ H Q) : PT X e t' := ⟨fun pins s σ H Q I q => h.run pins s σ H Q I (f σ H Q q)⟩
theorem _root_.L2.PW.imp {X : Cx} {e : Expr} {t t' : TT} (h : PW X e t) (f : ∀ σ H Q, t' σ H Q → t σ H Q) : PW X e t' := ⟨fun wh pins s σ H Q I q => h.run wh pins s σ H Q I (f σ H Q q)⟩
theorem _root_.L2.PA.imp {X : Cx} {es : List Expr} {t t' : TA} (h : PA X es t) (f : ∀ σ H Q, t' σ H Q → t σ H Q) : PA X es t' := ⟨fun pos pins s σ H Q I q => h.run pos pins s σ H Q I (f σ H Q q)⟩
theorem _root_.L2.PS.imp {X : Cx} {st : Stmt} {t t' : TS} (h : PS X st t) (f : ∀ D σ H, t' D σ H → t D σ H) : PS X st t' := ⟨fun pins s σ H D I q => h.run pins s σ H D I (f D σ H q)⟩
theorem _root_.L2.PSs.imp {X : Cx} {st : List Stmt} {t t' : TS} (h : PSs X st t) (f : ∀ D σ H, t' D σ H → t D σ H) : PSs X st t' := ⟨fun pins s σ H D I q => h.run pins s σ H D I (f D σ H q)⟩

section
variable {K : Fg} {Z : List Addr} {S : Sto} {H : Hp} {σ : L2.St} {ws : CL.Env}
theorem liftE_of {t : CE} {R : Cv → Sto → Prop} {Q : VK} (m : MonE t) (ok : StOk K Z S H) (re : RepSt K Z S H σ ws) (h : t ws S R)
    (f : ∀ w S' v H', Fr S H S' H' → StOk K Z S' H' → Rep K Z S' H' w v → R w S' → Q v H') : liftE K t σ H Q :=
  ⟨Z, S, ws, ok, re, m ws S _ _ (fun w S' r v H' a b c => f w S' v H' a b c r) h⟩
theorem liftT_of {t : CT} {R : Bool → Sto → Prop} {Q : Bool → Hp → Prop} (m : MonT t) (ok : StOk K Z S H) (re : RepSt K Z S H σ ws) (h : t ws S R)
    (f : ∀ b S' H', Fr S H S' H' → StOk K Z S' H' → R b S' → Q b H') : liftT K t σ H Q :=
  ⟨Z, S, ws, ok, re, m ws S _ _ (fun b S' r H' a c => f b S' H' a c r) h⟩
theorem liftA_of {t : CA} {R : List Cv → Sto → Prop} {Q : List V → Hp → Prop} (m : MonA t) (ok : StOk K Z S H) (re : RepSt K Z S H σ ws) (h : t ws S R)
    (f : ∀ us S' vs H', Fr S H S' H' → StOk K Z S' H' → Reps K Z S' H' us vs → R us S' → Q vs H') : liftA K t σ H Q :=
  ⟨Z, S, ws, ok, re, m ws S _ _ (fun us S' r vs H' a b c => f us S' vs H' a b c r) h⟩
end

/-! ### names, constants -/
def cVar (i : Nat) : CE := fun ws S Q => match ws[i]? with | some (some w) => Q w S | _ => False
def cC (w : Cv) : CE := fun _ S Q => Q w S
theorem s_var {X : Cx} {e : Expr} {i : Nat} (h : PE X e (tVar i)) : SE X e (cVar i) := by
  refine ⟨fun ws S Q Q' f h => ?_, h.imp fun σ H Q h => ?_⟩
  · unfold cVar at h ⊢
    split at h <;> first | exact f _ _ h | exact h
  · obtain ⟨Z, S, ws, ok, re, h⟩ := h
    unfold cVar at h
    split at h
    · rename_i w e1
      obtain ⟨v, h1, h2⟩ := re.2 i w e1
      exact ⟨v, h1, h v H (Fr.refl S H) ok h2⟩
    · exact h.elim
theorem s_const {X : Cx} {e : Expr} {v : V} {w : Cv} (h : PE X e (tC v)) (r : ∀ K Z S H, Rep K Z S H w v) : SE X e (cC w) := by
  refine ⟨fun ws S Q Q' f h => f _ _ h, h.imp fun σ H Q h => ?_⟩
  obtain ⟨Z, S, ws, ok, re, h⟩ := h
  exact h v H (Fr.refl S H) ok (r _ _ _ _)
section
variable {X : Cx}
theorem s_int {i j pos} : SE X (.Constant (.int i) j pos) (cC (.int i)) := s_const pe_int fun _ _ _ _ => .int i
theorem s_bl {b j pos} : SE X (.Constant (.bool b) j pos) (cC (.bl b)) := s_const pe_bl fun _ _ _ _ => .bl b
theorem s_non {j pos} : SE X (.Constant .none j pos) (cC .non) := s_const pe_non fun _ _ _ _ => .non
theorem s_str {x j pos} : SE X (.Constant (.str x) j pos) (cC (.str x)) := s_const pe_str fun _ _ _ _ => .str x
theorem sv (i : Nat) {x : Str} {pos : Pos} (hN : X.N[i]? = some x := by rfl) (hv : Vis X.env.scope x := by first | exact Or.inl rfl | exact Or.inr (Or.inl rfl) | exact Or.inr (Or.inr rfl))
    (hd : (x == ("__debug__" : Str)) = false := by decide) (hcd : (x == ("__classdict__" : Str)) = false := by decide) : SE X (.Name x pos) (cVar i) := s_var (pe_var hN hv hd hcd)
theorem s_gint {x : Str} {i : Int} {t : Tok} {pos : Pos} (hg : Gl X x) (hm : X.mg x = some (.int i t)) (hd : (x == ("__debug__" : Str)) = false := by decide) : SE X (.Name x pos) (cC (.int i)) := s_const (pe_glob (v := .int i) hg hm ⟨t, rfl⟩ hd) fun _ _ _ _ => .int i
theorem s_gstr {x z : Str} {t : Tok} {pos : Pos} (hg : Gl X x) (hm : X.mg x = some (.str z t)) (hd : (x == ("__debug__" : Str)) = false := by decide) : SE X (.Name x pos) (cC (.str z)) := s_const (pe_glob (v := .str z) hg hm ⟨t, rfl⟩ hd) fun _ _ _ _ => .str z
end

/-! ### operations on two values -/
abbrev C2 := Cv → Cv → Sto → (Cv → Sto → Prop) → Prop
def Mon2 (r : C2) : Prop := ∀ a b S (Q Q' : Cv → Sto → Prop), (∀ w S', Q w S' → Q' w S') → r a b S Q → r a b S Q'
def lift2 (K : Fg) (r : C2) : R2 := fun x y H Q => ∃ Z S a b, StOk K Z S H ∧ Rep K Z S H a x ∧ Rep K Z S H b y ∧ r a b S fun w S' => ∀ v H', Fr S H S' H' → StOk K Z S' H' → Rep K Z S' H' w v → Q v H'
structure S2 (X : Cx) (f : Value → Value → Sem Value) (r : C2) : Prop where
  mono : Mon2 r
  ok : OpR X f (lift2 X.K r)
def cOp (r : C2) (ta tb : CE) : CE := fun ws S Q => ta ws S fun a S1 => tb ws S1 fun b S2 => r a b S2 Q
section
variable {X : Cx} {a b : Expr} {ta tb : CE} {pos : Pos}
theorem cOp_mono {r : C2} (hr : Mon2 r) (ha : MonE ta) (hb : MonE tb) : MonE (cOp r ta tb) := fun ws S Q Q' f h =>
  ha _ _ _ _ (fun x S1 h1 => hb _ _ _ _ (fun y S2 h2 => hr _ _ _ _ _ f h2) h1) h
theorem cOp_ok {K : Fg} {r : C2} (hr : Mon2 r) (ha : MonE ta) (hb : MonE tb) {σ : L2.St} {H : Hp} {Q : VK} (h : liftE K (cOp r ta tb) σ H Q) : tOp (lift2 K r) (liftE K ta) (liftE K tb) σ H Q := by
  obtain ⟨Z, S, ws, ok, re, h⟩ := h
  refine liftE_of ha ok re h fun x S1 v1 H1 f1 ok1 r1 h1 => ?_
  refine liftE_of hb ok1 (re.fr f1) h1 fun y S2 v2 H2 f2 ok2 r2 h2 => ?_
  exact ⟨Z, S2, x, y, ok2, r1.fr f2, r2, hr _ _ _ _ _ (fun w S' g v H' a b c => g v H' ((f1.trans f2).trans a) b c) h2⟩
theorem s_op {op : Operator} {r : C2} (ho : S2 X (binaryOp op) r) (ha : SE X a ta) (hb : SE X b tb) : SE X (.BinOp a op b pos) (cOp r ta tb) :=
  ⟨cOp_mono ho.mono ha.mono hb.mono, (pe_op ho.ok ha.ok hb.ok).imp fun _ _ _ h => cOp_ok ho.mono ha.mono hb.mono h⟩
theorem s_cmp {op : CmpOp} {r : C2} (ho : S2 X (compareOp op) r) (ha : SE X a ta) (hb : SE X b tb) (hm : behindInMarks op b = false := by first | exact nomark _ | rfl) : SE X (.Compare a [op] [b] pos) (cOp r ta tb) :=
  ⟨cOp_mono ho.mono ha.mono hb.mono, (pe_cmpR ho.ok ha.ok hb.ok hm).imp fun _ _ _ h => cOp_ok ho.mono ha.mono hb.mono h⟩
/-- a value that is a bool, as a test -/
def cB (t : CE) : CT := fun ws S Q => t ws S fun w S' => match w with | .bl b => Q b S' | _ => False
theorem cB_mono {t : CE} (h : MonE t) : MonT (cB t) := fun ws S Q Q' f h1 => h _ _ _ _ (fun w S' g => by
  cases w <;> first | exact f _ _ g | exact g) h1
theorem cB_ok {K : Fg} {t : CE} (m : MonE t) {σ : L2.St} {H : Hp} {Q : Bool → Hp → Prop} (h : liftT K (cB t) σ H Q) : liftE K t σ H fun x H' => ∃ k, x = .bl k ∧ Q k H' := by
  obtain ⟨Z, S, ws, ok, re, h⟩ := h
  refine liftE_of m ok re h fun w S1 v1 H1 f1 ok1 r1 h1 => ?_
  cases w with
  | bl c => cases r1; exact ⟨c, rfl, h1 H1 f1 ok1⟩
  | _ => exact h1.elim
theorem st_cmp {op : CmpOp} {r : C2} (ho : S2 X (compareOp op) r) (ha : SE X a ta) (hb : SE X b tb) (hm : behindInMarks op b = false := by first | exact nomark _ | rfl) : ST X (.Compare a [op] [b] pos) (cB (cOp r ta tb)) :=
  ⟨cB_mono (cOp_mono ho.mono ha.mono hb.mono), (pt_cmpR ho.ok ha.ok hb.ok hm).imp fun σ H Q h => by
    obtain ⟨Z, S, ws, ok, re, h⟩ := h
    refine cOp_ok ho.mono ha.mono hb.mono ?_
    exact cB_ok (cOp_mono ho.mono ha.mono hb.mono) ⟨Z, S, ws, ok, re, h⟩⟩
/-- any expression whose value is a bool, as a test -/
theorem st_val {e : Expr} {t : CE} (h : SE X e t) (he : ∀ whole, isTrue e X.env whole = (do let v ← whole; standAt e.pos; holding [v] (truthy v)) := by intro _; rfl) : ST X e (cB t) :=
  ⟨cB_mono h.mono, (pt_val h.ok he).imp fun _ _ _ q => cB_ok h.mono q⟩
end

/-! ### one value -/
abbrev C1 := Cv → Sto → (Cv → Sto → Prop) → Prop
def Mon1 (r : C1) : Prop := ∀ a S (Q Q' : Cv → Sto → Prop), (∀ w S', Q w S' → Q' w S') → r a S Q → r a S Q'
def cUn (r : C1) (ta : CE) : CE := fun ws S Q => ta ws S fun a S1 => r a S1 Q
def lift1 (K : Fg) (r : C1) : V → Hp → VK → Prop := fun x H Q => ∃ Z S a, StOk K Z S H ∧ Rep K Z S H a x ∧ r a S fun w S' => ∀ v H', Fr S H S' H' → StOk K Z S' H' → Rep K Z S' H' w v → Q v H'
structure S1 (X : Cx) (f : Value → Sem Value) (r : C1) : Prop where
  mono : Mon1 r
  ok : UnR X f (lift1 X.K r)
theorem s_un {X : Cx} {op : UnaryOp} {a : Expr} {ta : CE} {r : C1} {pos : Pos} (ho : S1 X (unaryOp op) r) (ha : SE X a ta) : SE X (.UnaryOp op a pos) (cUn r ta) := by
  refine ⟨fun ws S Q Q' f h => ha.mono _ _ _ _ (fun x S1 h1 => ho.mono _ _ _ _ f h1) h, (pe_un ho.ok ha.ok).imp fun σ H Q h => ?_⟩
  obtain ⟨Z, S, ws, ok, re, h⟩ := h
  refine liftE_of ha.mono ok re h fun x S1 v1 H1 f1 ok1 r1 h1 => ?_
  exact ⟨Z, S1, x, ok1, r1, ho.mono _ _ _ _ (fun w S' g v H' a b c => g v H' (f1.trans a) b c) h1⟩

/-! ### and, or, not, if-else -/
section
variable {X : Cx} {a b c : Expr} {ta tb : CE} {tA tB : CT} {pos : Pos} {rest : List Expr}
def cAnd (t u : CT) : CT := fun ws S Q => t ws S fun b S1 => if b = true then u ws S1 Q else Q false S1
def cOr (t u : CT) : CT := fun ws S Q => t ws S fun b S1 => if b = true then Q true S1 else u ws S1 Q
def cNot (t : CT) : CT := fun ws S Q => t ws S fun b S1 => Q (!b) S1
theorem cAnd_mono {t u : CT} (ht : MonT t) (hu : MonT u) : MonT (cAnd t u) := fun ws S Q Q' f h => ht _ _ _ _ (fun b S1 h1 => by
  cases b with
  | true => exact hu _ _ _ _ f h1
  | false => exact f _ _ h1) h
theorem cOr_mono {t u : CT} (ht : MonT t) (hu : MonT u) : MonT (cOr t u) := fun ws S Q Q' f h => ht _ _ _ _ (fun b S1 h1 => by
  cases b with
  | false => exact hu _ _ _ _ f h1
  | true => exact f _ _ h1) h
theorem sw_and1 (ha : ST X a tA) : SW X (.BoolOp .And [a] pos) tA := ⟨ha.mono, pw_and1 ha.ok⟩
theorem sw_or1 (ha : ST X a tA) : SW X (.BoolOp .Or [a] pos) tA := ⟨ha.mono, pw_or1 ha.ok⟩
theorem sw_and (ha : ST X a tA) (hb : SW X (.BoolOp .And (b :: rest) pos) tB) : SW X (.BoolOp .And (a :: b :: rest) pos) (cAnd tA tB) := by
  refine ⟨cAnd_mono ha.mono hb.mono, (pw_and ha.ok hb.ok).imp fun σ H Q h => ?_⟩
  obtain ⟨Z, S, ws, ok, re, h⟩ := h
  refine liftT_of ha.mono ok re h fun k S1 H1 f1 ok1 h1 => ?_
  cases k with
  | true => exact liftT_of hb.mono ok1 (re.fr f1) h1 fun k2 S2 H2 f2 ok2 h2 => h2 H2 (f1.trans f2) ok2
  | false => exact h1 H1 f1 ok1
theorem sw_or (ha : ST X a tA) (hb : SW X (.BoolOp .Or (b :: rest) pos) tB) : SW X (.BoolOp .Or (a :: b :: rest) pos) (cOr tA tB) := by
  refine ⟨cOr_mono ha.mono hb.mono, (pw_or ha.ok hb.ok).imp fun σ H Q h => ?_⟩
  obtain ⟨Z, S, ws, ok, re, h⟩ := h
  refine liftT_of ha.mono ok re h fun k S1 H1 f1 ok1 h1 => ?_
  cases k with
  | false => exact liftT_of hb.mono ok1 (re.fr f1) h1 fun k2 S2 H2 f2 ok2 h2 => h2 H2 (f1.trans f2) ok2
  | true => exact h1 H1 f1 ok1
theorem SW.st (h : SW X a tA) : ST X a tA := ⟨h.mono, h.ok.pt⟩
theorem st_not (ha : ST X a tA) : ST X (.UnaryOp .Not a pos) (cNot tA) := by
  refine ⟨fun ws S Q Q' f h => ha.mono _ _ _ _ (fun b S1 h1 => f _ _ h1) h, (pt_not ha.ok).imp fun σ H Q h => ?_⟩
  obtain ⟨Z, S, ws, ok, re, h⟩ := h
  exact liftT_of ha.mono ok re h fun k S1 H1 f1 ok1 h1 => h1 H1 f1 ok1
/-- as values (bools) -/
def cAndV (ta tb : CE) : CE := fun ws S Q => ta ws S fun w S1 => match w with | .bl true => tb ws S1 Q | .bl false => Q (.bl false) S1 | _ => False
def cOrV (ta tb : CE) : CE := fun ws S Q => ta ws S fun w S1 => match w with | .bl false => tb ws S1 Q | .bl true => Q (.bl true) S1 | _ => False
def cNotV (ta : CE) : CE := fun ws S Q => ta ws S fun w S1 => match w with | .bl b => Q (.bl (!b)) S1 | _ => False
theorem s_one {op} (h : SE X a ta) : SE X (.BoolOp op [a] pos) ta := ⟨h.mono, pe_one h.ok⟩
theorem s_and (ha : SE X a ta) (hb : SE X (.BoolOp .And (b :: rest) pos) tb) : SE X (.BoolOp .And (a :: b :: rest) pos) (cAndV ta tb) := by
  refine ⟨fun ws S Q Q' f h => ha.mono _ _ _ _ (fun w S1 h1 => ?_) h, (pe_and ha.ok hb.ok).imp fun σ H Q h => ?_⟩
  · cases w with
    | bl k => cases k with
      | true => exact hb.mono _ _ _ _ f h1
      | false => exact f _ _ h1
    | _ => exact h1
  · obtain ⟨Z, S, ws, ok, re, h⟩ := h
    refine liftE_of ha.mono ok re h fun w S1 v1 H1 f1 ok1 r1 h1 => ?_
    cases w with
    | bl k =>
      cases r1
      refine ⟨k, rfl, ?_⟩
      cases k with
      | true => exact liftE_of hb.mono ok1 (re.fr f1) h1 fun u S2 v2 H2 f2 ok2 r2 h2 => h2 v2 H2 (f1.trans f2) ok2 r2
      | false => exact h1 _ H1 f1 ok1 (.bl false)
    | _ => exact h1.elim
theorem s_or (ha : SE X a ta) (hb : SE X (.BoolOp .Or (b :: rest) pos) tb) : SE X (.BoolOp .Or (a :: b :: rest) pos) (cOrV ta tb) := by
  refine ⟨fun ws S Q Q' f h => ha.mono _ _ _ _ (fun w S1 h1 => ?_) h, (pe_or ha.ok hb.ok).imp fun σ H Q h => ?_⟩
  · cases w with
    | bl k => cases k with
      | false => exact hb.mono _ _ _ _ f h1
      | true => exact f _ _ h1
    | _ => exact h1
  · obtain ⟨Z, S, ws, ok, re, h⟩ := h
    refine liftE_of ha.mono ok re h fun w S1 v1 H1 f1 ok1 r1 h1 => ?_
    cases w with
    | bl k =>
      cases r1
      refine ⟨k, rfl, ?_⟩
      cases k with
      | false => exact liftE_of hb.mono ok1 (re.fr f1) h1 fun u S2 v2 H2 f2 ok2 r2 h2 => h2 v2 H2 (f1.trans f2) ok2 r2
      | true => exact h1 _ H1 f1 ok1 (.bl true)
    | _ => exact h1.elim
theorem s_not (ha : SE X a ta) : SE X (.UnaryOp .Not a pos) (cNotV ta) := by
  refine ⟨fun ws S Q Q' f h => ha.mono _ _ _ _ (fun w S1 h1 => ?_) h, (pe_not ha.ok).imp fun σ H Q h => ?_⟩
  · cases w with
    | bl k => exact f _ _ h1
    | _ => exact h1
  · obtain ⟨Z, S, ws, ok, re, h⟩ := h
    refine liftE_of ha.mono ok re h fun w S1 v1 H1 f1 ok1 r1 h1 => ?_
    cases w with
    | bl k => cases r1; exact ⟨k, rfl, h1 _ H1 f1 ok1 (.bl _)⟩
    | _ => exact h1.elim
def cIf (t : CT) (ta tb : CE) : CE := fun ws S Q => t ws S fun b S1 => if b = true then ta ws S1 Q else tb ws S1 Q
theorem s_ifExp (hc : ST X c tA) (ha : SE X a ta) (hb : SE X b tb) : SE X (.IfExp c a b pos) (cIf tA ta tb) := by
  refine ⟨fun ws S Q Q' f h => hc.mono _ _ _ _ (fun k S1 h1 => ?_) h, (pe_ifExp hc.ok ha.ok hb.ok).imp fun σ H Q h => ?_⟩
  · cases k with
    | true => exact ha.mono _ _ _ _ f h1
    | false => exact hb.mono _ _ _ _ f h1
  · obtain ⟨Z, S, ws, ok, re, h⟩ := h
    refine liftT_of hc.mono ok re h fun k S1 H1 f1 ok1 h1 => ?_
    cases k with
    | true => exact liftE_of ha.mono ok1 (re.fr f1) h1 fun u S2 v2 H2 f2 ok2 r2 h2 => h2 v2 H2 (f1.trans f2) ok2 r2
    | false => exact liftE_of hb.mono ok1 (re.fr f1) h1 fun u S2 v2 H2 f2 ok2 r2 h2 => h2 v2 H2 (f1.trans f2) ok2 r2
end

/-! ### argument lists, displays -/
def cNil : CA := fun _ S Q => Q [] S
def cCons (t : CE) (u : CA) : CA := fun ws S Q => t ws S fun w S1 => u ws S1 fun r S2 => Q (w :: r) S2
section
variable {X : Cx} {e : Expr} {es : List Expr} {t : CE} {u : CA} {pos : Pos}
theorem sa_nil : SA X [] cNil := by
  refine ⟨fun ws S Q Q' f h => f _ _ h, pa_nil.imp fun σ H Q h => ?_⟩
  obtain ⟨Z, S, ws, ok, re, h⟩ := h
  exact h [] H (Fr.refl S H) ok .nil
theorem sa_cons (he : SE X e t) (hr : SA X es u) (hs : starEach (e :: es) X.env = (false, eval e X.env) :: starEach es X.env := by rfl) : SA X (e :: es) (cCons t u) := by
  refine ⟨fun ws S Q Q' f h => he.mono _ _ _ _ (fun w S1 h1 => hr.mono _ _ _ _ (fun r S2 h2 => f _ _ h2) h1) h, (pa_cons he.ok hr.ok hs).imp fun σ H Q h => ?_⟩
  obtain ⟨Z, S, ws, ok, re, h⟩ := h
  refine liftE_of he.mono ok re h fun w S1 v1 H1 f1 ok1 r1 h1 => ?_
  refine liftA_of hr.mono ok1 (re.fr f1) h1 fun us S2 vs H2 f2 ok2 r2 h2 => ?_
  exact h2 (v1 :: vs) H2 (f1.trans f2) ok2 (.cons (r1.fr f2) r2)
def cTup (u : CA) : CE := fun ws S Q => u ws S fun r S1 => r.length ≤ sizeLine ∧ Q (.tup r) S1
/-- a list that nobody will write -/
def cLst (u : CA) : CE := fun ws S Q => u ws S fun r S1 => r.length ≤ sizeLine ∧ Q (.lst r) S1
/-- a list that is owned -/
def cLstO (u : CA) : CE := fun ws S Q => u ws S fun r S1 => r.length ≤ sizeLine ∧ ∀ p, S1 p = none → Q (.ref p) (S1.set p (.lst r))
theorem s_tup {k} (h : SA X es u) : SE X (.Tuple es k pos) (cTup u) := by
  refine ⟨fun ws S Q Q' f q => h.mono _ _ _ _ (fun r S1 h1 => ⟨h1.1, f _ _ h1.2⟩) q, (pe_tup h.ok).imp fun σ H Q q => ?_⟩
  obtain ⟨Z, S, ws, ok, re, q⟩ := q
  refine liftA_of h.mono ok re q fun us S1 vs H1 f1 ok1 r1 q1 => ?_
  refine ⟨by rw [← r1.length]; exact q1.1, fun p hp => q1.2 (.ref p) _ (f1.trans (Fr.new hp)) (ok1.new hp) (.tup (.inl upd_same) (ok1.free hp) (r1.fr (Fr.new hp)))⟩
theorem s_lst (h : SA X es u) : SE X (.List es pos) (cLst u) := by
  refine ⟨fun ws S Q Q' f q => h.mono _ _ _ _ (fun r S1 h1 => ⟨h1.1, f _ _ h1.2⟩) q, (pe_lst h.ok).imp fun σ H Q q => ?_⟩
  obtain ⟨Z, S, ws, ok, re, q⟩ := q
  refine liftA_of h.mono ok re q fun us S1 vs H1 f1 ok1 r1 q1 => ?_
  refine ⟨by rw [← r1.length]; exact q1.1, fun p hp => q1.2 (.ref p) _ (f1.trans (Fr.new hp)) (ok1.new hp) (.lst upd_same (ok1.free hp) (ok1.notZ hp) (r1.fr (Fr.new hp)))⟩
theorem s_lstO (h : SA X es u) : SE X (.List es pos) (cLstO u) := by
  refine ⟨fun ws S Q Q' f q => h.mono _ _ _ _ (fun r S1 h1 => ⟨h1.1, fun p hp => f _ _ (h1.2 p hp)⟩) q, (pe_lst h.ok).imp fun σ H Q q => ?_⟩
  obtain ⟨Z, S, ws, ok, re, q⟩ := q
  refine liftA_of h.mono ok re q fun us S1 vs H1 f1 ok1 r1 q1 => ?_
  refine ⟨by rw [← r1.length]; exact q1.1, fun p hp => q1.2 p (ok1.free hp) (.ref p) _ (f1.trans (Fr.own hp)) (ok1.own hp ⟨_, upd_same, r1.fr (Fr.own hp)⟩) (.ref p)⟩
end
end CL

set_option Elab.async false
set_option linter.all false
set_option maxRecDepth 100000
set_option maxHeartbeats 4000000
/-! CL2: statements, targets, loops, comprehensions -/
namespace CL
open PySem PySem.Spec PyProof.Rows L2

/-! ### statements -/
structure CEnds where
  nx : CL.Env → Sto → Prop
  rt : Cv → Sto → Prop
  bk : CL.Env → Sto → Prop := fun _ _ => False
  ct : CL.Env → Sto → Prop := fun _ _ => False
abbrev CS := CEnds → CL.Env → Sto → Prop
structure CEnds.le (D D' : CEnds) : Prop where
  nx : ∀ ws S, D.nx ws S → D'.nx ws S
  rt : ∀ w S, D.rt w S → D'.rt w S
  bk : ∀ ws S, D.bk ws S → D'.bk ws S
  ct : ∀ ws S, D.ct ws S → D'.ct ws S
theorem CEnds.le.refl (D : CEnds) : D.le D := ⟨fun _ _ h => h, fun _ _ h => h, fun _ _ h => h, fun _ _ h => h⟩
def MonS (t : CS) : Prop := ∀ D D' ws S, CEnds.le D D' → t D ws S → t D' ws S
def liftD (K : Fg) (Z : List Addr) (S : Sto) (H : Hp) (D : Ends) : CEnds where
  nx := fun ws' S' => ∀ σ' H', Fr S H S' H' → StOk K Z S' H' → RepSt K Z S' H' σ' ws' → D.nx σ' H'
  rt := fun w S' => ∀ v H', Fr S H S' H' → StOk K Z S' H' → Rep K Z S' H' w v → D.rt v H'
  bk := fun ws' S' => ∀ σ' H', Fr S H S' H' → StOk K Z S' H' → RepSt K Z S' H' σ' ws' → D.bk σ' H'
  ct := fun ws' S' => ∀ σ' H', Fr S H S' H' → StOk K Z S' H' → RepSt K Z S' H' σ' ws' → D.ct σ' H'
theorem liftD_fr {K : Fg} {Z : List Addr} {S S1 : Sto} {H H1 : Hp} {D : Ends} (f : Fr S H S1 H1) : (liftD K Z S H D).le (liftD K Z S1 H1 D) :=
  ⟨fun _ _ h σ' H' a b c => h σ' H' (f.trans a) b c, fun _ _ h σ' H' a b c => h σ' H' (f.trans a) b c, fun _ _ h σ' H' a b c => h σ' H' (f.trans a) b c, fun _ _ h σ' H' a b c => h σ' H' (f.trans a) b c⟩
def liftS (K : Fg) (t : CS) : TS := fun D σ H => ∃ Z S ws, StOk K Z S H ∧ RepSt K Z S H σ ws ∧ t (liftD K Z S H D) ws S
structure SS (X : Cx) (st : Stmt) (t : CS) : Prop where
  mono : MonS t
  ok : PS X st (liftS X.K t)
structure SSs (X : Cx) (st : List Stmt) (t : CS) : Prop where
  mono : MonS t
  ok : PSs X st (liftS X.K t)
def cNext : CS := fun D ws S => D.nx ws S
def cSeq (t u : CS) : CS := fun D ws S => t { D with nx := u D } ws S
theorem cSeq_mono {t u : CS} (ht : MonS t) (hu : MonS u) : MonS (cSeq t u) := fun D D' ws S l h =>
  ht { D with nx := u D } { D' with nx := u D' } ws S ⟨fun ws' S' q => hu _ _ _ _ l q, l.rt, l.bk, l.ct⟩ h
section
variable {X : Cx} {st : Stmt} {rest : List Stmt} {t u : CS} {e : Expr} {te : CE} {tc : CT} {pos : Pos}
theorem ss_nil : SSs X [] cNext := ⟨fun D D' ws S l h => l.nx _ _ h, pss_nil.imp fun D σ H h => by
  obtain ⟨Z, S, ws, ok, re, h⟩ := h
  exact h σ H (Fr.refl S H) ok re⟩
theorem ss_cons (h1 : SS X st t) (h2 : SSs X rest u) : SSs X (st :: rest) (cSeq t u) := ⟨cSeq_mono h1.mono h2.mono, (pss_cons h1.ok h2.ok).imp fun D σ H h => by
  obtain ⟨Z, S, ws, ok, re, h⟩ := h
  refine ⟨Z, S, ws, ok, re, h1.mono { liftD X.K Z S H D with nx := u (liftD X.K Z S H D) } _ _ _ ⟨fun ws' S' q σ' H' f ok' re' => ⟨Z, S', ws', ok', re', h2.mono _ _ _ _ (liftD_fr f) q⟩, fun _ _ q => q, fun _ _ q => q, fun _ _ q => q⟩ h⟩⟩
theorem ss_one (h : SS X st t) : SSs X [st] t := ⟨h.mono, pss_one h.ok⟩
theorem ss_pass : SS X (.Pass pos) cNext := ⟨fun D D' ws S l h => l.nx _ _ h, ps_pass.imp fun D σ H h => by
  obtain ⟨Z, S, ws, ok, re, h⟩ := h
  exact h σ H (Fr.refl S H) ok re⟩
def cDrop (te : CE) : CS := fun D ws S => te ws S fun _ S1 => D.nx ws S1
theorem ss_expr (he : SE X e te) (hs : swapsWith e none pos.line X.env = pure false := by rfl) : SS X (.Expr e pos) (cDrop te) :=
  ⟨fun D D' ws S l h => he.mono _ _ _ _ (fun _ S1 q => l.nx _ _ q) h, (ps_expr he.ok hs).imp fun D σ H h => by
    obtain ⟨Z, S, ws, ok, re, h⟩ := h
    exact liftE_of he.mono ok re h fun w S1 v H1 f1 ok1 r1 h1 => h1 σ H1 f1 ok1 (re.fr f1)⟩
def cRet (te : CE) : CS := fun D ws S => te ws S D.rt
theorem ss_ret (he : SE X e te) : SS X (.Return (some e) pos) (cRet te) :=
  ⟨fun D D' ws S l h => he.mono _ _ _ _ l.rt h, (ps_ret he.ok).imp fun D σ H h => by
    obtain ⟨Z, S, ws, ok, re, h⟩ := h
    exact liftE_of he.mono ok re h fun w S1 v H1 f1 ok1 r1 h1 => h1 v H1 f1 ok1 r1⟩
def cRetN : CS := fun D _ S => D.rt .non S
theorem ss_retN : SS X (.Return none pos) cRetN :=
  ⟨fun D D' ws S l h => l.rt _ _ h, ps_retN.imp fun D σ H h => by
    obtain ⟨Z, S, ws, ok, re, h⟩ := h
    exact h .non H (Fr.refl S H) ok .non⟩
def cIfS (c : CT) (t u : CS) : CS := fun D ws S => c ws S fun b S1 => if b = true then t D ws S1 else u D ws S1
theorem ss_if {c : Expr} {a b : List Stmt} (hc : ST X c tc) (ha : SSs X a t) (hb : SSs X b u) : SS X (.If c a b pos) (cIfS tc t u) :=
  ⟨fun D D' ws S l h => hc.mono _ _ _ _ (fun k S1 q => by
    cases k with
    | true => exact ha.mono _ _ _ _ l q
    | false => exact hb.mono _ _ _ _ l q) h, (ps_if hc.ok ha.ok hb.ok).imp fun D σ H h => by
    obtain ⟨Z, S, ws, ok, re, h⟩ := h
    refine liftT_of hc.mono ok re h fun k S1 H1 f1 ok1 h1 => ?_
    cases k with
    | true => exact ⟨Z, S1, ws, ok1, re.fr f1, ha.mono _ _ _ _ (liftD_fr f1) h1⟩
    | false => exact ⟨Z, S1, ws, ok1, re.fr f1, hb.mono _ _ _ _ (liftD_fr f1) h1⟩⟩
def cBreak : CS := fun D ws S => D.bk ws S
def cCont : CS := fun D ws S => D.ct ws S
theorem ss_break : SS X (.Break pos) cBreak := ⟨fun D D' ws S l h => l.bk _ _ h, ps_break.imp fun D σ H h => by
  obtain ⟨Z, S, ws, ok, re, h⟩ := h
  exact h σ H (Fr.refl S H) ok re⟩
theorem ss_continue : SS X (.Continue pos) cCont := ⟨fun D D' ws S l h => l.ct _ _ h, ps_continue.imp fun D σ H h => by
  obtain ⟨Z, S, ws, ok, re, h⟩ := h
  exact h σ H (Fr.refl S H) ok re⟩
end

/-! ### targets -/
abbrev CG := Cv → CL.Env → Sto → (CL.Env → Sto → Prop) → Prop
abbrev CGs := List Cv → CL.Env → Sto → (CL.Env → Sto → Prop) → Prop
def Out (is : List Nat) (σ σ' : L2.St) : Prop := σ'.length = σ.length ∧ ∀ j, j ∉ is → σ'[j]? = σ[j]?
theorem Out.refl (is : List Nat) (σ : L2.St) : Out is σ σ := ⟨rfl, fun _ _ => rfl⟩
theorem wipe_get : ∀ (τ : L2.St) (l : List Nat) (j : Nat), (L2.wipe τ l)[j]? = if j ∈ l ∧ j < τ.length then some none else τ[j]?
  | τ, [], j => by simp [L2.wipe]
  | τ, v :: l, j => by
    show ((L2.wipe τ l).set v none)[j]? = _
    by_cases e : v = j
    · subst e
      by_cases hj : v < τ.length
      · rw [List.getElem?_set_self (by rw [wipe_length]; exact hj)]
        simp [hj]
      · rw [List.getElem?_eq_none (by rw [List.length_set, wipe_length]; omega)]
        simp [hj]
    · rw [List.getElem?_set_ne e, wipe_get τ l j]
      have e2 : ¬ j = v := fun q => e q.symm
      simp [e2]
theorem Out.wipe {vs is : List Nat} (hs : ∀ i ∈ is, i ∈ vs) {σ σ' : L2.St} (h : Out is σ σ') : L2.wipe σ' vs = L2.wipe σ vs := by
  apply List.ext_getElem?
  intro j
  rw [wipe_get, wipe_get, h.1]
  by_cases m : j ∈ vs
  · by_cases hj : j < σ.length
    · simp [m, hj]
    · have n1 : σ'[j]? = none := List.getElem?_eq_none (by rw [h.1]; omega)
      have n2 : σ[j]? = none := List.getElem?_eq_none (by omega)
      simp [n1, n2]
  · simp only [m, false_and, if_false]
    exact h.2 j fun q => m (hs j q)
theorem wipe_twice (σ : L2.St) (vs : List Nat) : L2.wipe (L2.wipe σ vs) vs = L2.wipe σ vs := by
  apply List.ext_getElem?
  intro j
  rw [wipe_get, wipe_get, wipe_length]
  split <;> simp_all
def MonG (g : CG) : Prop := ∀ w ws S (Q Q' : CL.Env → Sto → Prop), (∀ a b, Q a b → Q' a b) → g w ws S Q → g w ws S Q'
def MonGs (g : CGs) : Prop := ∀ w ws S (Q Q' : CL.Env → Sto → Prop), (∀ a b, Q a b → Q' a b) → g w ws S Q → g w ws S Q'
def liftG (K : Fg) (g : CG) (is : List Nat) : TG := fun v σ H Q => ∃ Z S ws w, StOk K Z S H ∧ RepSt K Z S H σ ws ∧ Rep K Z S H w v ∧ g w ws S fun ws' S' => ∀ σ' H', Fr S H S' H' → StOk K Z S' H' → RepSt K Z S' H' σ' ws' → Out is σ σ' → Q σ' H'
def liftGs (K : Fg) (g : CGs) (is : List Nat) : TGs := fun vs σ H Q => ∃ Z S ws us, StOk K Z S H ∧ RepSt K Z S H σ ws ∧ Reps K Z S H us vs ∧ g us ws S fun ws' S' => ∀ σ' H', Fr S H S' H' → StOk K Z S' H' → RepSt K Z S' H' σ' ws' → Out is σ σ' → Q σ' H'
structure SG (X : Cx) (tg : Expr) (g : CG) (is : List Nat) : Prop where
  mono : MonG g
  ok : PG X tg (liftG X.K g is)
structure SGs (X : Cx) (tg : List Expr) (g : CGs) (is : List Nat) : Prop where
  mono : MonGs g
  ok : PGs X tg (liftGs X.K g is)
theorem _root_.L2.PG.imp {X : Cx} {tg : Expr} {t t' : TG} (h : PG X tg t) (f : ∀ v σ H Q, t' v σ H Q → t v σ H Q) : PG X tg t' := ⟨fun pins s σ H v u Q I r q => h.run pins s σ H v u Q I r (f v σ H Q q)⟩
theorem _root_.L2.PGs.imp {X : Cx} {tg : List Expr} {t t' : TGs} (h : PGs X tg t) (f : ∀ v σ H Q, t' v σ H Q → t v σ H Q) : PGs X tg t' := ⟨fun pins s σ H v u Q I r q => h.run pins s σ H v u Q I r (f v σ H Q q)⟩
def cgName (i : Nat) : CG := fun w ws S Q => Q (ws.set i (some w)) S
section
variable {X : Cx} {pos : Pos}
theorem sg_of {e : Expr} {i : Nat} (h : PG X e (gName i)) : SG X e (cgName i) [i] := ⟨fun w ws S Q Q' f h => f _ _ h, h.imp fun v σ H Q h => by
  obtain ⟨Z, S, ws, w, ok, re, r, h⟩ := h
  exact h _ H (Fr.refl S H) ok (re.set r) ⟨by rw [List.length_set], fun j hj => List.getElem?_set_ne (fun q => hj (by rw [q]; exact List.mem_singleton.mpr rfl))⟩⟩
/-- the i-th name as a target -/
theorem sg (i : Nat) {x : Str} {pos : Pos} (hN : X.N.Nodup) (hi : X.N[i]? = some x := by rfl) (hx : Loc X.env.scope x := by first | exact Or.inl rfl | exact Or.inr rfl)
    (hf : X.fn x = true ∨ X.env.scope.names.lookup x = some .local := by first | exact .inl rfl | exact .inr rfl) : SG X (.Name x pos) (cgName i) [i] := sg_of (pg_name hN hi hx hf)
def cgNil : CGs := fun us ws S Q => us = [] ∧ Q ws S
def cgCons (g : CG) (gs : CGs) : CGs := fun us ws S Q => match us with | [] => False | w :: r => g w ws S fun ws1 S1 => gs r ws1 S1 Q
theorem sgs_nil : SGs X [] cgNil [] := ⟨fun w ws S Q Q' f h => ⟨h.1, f _ _ h.2⟩, pgs_nil.imp fun v σ H Q h => by
  obtain ⟨Z, S, ws, w, ok, re, r, e, h⟩ := h
  subst e
  cases r
  exact ⟨rfl, h σ H (Fr.refl S H) ok re (Out.refl _ _)⟩⟩
theorem sgs_cons {e : Expr} {es : List Expr} {g : CG} {gs : CGs} {is js : List Nat} (h1 : SG X e g is) (h2 : SGs X es gs js) (hs : (assignEach (e :: es) X.env).map (·.2) = assign e X.env :: (assignEach es X.env).map (·.2) := by rfl) : SGs X (e :: es) (cgCons g gs) (is ++ js) := by
  refine ⟨fun us ws S Q Q' f h => ?_, (pgs_cons h1.ok h2.ok hs).imp fun vs σ H Q h => ?_⟩
  · cases us with
    | nil => exact h
    | cons w r => exact h1.mono _ _ _ _ _ (fun ws1 S1 q => h2.mono _ _ _ _ _ f q) h
  · obtain ⟨Z, S, ws, us, ok, re, r, h⟩ := h
    cases us with
    | nil => exact h.elim
    | cons w us =>
      cases r with
      | cons a r =>
        refine ⟨_, _, rfl, Z, S, ws, w, ok, re, a, h1.mono _ _ _ _ _ (fun ws1 S1 q σ1 H1 f1 ok1 re1 o1 => ?_) h⟩
        refine ⟨Z, S1, ws1, us, ok1, re1, r.fr f1, h2.mono _ _ _ _ _ (fun ws2 S2 q2 σ2 H2 f2 ok2 re2 o2 => ?_) q⟩
        exact q2 σ2 H2 (f1.trans f2) ok2 re2 ⟨o2.1.trans o1.1, fun j hj => (o2.2 j fun z => hj (List.mem_append_right _ z)).trans (o1.2 j fun z => hj (List.mem_append_left _ z))⟩
/-- a, b, .. = a tuple -/
def cgTup (n : Nat) (gs : CGs) : CG := fun w ws S Q => match w with | .tup us => us.length = n ∧ gs us ws S Q | _ => False
theorem sg_tup {es : List Expr} {k : Nat} {gs : CGs} {is : List Nat} {n : Nat} (hc : X.calm = true) (h : SGs X es gs is) (hn : (assignEach es X.env).length = n := by rfl) (hst : (assignEach es X.env).findIdx? (·.1) = none := by rfl) : SG X (.Tuple es k pos) (cgTup n gs) is := by
  refine ⟨fun w ws S Q Q' f q => ?_, (pg_tup hc h.ok hn hst).imp fun v σ H Q q => ?_⟩
  · cases w with
    | tup us => exact ⟨q.1, h.mono _ _ _ _ _ f q.2⟩
    | _ => exact q
  · obtain ⟨Z, S, ws, w, ok, re, r, q⟩ := q
    cases w with
    | tup us =>
      cases r with
      | tup hr n2 rr => exact ⟨_, _, rfl, .inl hr, by rw [← rr.length]; exact q.1, Z, S, ws, us, ok, re, rr, q.2⟩
      | tupK hr rr => exact ⟨_, _, rfl, hr H, by rw [← rr.length]; exact q.1, Z, S, ws, us, ok, re, rr, q.2⟩
    | _ => exact q.elim
def cAsg (te : CE) (g : CG) : CS := fun D ws S => te ws S fun w S1 => g w ws S1 D.nx
theorem cAsg_mono {te : CE} {g : CG} (he : MonE te) (hg : MonG g) : MonS (cAsg te g) := fun D D' ws S l h => he _ _ _ _ (fun w S1 q => hg _ _ _ _ _ l.nx q) h
theorem cAsg_ok {K : Fg} {te : CE} {g : CG} {is : List Nat} (he : MonE te) (hg : MonG g) {D : Ends} {σ : L2.St} {H : Hp} (h : liftS K (cAsg te g) D σ H) : tAsg (liftE K te) (liftG K g is) D σ H := by
  obtain ⟨Z, S, ws, ok, re, h⟩ := h
  refine liftE_of he ok re h fun w S1 v H1 f1 ok1 r1 h1 => ?_
  exact ⟨Z, S1, ws, w, ok1, re.fr f1, r1, hg _ _ _ _ _ (fun ws' S' q σ' H' f2 ok2 re2 _ => q σ' H' (f1.trans f2) ok2 re2) h1⟩
theorem ss_asg {tg e : Expr} {te : CE} {g : CG} {is : List Nat} (he : SE X e te) (hg : SG X tg g is) (hs : swapsWithSole [tg] e pos.line X.env = pure false := by rfl) (hw : swappedStores [tg] e X.env = pure none := by rfl)
    (h1 : (assignEach [tg] X.env).map (·.2) = [assign tg X.env] := by rfl) : SS X (.Assign [tg] e pos) (cAsg te g) :=
  ⟨cAsg_mono he.mono hg.mono, (ps_asg he.ok hg.ok hs hw h1).imp fun D σ H h => cAsg_ok he.mono hg.mono h⟩
theorem cAsgN_ok {K : Fg} {te : CE} {i : Nat} (he : MonE te) {D : Ends} {σ : L2.St} {H : Hp} (h : liftS K (cAsg te (cgName i)) D σ H) : tAsg (liftE K te) (gName i) D σ H := by
  obtain ⟨Z, S, ws, ok, re, h⟩ := h
  exact liftE_of he ok re h fun w S1 v H1 f1 ok1 r1 h1 => h1 _ H1 f1 ok1 ((re.fr f1).set r1)
/-- name = e -/
theorem ss_set (i : Nat) {x : Str} {e : Expr} {te : CE} {pos' : Pos} (hN : X.N.Nodup) (he : SE X e te) (hi : X.N[i]? = some x := by rfl) (hx : Loc X.env.scope x := by first | exact Or.inl rfl | exact Or.inr rfl)
    (hs : swapsWith e (some (.Name x pos')) pos.line X.env = pure false := by rfl) (hf : X.fn x = true ∨ X.env.scope.names.lookup x = some .local := by first | exact .inl rfl | exact .inr rfl) : SS X (.Assign [.Name x pos'] e pos) (cAsg te (cgName i)) :=
  ⟨cAsg_mono he.mono fun w ws S Q Q' f h => f _ _ h, (ps_set hN hi hx he.ok hs hf).imp fun D σ H h => cAsgN_ok he.mono h⟩
/-- name op= e, by values -/
structure SIp (X : Cx) (op : Operator) (r : C2) : Prop where
  mono : Mon2 r
  ok : PIp X op (lift2 X.K r)
def cAug (i : Nat) (te : CE) (r : C2) : CS := fun D ws S => match ws[i]? with | some (some x) => te ws S fun y S1 => r x y S1 fun z S2 => D.nx (ws.set i (some z)) S2 | _ => False
theorem ss_aug (i : Nat) {x : Str} {e : Expr} {te : CE} {op : Operator} {r : C2} {pos' : Pos} (hN : X.N.Nodup) (ho : SIp X op r) (he : SE X e te) (hi : X.N[i]? = some x := by rfl) (hx : Loc X.env.scope x := by first | exact Or.inl rfl | exact Or.inr rfl)
    (hf : X.fn x = true ∨ X.env.scope.names.lookup x = some .local := by first | exact .inl rfl | exact .inr rfl) : SS X (.AugAssign (.Name x pos') op e pos) (cAug i te r) := by
  refine ⟨fun D D' ws S l h => ?_, (ps_aug hN hi hx he.ok ho.ok hf).imp fun D σ H h => ?_⟩
  · unfold cAug at h ⊢
    split at h
    · exact he.mono _ _ _ _ (fun y S1 q => ho.mono _ _ _ _ _ (fun z S2 q2 => l.nx _ _ q2) q) h
    · exact h
  · obtain ⟨Z, S, ws, ok, re, h⟩ := h
    unfold cAug at h
    split at h
    · rename_i w e1
      obtain ⟨v, h1, h2⟩ := re.2 i w e1
      refine ⟨v, h1, liftE_of he.mono ok re h fun y S1 vy H1 f1 ok1 r1 q1 => ?_⟩
      refine ⟨Z, S1, w, y, ok1, h2.fr f1, r1, ho.mono _ _ _ _ _ (fun z S2 q2 vz H2 f2 ok2 r2 => ?_) q1⟩
      exact q2 _ H2 (f1.trans f2) ok2 ((re.fr (f1.trans f2)).set r2)
    · exact h.elim
end

/-! ### while -/
section
variable {X : Cx} {pos : Pos}
def cWhile (c : CT) (tb : CS) : CS := fun D ws S => ∃ I : Nat → CL.Env → Sto → Prop, (∃ m, I m ws S) ∧ ∀ m ws S, I m ws S →
  c ws S fun b S1 => if b = true then tb { D with nx := fun ws' S' => ∃ m', m' < m ∧ I m' ws' S', ct := fun ws' S' => ∃ m', m' < m ∧ I m' ws' S', bk := D.nx } ws S1 else D.nx ws S1
theorem ss_while {c : Expr} {body : List Stmt} {tc : CT} {tb : CS} (hp : PassesOwn (model X.prog X.w) X.A X.env X.xe) (hc : ST X c tc) (hb : SSs X body tb) : SS X (.While c body [] pos) (cWhile tc tb) := by
  refine ⟨fun D D' ws S l h => ?_, (ps_while hp hc.ok hb.ok).imp fun D σ H h => ?_⟩
  · obtain ⟨I, h0, h⟩ := h
    refine ⟨I, h0, fun m ws S hI => hc.mono _ _ _ _ (fun b S1 q => ?_) (h m ws S hI)⟩
    cases b with
    | true => exact hb.mono { D with nx := fun ws' S' => ∃ m', m' < m ∧ I m' ws' S', ct := fun ws' S' => ∃ m', m' < m ∧ I m' ws' S', bk := D.nx } _ _ _ ⟨fun _ _ z => z, l.rt, l.nx, fun _ _ z => z⟩ q
    | false => exact l.nx _ _ q
  · obtain ⟨Z, S, ws, ok, re, I, ⟨m0, h0⟩, h⟩ := h
    refine ⟨fun m σ' H' => ∃ S' ws', Fr S H S' H' ∧ StOk X.K Z S' H' ∧ RepSt X.K Z S' H' σ' ws' ∧ I m ws' S', ⟨m0, S, ws, Fr.refl S H, ok, re, h0⟩, ?_⟩
    rintro m σ1 H1 ⟨S1, ws1, f1, ok1, re1, i1⟩
    refine liftT_of hc.mono ok1 re1 (h m ws1 S1 i1) fun b S2 H2 f2 ok2 h2 => ?_
    cases b with
    | true =>
      refine ⟨fun σ' H' => ∃ m', m' < m ∧ ∃ S' ws', Fr S H S' H' ∧ StOk X.K Z S' H' ∧ RepSt X.K Z S' H' σ' ws' ∧ I m' ws' S', fun σ' H' ⟨m', hm, q⟩ => ⟨m', hm, q⟩, ?_⟩
      refine ⟨Z, S2, ws1, ok2, re1.fr f2, hb.mono _ _ _ _ ⟨?_, ?_, ?_, ?_⟩ h2⟩
      · rintro ws' S' ⟨m', hm, q⟩ σ' H' f3 ok3 re3
        exact ⟨m', hm, S', ws', (f1.trans f2).trans f3, ok3, re3, q⟩
      · exact fun w S' q v H' f3 ok3 r3 => q v H' ((f1.trans f2).trans f3) ok3 r3
      · exact fun w S' q v H' f3 ok3 r3 => q v H' ((f1.trans f2).trans f3) ok3 r3
      · rintro ws' S' ⟨m', hm, q⟩ σ' H' f3 ok3 re3
        exact ⟨m', hm, S', ws', (f1.trans f2).trans f3, ok3, re3, q⟩
    | false => exact h2 σ1 H2 (f1.trans f2) ok2 (re1.fr f2)
end

/-! ### what is walked -/
abbrev CI := CL.Env → Sto → (List Cv → (Sto → Prop) → Sto → Prop) → Prop
def MonI (t : CI) : Prop := ∀ ws S (Q Q' : List Cv → (Sto → Prop) → Sto → Prop), (∀ xs G S', Q xs G S' → Q' xs G S') → t ws S Q → t ws S Q'
/-- J yields the items xs, in every later state in which G stands -/
def WalkOk (K : Fg) (Z : List Addr) (J : It) (xs : List Cv) (G : Sto → Prop) (S0 : Sto) (H0 : Hp) : Prop :=
  ∀ Z' S H, (∀ a, a ∈ Z → a ∈ Z') → (∀ a, a ∈ Z' → a ∈ Z ∨ H0 a = none) → FrZ Z S0 H0 S H → StOk K Z' S H → G S → ∀ i, (i < xs.length → J.go i H ∧ ∀ x H', J.yld i H x H' → ∃ w, xs[i]? = some w ∧ Fr S H S H' ∧ StOk K Z' S H' ∧ Rep K Z' S H' w x) ∧ (xs.length ≤ i → J.stop i H)
def liftI (K : Fg) (t : CI) : TI := fun σ H R => ∃ Z S ws, StOk K Z S H ∧ RepSt K Z S H σ ws ∧ t ws S fun xs G S' => ∀ J H', Fr S H S' H' → StOk K Z S' H' → WalkOk K Z J xs G S' H' → R J H'
structure SI (X : Cx) (tg e : Expr) (t : CI) : Prop where
  mono : MonI t
  ok : PI X tg e (liftI X.K t)
theorem _root_.L2.PI.imp {X : Cx} {tg e : Expr} {t t' : TI} (h : PI X tg e t) (f : ∀ σ H R, t' σ H R → t σ H R) : PI X tg e t' := ⟨fun pins s σ H R I q => h.run pins s σ H R I (f σ H R q)⟩

/-! ### for -/
def forL (G : Sto → Prop) (g : CG) (tb : CS) (D : CEnds) : List Cv → CL.Env → Sto → Prop
  | [], ws, S => G S ∧ D.nx ws S
  | x :: r, ws, S => G S ∧ g x ws S fun ws1 S1 => tb { D with nx := fun ws2 S2 => forL G g tb D r ws2 S2, ct := fun ws2 S2 => forL G g tb D r ws2 S2, bk := D.nx } ws1 S1
theorem forL_mono {G : Sto → Prop} {g : CG} {tb : CS} (hg : MonG g) (hb : MonS tb) {D D' : CEnds} (l : D.le D') : ∀ xs ws S, forL G g tb D xs ws S → forL G g tb D' xs ws S
  | [], ws, S, h => ⟨h.1, l.nx _ _ h.2⟩
  | x :: r, ws, S, h => ⟨h.1, hg _ _ _ _ _ (fun ws1 S1 q => hb { D with nx := fun ws2 S2 => forL G g tb D r ws2 S2, ct := fun ws2 S2 => forL G g tb D r ws2 S2, bk := D.nx } _ _ _ ⟨fun ws2 S2 q2 => forL_mono hg hb l r ws2 S2 q2, l.rt, l.nx, fun ws2 S2 q2 => forL_mono hg hb l r ws2 S2 q2⟩ q) h.2⟩
theorem forL_G {G : Sto → Prop} {g : CG} {tb : CS} {D : CEnds} : ∀ {xs : List Cv} {ws S}, forL G g tb D xs ws S → G S
  | [], _, _, h => h.1
  | _ :: _, _, _, h => h.1
def cFor (ti : CI) (g : CG) (tb : CS) : CS := fun D ws S => ti ws S fun xs G S1 => forL G g tb D xs ws S1
theorem drop_cons {α : Type} {xs : List α} {i : Nat} (h : i < xs.length) {w : α} (e : xs[i]? = some w) : xs.drop i = w :: xs.drop (i + 1) := by
  rw [List.drop_eq_getElem_cons h]
  congr 1
  rw [List.getElem?_eq_getElem h] at e
  exact Option.some.inj e
section
variable {X : Cx} {pos : Pos}
theorem ss_for {tg iter : Expr} {body : List Stmt} {ti : CI} {g : CG} {is : List Nat} {tb : CS} (hp : PassesOwn (model X.prog X.w) X.A X.env X.xe) (hc : X.calm = true) (hi : SI X tg iter ti) (hg : SG X tg g is) (hb : SSs X body tb)
    (hs : ∀ x, foldedSetIterable iter X.env x = pure x := by intro _; rfl) : SS X (.For tg iter body [] pos) (cFor ti g tb) := by
  refine ⟨fun D D' ws S l h => hi.mono _ _ _ _ (fun xs G S1 q => forL_mono hg.mono hb.mono l xs ws S1 q) h, (ps_for hp hc hi.ok hg.ok hb.ok hs).imp fun D σ H h => ?_⟩
  obtain ⟨Z, S, ws, ok, re, h⟩ := h
  refine ⟨Z, S, ws, ok, re, hi.mono _ _ _ _ (fun xs G S1 q J H1 f1 ok1 wk => ?_) h⟩
  refine ⟨fun i m σ' H' => m = xs.length - i ∧ i ≤ xs.length ∧ ∃ S' ws', Fr S1 H1 S' H' ∧ StOk X.K Z S' H' ∧ RepSt X.K Z S' H' σ' ws' ∧ forL G g tb (liftD X.K Z S H D) (xs.drop i) ws' S',
    ⟨xs.length, rfl, Nat.zero_le _, S1, ws, Fr.refl _ _, ok1, re.fr f1, q⟩, ?_⟩
  rintro i m σ2 H2 ⟨rfl, hl, S2, ws2, f2, ok2, re2, q2⟩
  obtain ⟨wgo, wstop⟩ := wk Z S2 H2 (fun _ z => z) (fun _ z => .inl z) (f2.z Z) ok2 (forL_G q2) i
  by_cases hlt : i < xs.length
  · obtain ⟨go, yl⟩ := wgo hlt
    refine .inr ⟨go, fun σ' H' => ∃ S' ws', Fr S1 H1 S' H' ∧ StOk X.K Z S' H' ∧ RepSt X.K Z S' H' σ' ws' ∧ forL G g tb (liftD X.K Z S H D) (xs.drop (i + 1)) ws' S',
      fun σ' H' h' => ⟨xs.length - (i + 1), by omega, rfl, hlt, h'⟩, fun x H3 hy => ?_⟩
    obtain ⟨w, ew, f3, ok3, r3⟩ := yl x H3 hy
    rw [drop_cons hlt ew] at q2
    refine ⟨Z, S2, ws2, w, ok3, re2.fr f3, r3, hg.mono _ _ _ _ _ (fun ws4 S4 q4 σ4 H4 f4 ok4 re4 o4 => ?_) q2.2⟩
    have fa : Fr S1 H1 S4 H4 := (f2.trans f3).trans f4
    refine ⟨Z, S4, ws4, ok4, re4, hb.mono _ _ _ _ ⟨?_, ?_, ?_, ?_⟩ q4⟩
    · exact fun ws5 S5 q5 σ5 H5 f5 ok5 re5 => ⟨S5, ws5, fa.trans f5, ok5, re5, q5⟩
    · exact fun w5 S5 q5 v5 H5 f5 ok5 r5 => q5 v5 H5 ((f1.trans fa).trans f5) ok5 r5
    · exact fun ws5 S5 q5 σ5 H5 f5 ok5 re5 => q5 σ5 H5 ((f1.trans fa).trans f5) ok5 re5
    · exact fun ws5 S5 q5 σ5 H5 f5 ok5 re5 => ⟨S5, ws5, fa.trans f5, ok5, re5, q5⟩
  · have e : i = xs.length := by omega
    refine .inl ⟨wstop (by omega), ?_⟩
    rw [e, List.drop_length] at q2
    exact q2.2 σ2 H2 (f1.trans f2) ok2 re2
end

/-! ### comprehensions -/
def cwipe (ws : CL.Env) : List Nat → CL.Env
  | [] => ws
  | v :: vs => (cwipe ws vs).set v none
theorem RepSt.wipe {K : Fg} {Z : List Addr} {S : Sto} {H : Hp} {σ : L2.St} {ws : CL.Env} (h : RepSt K Z S H σ ws) : ∀ vs, RepSt K Z S H (L2.wipe σ vs) (cwipe ws vs)
  | [] => h
  | v :: vs => by
    have ih := h.wipe vs
    refine ⟨by show ((L2.wipe σ vs).set v none).length = ((cwipe ws vs).set v none).length; rw [List.length_set, List.length_set]; exact ih.1, fun i w e => ?_⟩
    have e' : ((cwipe ws vs).set v none)[i]? = some (some w) := e
    by_cases hv : v = i
    · subst hv
      by_cases hl : v < (cwipe ws vs).length
      · rw [List.getElem?_set_self hl] at e'; cases e'
      · rw [List.getElem?_eq_none (by rw [List.length_set]; omega)] at e'; cases e'
    · rw [List.getElem?_set_ne hv] at e'
      obtain ⟨x, h1, h2⟩ := ih.2 i w e'
      refine ⟨x, ?_, h2⟩
      show ((L2.wipe σ vs).set v none)[i]? = _
      rw [List.getElem?_set_ne hv]; exact h1
def lcL (G : Sto → Prop) (g : CG) (tt : CT) (te : CE) (ws : CL.Env) (Q : List Cv → Sto → Prop) : List Cv → List Cv → Sto → Prop
  | [], acc, S => G S ∧ Q acc S
  | x :: r, acc, S => G S ∧ g x ws S fun ws2 S2 => tt ws2 S2 fun b S3 => if b = true then te ws2 S3 fun y S4 => acc.length < sizeLine ∧ lcL G g tt te ws Q r (acc ++ [y]) S4 else lcL G g tt te ws Q r acc S3
theorem lcL_mono {G : Sto → Prop} {g : CG} {tt : CT} {te : CE} (hg : MonG g) (ht : MonT tt) (he : MonE te) {ws : CL.Env} {Q Q' : List Cv → Sto → Prop} (f : ∀ a b, Q a b → Q' a b) : ∀ xs acc S, lcL G g tt te ws Q xs acc S → lcL G g tt te ws Q' xs acc S
  | [], acc, S, h => ⟨h.1, f _ _ h.2⟩
  | x :: r, acc, S, h => ⟨h.1, hg _ _ _ _ _ (fun ws2 S2 q => ht _ _ _ _ (fun b S3 q3 => by
      cases b with
      | true => exact he _ _ _ _ (fun y S4 q4 => ⟨q4.1, lcL_mono hg ht he f r _ _ q4.2⟩) q3
      | false => exact lcL_mono hg ht he f r _ _ q3) q) h.2⟩
theorem lcL_G {G : Sto → Prop} {g : CG} {tt : CT} {te : CE} {ws : CL.Env} {Q : List Cv → Sto → Prop} : ∀ {xs : List Cv} {acc S}, lcL G g tt te ws Q xs acc S → G S
  | [], _, _, h => h.1
  | _ :: _, _, _, h => h.1
/-- .. with what is wanted of the list -/
def cLcQ (ti : CI) (g : CG) (tt : CT) (te : CE) (vs : List Nat) (ws : CL.Env) (S : Sto) (Q : List Cv → Sto → Prop) : Prop := ti ws S fun xs G S1 => lcL G g tt te (cwipe ws vs) Q xs [] S1
def cLc (ti : CI) (g : CG) (tt : CT) (te : CE) (vs : List Nat) : CE := fun ws S Q => cLcQ ti g tt te vs ws S fun ys S2 => Q (.lst ys) S2
/-- .. the list owned -/
def cLcO (ti : CI) (g : CG) (tt : CT) (te : CE) (vs : List Nat) : CE := fun ws S Q => cLcQ ti g tt te vs ws S fun ys S2 => ∀ p, S2 p = none → Q (.ref p) (S2.set p (.lst ys))
structure STs (X : Cx) (ifs : List Expr) (t : CT) : Prop where
  mono : MonT t
  ok : PTs X ifs (liftT X.K t)
def cYes : CT := fun _ S Q => Q true S
theorem _root_.L2.PTs.imp {X : Cx} {ifs : List Expr} {t t' : TT} (h : PTs X ifs t) (f : ∀ σ H Q, t' σ H Q → t σ H Q) : PTs X ifs t' := ⟨fun pins s σ H Q I q => h.run pins s σ H Q I (f σ H Q q)⟩
section
variable {X : Cx} {pos : Pos}
theorem sts_nil : STs X [] cYes := ⟨fun ws S Q Q' f h => f _ _ h, pts_nil.imp fun σ H Q h => by
  obtain ⟨Z, S, ws, ok, re, h⟩ := h
  exact h H (Fr.refl S H) ok⟩
theorem sts_one {c : Expr} {t : CT} (h : ST X c t) : STs X [c] t := ⟨h.mono, pts_one h.ok⟩
/-- the heart: from the clean reading to the hand layer's -/
theorem lc_ok {K : Fg} {ti : CI} {g : CG} {is : List Nat} {tt : CT} {te : CE} {vs : List Nat} (hi : MonI ti) (hg : MonG g) (ht : MonT tt) (he : MonE te) (hsub : ∀ i ∈ is, i ∈ vs) {Z : List Addr} {S : Sto} {H : Hp} {σ : L2.St} {ws : CL.Env} {Q : VK} {R : List Cv → Sto → Prop}
    (ok : StOk K Z S H) (re : RepSt K Z S H σ ws) (h : cLcQ ti g tt te vs ws S R)
    (fin : ∀ ys S' D vs' H', Fr S H S' H' → StOk K (D :: Z) S' H' → H D = none → H' D = some (.lst vs') → Reps K (D :: Z) S' H' ys vs' → R ys S' → Q (.ref D) H') : tLc (liftI K ti) (liftG K g is) (liftT K tt) (liftE K te) vs σ H Q := by
  refine ⟨Z, S, ws, ok, re, hi _ _ _ _ (fun xs G S1 q J H1 f1 ok1 wk => ?_) h⟩
  intro D hD
  have hD0 : H D = none := f1.dom D hD
  refine ⟨fun i m H' => m = xs.length - i ∧ i ≤ xs.length ∧ ∃ S' acc vs', Fr S1 H1 S' H' ∧ StOk K (D :: Z) S' H' ∧ H' D = some (.lst vs') ∧ Reps K (D :: Z) S' H' acc vs' ∧ lcL G g tt te (cwipe ws vs) R (xs.drop i) acc S', ⟨xs.length, rfl, Nat.zero_le _, S1, [], [], Fr.new hD, ok1.newD hD, upd_same, .nil, q⟩, ?_⟩
  rintro i m H2 ⟨rfl, hl, S2, acc, vs2, f2, ok2, hD2, ra, q2⟩
  obtain ⟨wgo, wstop⟩ := wk (D :: Z) S2 H2 (fun _ z => List.mem_cons_of_mem _ z) (fun a z => (List.mem_cons.mp z).elim (fun e => .inr (by rw [e]; exact hD)) .inl) (f2.z Z) ok2 (lcL_G q2) i
  by_cases hlt : i < xs.length
  · obtain ⟨go, yl⟩ := wgo hlt
    refine .inr ⟨go, fun H' => ∃ S' acc vs', Fr S1 H1 S' H' ∧ StOk K (D :: Z) S' H' ∧ H' D = some (.lst vs') ∧ Reps K (D :: Z) S' H' acc vs' ∧ lcL G g tt te (cwipe ws vs) R (xs.drop (i + 1)) acc S', fun H' h' => ⟨xs.length - (i + 1), by omega, rfl, hlt, h'⟩, fun x H3 hy => ?_⟩
    obtain ⟨w, ew, f3, ok3, r3⟩ := yl x H3 hy
    rw [drop_cons hlt ew] at q2
    have re3 : RepSt K (D :: Z) S2 H3 (L2.wipe σ vs) (cwipe ws vs) := by
      refine RepSt.wipe ?_ vs
      refine ⟨re.1, fun j u e => ?_⟩
      obtain ⟨v, h1, h2⟩ := re.2 j u e
      exact ⟨v, h1, (((h2.fr f1).more hD).fr f2).fr f3⟩
    have nD2 : S2 D = none := (ok2.hid D List.mem_cons_self).1
    have hD3 := (f3.keep D _ hD2 nD2).1
    have ra3 := ra.fr f3
    refine ⟨D :: Z, S2, cwipe ws vs, w, ok3, re3, r3, hg _ _ _ _ _ (fun ws4 S4 q4 σ4 H4 f4 ok4 re4 o4 => ?_) q2.2⟩
    refine ⟨(o4.wipe hsub).trans (wipe_twice σ vs), ?_⟩
    refine liftT_of ht ok4 re4 q4 fun b S5 H5 f5 ok5 q5 => ?_
    cases b with
    | true =>
      simp only [if_true] at q5 ⊢
      refine liftE_of he ok5 (re4.fr f5) q5 fun y S6 v6 H6 f6 ok6 r6 q6 => ?_
      have n4 := (f4.keep D _ hD3 nD2)
      have n5 := f5.keep D _ n4.1 n4.2
      have n6 := f6.keep D _ n5.1 n5.2
      have ra6 := ((ra3.fr f4).fr f5).fr f6
      refine ⟨vs2, n6.1, by rw [← ra.length]; exact q6.1, S6, acc ++ [y], vs2 ++ [v6], ?_, ok6.chg List.mem_cons_self n6.1, upd_same, (ra6.app (.one r6)).hid List.mem_cons_self n6.1, q6.2⟩
      have fa : Fr S1 H1 S6 H6 := (((f2.trans f3).trans f4).trans f5).trans f6
      exact ⟨fun a o e n => by
        have na : a ≠ D := ne_of_none e hD
        rw [upd_ne na]
        exact fa.keep a o e n, fun a q => fa.dom a (dom_upd a q)⟩
    | false =>
      simp only [Bool.false_eq_true, if_false] at q5 ⊢
      have n4 := (f4.keep D _ hD3 nD2)
      have n5 := f5.keep D _ n4.1 n4.2
      exact ⟨S5, acc, vs2, ((f2.trans f3).trans f4).trans f5, ok5, n5.1, (ra3.fr f4).fr f5, q5⟩
  · have e : i = xs.length := by omega
    refine .inl ⟨wstop (by omega), ?_⟩
    rw [e, List.drop_length] at q2
    exact fin acc S2 D vs2 H2 (f1.trans f2) ok2 hD0 hD2 ra q2.2
end
end CL

set_option Elab.async false
set_option linter.all false
set_option maxRecDepth 100000
set_option maxHeartbeats 4000000
/-! CL3: comprehensions as expressions, sources of loops, calls, a def's body -/
namespace CL
open PySem PySem.Spec PyProof.Rows L2

/-! ### comprehensions -/
section
variable {X : Cx} {pos : Pos}
theorem cLcQ_mono {ti : CI} {g : CG} {tt : CT} {te : CE} {vs : List Nat} (hi : MonI ti) (hg : MonG g) (ht : MonT tt) (he : MonE te) {ws : CL.Env} {S : Sto} {Q Q' : List Cv → Sto → Prop} (f : ∀ a b, Q a b → Q' a b) (h : cLcQ ti g tt te vs ws S Q) : cLcQ ti g tt te vs ws S Q' :=
  hi _ _ _ _ (fun xs G S1 q => lcL_mono hg ht he f xs [] S1 q) h
theorem lc_frz {K : Fg} {ti : CI} {g : CG} {is : List Nat} {tt : CT} {te : CE} {vs : List Nat} (hi : MonI ti) (hg : MonG g) (ht : MonT tt) (he : MonE te) (hsub : ∀ i ∈ is, i ∈ vs) {σ : L2.St} {H : Hp} {Q : VK} (h : liftE K (cLc ti g tt te vs) σ H Q) : tLc (liftI K ti) (liftG K g is) (liftT K tt) (liftE K te) vs σ H Q := by
  obtain ⟨Z, S, ws, ok, re, h⟩ := h
  refine lc_ok hi hg ht he hsub ok re h fun ys S' D vs' H' f ok' hD0 hD r q => ?_
  exact q (.ref D) H' f (ok'.sub fun _ z => List.mem_cons_of_mem _ z) (.lst hD (ok'.hid D List.mem_cons_self).1 (ok.notZ hD0) (r.sub fun _ z => List.mem_cons_of_mem _ z))
theorem lc_own {K : Fg} {ti : CI} {g : CG} {is : List Nat} {tt : CT} {te : CE} {vs : List Nat} (hi : MonI ti) (hg : MonG g) (ht : MonT tt) (he : MonE te) (hsub : ∀ i ∈ is, i ∈ vs) {σ : L2.St} {H : Hp} {Q : VK} (h : liftE K (cLcO ti g tt te vs) σ H Q) : tLc (liftI K ti) (liftG K g is) (liftT K tt) (liftE K te) vs σ H Q := by
  obtain ⟨Z, S, ws, ok, re, h⟩ := h
  refine lc_ok hi hg ht he hsub ok re h fun ys S' D vs' H' f ok' hD0 hD r q => ?_
  refine q D (ok'.hid D List.mem_cons_self).1 (.ref D) H' ⟨fun a o e n => ?_, f.dom⟩ (StOk.toOwn (ok.notZ hD0) ok' hD r) (.ref D)
  have na : a ≠ D := ne_of_none e hD0
  rw [Sto.set_ne na]
  exact f.keep a o e n
variable {elt tg iter : Expr} {ifs : List Expr} {scope : Scope} {own : List (Str × Nat)} {ti : CI} {g : CG} {is : List Nat} {tt : CT} {te : CE}
theorem s_lc (hc : X.calm = true) (hN : X.N.Nodup) (hi : SI X tg iter ti) (ok : BlkOk X.N X.env.scope scope own)
    (hg : ∀ (s : Shared) (H : Hp) (C : Addr) (cl : List (Str × Addr)) (fp : List Addr), SG (X.blk s H scope (compEnvC scope cl C X.env) fp) tg g is)
    (ht : ∀ (s : Shared) (H : Hp) (C : Addr) (cl : List (Str × Addr)) (fp : List Addr), STs (X.blk s H scope (compEnvC scope cl C X.env) fp) ifs tt)
    (he : ∀ (s : Shared) (H : Hp) (C : Addr) (cl : List (Str × Addr)) (fp : List Addr), SE (X.blk s H scope (compEnvC scope cl C X.env) fp) elt te)
    (hsub : ∀ i ∈ is, i ∈ own.map (·.2) := by decide) (hs : ∀ x, foldedSetIterable iter X.env x = pure x := by intro _; rfl) : SE X (.ListComp elt [⟨tg, iter, ifs, 0⟩] scope pos) (cLc ti g tt te (own.map (·.2))) := by
  have mg : MonG g := (hg X.s_0 X.H_0 0 [] []).mono
  have mt : MonT tt := (ht X.s_0 X.H_0 0 [] []).mono
  have me : MonE te := (he X.s_0 X.H_0 0 [] []).mono
  exact ⟨fun ws S Q Q' f h => cLcQ_mono hi.mono mg mt me (fun ys S2 q => f _ _ q) h,
    (pe_lc hc hN hi.ok ok (fun s H C cl fp => (hg s H C cl fp).ok) (fun s H C cl fp => (ht s H C cl fp).ok) (fun s H C cl fp => (he s H C cl fp).ok) hs).imp fun σ H Q h => lc_frz hi.mono mg mt me hsub h⟩
theorem s_lcO (hc : X.calm = true) (hN : X.N.Nodup) (hi : SI X tg iter ti) (ok : BlkOk X.N X.env.scope scope own)
    (hg : ∀ (s : Shared) (H : Hp) (C : Addr) (cl : List (Str × Addr)) (fp : List Addr), SG (X.blk s H scope (compEnvC scope cl C X.env) fp) tg g is)
    (ht : ∀ (s : Shared) (H : Hp) (C : Addr) (cl : List (Str × Addr)) (fp : List Addr), STs (X.blk s H scope (compEnvC scope cl C X.env) fp) ifs tt)
    (he : ∀ (s : Shared) (H : Hp) (C : Addr) (cl : List (Str × Addr)) (fp : List Addr), SE (X.blk s H scope (compEnvC scope cl C X.env) fp) elt te)
    (hsub : ∀ i ∈ is, i ∈ own.map (·.2) := by decide) (hs : ∀ x, foldedSetIterable iter X.env x = pure x := by intro _; rfl) : SE X (.ListComp elt [⟨tg, iter, ifs, 0⟩] scope pos) (cLcO ti g tt te (own.map (·.2))) := by
  have mg : MonG g := (hg X.s_0 X.H_0 0 [] []).mono
  have mt : MonT tt := (ht X.s_0 X.H_0 0 [] []).mono
  have me : MonE te := (he X.s_0 X.H_0 0 [] []).mono
  exact ⟨fun ws S Q Q' f h => cLcQ_mono hi.mono mg mt me (fun ys S2 q p hp => f _ _ (q p hp)) h,
    (pe_lc hc hN hi.ok ok (fun s H C cl fp => (hg s H C cl fp).ok) (fun s H C cl fp => (ht s H C cl fp).ok) (fun s H C cl fp => (he s H C cl fp).ok) hs).imp fun σ H Q h => lc_own hi.mono mg mt me hsub h⟩
/-- name = [..], the list frozen or owned: by what the hand layer's reading follows from -/
theorem tAsg_imp {te te' : TE} {i : Nat} (f : ∀ σ H Q, te' σ H Q → te σ H Q) : ∀ D σ H, tAsg te' (gName i) D σ H → tAsg te (gName i) D σ H := fun D σ H h => f σ H _ h
variable {py spos : Pos}
theorem ss_setLc (i : Nat) {y : Str} (hc : X.calm = true) (hN : X.N.Nodup) (hi : SI X tg iter ti) (ok : BlkOk X.N X.env.scope scope own)
    (hg : ∀ (s : Shared) (H : Hp) (C : Addr) (cl : List (Str × Addr)) (fp : List Addr), SG (X.blk s H scope (compEnvC scope cl C X.env) fp) tg g is)
    (ht : ∀ (s : Shared) (H : Hp) (C : Addr) (cl : List (Str × Addr)) (fp : List Addr), STs (X.blk s H scope (compEnvC scope cl C X.env) fp) ifs tt)
    (he : ∀ (s : Shared) (H : Hp) (C : Addr) (cl : List (Str × Addr)) (fp : List Addr), SE (X.blk s H scope (compEnvC scope cl C X.env) fp) elt te)
    (hy : X.N[i]? = some y := by rfl) (hyl : X.env.scope.names.lookup y = some .local := by rfl) (hsw : swapsWith (.ListComp elt [⟨tg, iter, ifs, 0⟩] scope pos) (some (.Name y py)) spos.line X.env = pure true := by exact sw_true rfl rfl rfl (by decide +kernel))
    (hsub : ∀ i ∈ is, i ∈ own.map (·.2) := by decide) (hs : ∀ x, foldedSetIterable iter X.env x = pure x := by intro _; rfl) : SS X (.Assign [.Name y py] (.ListComp elt [⟨tg, iter, ifs, 0⟩] scope pos) spos) (cAsg (cLc ti g tt te (own.map (·.2))) (cgName i)) := by
  have mg : MonG g := (hg X.s_0 X.H_0 0 [] []).mono
  have mt : MonT tt := (ht X.s_0 X.H_0 0 [] []).mono
  have me : MonE te := (he X.s_0 X.H_0 0 [] []).mono
  have mm : MonE (cLc ti g tt te (own.map (·.2))) := fun ws S Q Q' f h => cLcQ_mono hi.mono mg mt me (fun ys S2 q => f _ _ q) h
  exact ⟨cAsg_mono mm fun w ws S Q Q' f h => f _ _ h,
    (ps_setLc hc hN hy hyl hsw hi.ok ok (fun s H C cl fp => (hg s H C cl fp).ok) (fun s H C cl fp => (ht s H C cl fp).ok) (fun s H C cl fp => (he s H C cl fp).ok) hs).imp fun D σ H h => lc_frz hi.mono mg mt me hsub (cAsgN_ok mm h)⟩
theorem ss_setLcO (i : Nat) {y : Str} (hc : X.calm = true) (hN : X.N.Nodup) (hi : SI X tg iter ti) (ok : BlkOk X.N X.env.scope scope own)
    (hg : ∀ (s : Shared) (H : Hp) (C : Addr) (cl : List (Str × Addr)) (fp : List Addr), SG (X.blk s H scope (compEnvC scope cl C X.env) fp) tg g is)
    (ht : ∀ (s : Shared) (H : Hp) (C : Addr) (cl : List (Str × Addr)) (fp : List Addr), STs (X.blk s H scope (compEnvC scope cl C X.env) fp) ifs tt)
    (he : ∀ (s : Shared) (H : Hp) (C : Addr) (cl : List (Str × Addr)) (fp : List Addr), SE (X.blk s H scope (compEnvC scope cl C X.env) fp) elt te)
    (hy : X.N[i]? = some y := by rfl) (hyl : X.env.scope.names.lookup y = some .local := by rfl) (hsw : swapsWith (.ListComp elt [⟨tg, iter, ifs, 0⟩] scope pos) (some (.Name y py)) spos.line X.env = pure true := by exact sw_true rfl rfl rfl (by decide +kernel))
    (hsub : ∀ i ∈ is, i ∈ own.map (·.2) := by decide) (hs : ∀ x, foldedSetIterable iter X.env x = pure x := by intro _; rfl) : SS X (.Assign [.Name y py] (.ListComp elt [⟨tg, iter, ifs, 0⟩] scope pos) spos) (cAsg (cLcO ti g tt te (own.map (·.2))) (cgName i)) := by
  have mg : MonG g := (hg X.s_0 X.H_0 0 [] []).mono
  have mt : MonT tt := (ht X.s_0 X.H_0 0 [] []).mono
  have me : MonE te := (he X.s_0 X.H_0 0 [] []).mono
  have mm : MonE (cLcO ti g tt te (own.map (·.2))) := fun ws S Q Q' f h => cLcQ_mono hi.mono mg mt me (fun ys S2 q p hp => f _ _ (q p hp)) h
  exact ⟨cAsg_mono mm fun w ws S Q Q' f h => f _ _ h,
    (ps_setLc hc hN hy hyl hsw hi.ok ok (fun s H C cl fp => (hg s H C cl fp).ok) (fun s H C cl fp => (ht s H C cl fp).ok) (fun s H C cl fp => (he s H C cl fp).ok) hs).imp fun D σ H h => lc_own hi.mono mg mt me hsub (cAsgN_ok mm h)⟩
end

/-! ### two clauses -/
def lc2L (G : Sto → Prop) (g : CG) (tt : CT) (ti1 : CI) (g1 : CG) (tt1 : CT) (te : CE) (vs1 : List Nat) (ws : CL.Env) (Q : List Cv → Sto → Prop) : List Cv → List Cv → Sto → Prop
  | [], acc, S => G S ∧ Q acc S
  | x :: r, acc, S => G S ∧ g x ws S fun ws2 S2 => tt ws2 S2 fun b S3 => if b = true then ti1 ws2 S3 fun ys G1 S4 => lcL G1 g1 tt1 te (cwipe ws2 vs1) (fun acc' S' => lc2L G g tt ti1 g1 tt1 te vs1 ws Q r acc' S') ys acc S4
      else lc2L G g tt ti1 g1 tt1 te vs1 ws Q r acc S3
theorem lc2L_mono {G : Sto → Prop} {g g1 : CG} {tt tt1 : CT} {ti1 : CI} {te : CE} {vs1 : List Nat} (hg : MonG g) (ht : MonT tt) (hi1 : MonI ti1) (hg1 : MonG g1) (ht1 : MonT tt1) (he : MonE te) {ws : CL.Env} {Q Q' : List Cv → Sto → Prop} (f : ∀ a b, Q a b → Q' a b) :
    ∀ xs acc S, lc2L G g tt ti1 g1 tt1 te vs1 ws Q xs acc S → lc2L G g tt ti1 g1 tt1 te vs1 ws Q' xs acc S
  | [], acc, S, h => ⟨h.1, f _ _ h.2⟩
  | x :: r, acc, S, h => ⟨h.1, hg _ _ _ _ _ (fun ws2 S2 q => ht _ _ _ _ (fun b S3 q3 => by
      cases b with
      | true => exact hi1 _ _ _ _ (fun ys G1 S4 q4 => lcL_mono hg1 ht1 he (fun acc' S' q5 => lc2L_mono hg ht hi1 hg1 ht1 he f r acc' S' q5) ys acc S4 q4) q3
      | false => exact lc2L_mono hg ht hi1 hg1 ht1 he f r _ _ q3) q) h.2⟩
theorem lc2L_G {G : Sto → Prop} {g g1 : CG} {tt tt1 : CT} {ti1 : CI} {te : CE} {vs1 : List Nat} {ws : CL.Env} {Q : List Cv → Sto → Prop} : ∀ {xs : List Cv} {acc S}, lc2L G g tt ti1 g1 tt1 te vs1 ws Q xs acc S → G S
  | [], _, _, h => h.1
  | _ :: _, _, _, h => h.1
def cLc2Q (ti : CI) (g : CG) (tt : CT) (ti1 : CI) (g1 : CG) (tt1 : CT) (te : CE) (vs vs1 : List Nat) (ws : CL.Env) (S : Sto) (Q : List Cv → Sto → Prop) : Prop := ti ws S fun xs G S1 => lc2L G g tt ti1 g1 tt1 te vs1 (cwipe ws vs) Q xs [] S1
def cLc2 (ti : CI) (g : CG) (tt : CT) (ti1 : CI) (g1 : CG) (tt1 : CT) (te : CE) (vs vs1 : List Nat) : CE := fun ws S Q => cLc2Q ti g tt ti1 g1 tt1 te vs vs1 ws S fun ys S2 => Q (.lst ys) S2
theorem lc2_ok {K : Fg} {ti ti1 : CI} {g g1 : CG} {is is1 : List Nat} {tt tt1 : CT} {te : CE} {vs vs1 : List Nat} (hi : MonI ti) (hg : MonG g) (ht : MonT tt) (hi1 : MonI ti1) (hg1 : MonG g1) (ht1 : MonT tt1) (he : MonE te) (hsub : ∀ i ∈ is, i ∈ vs) (hsub1 : ∀ i ∈ is1, i ∈ vs1)
    {Z : List Addr} {S : Sto} {H : Hp} {σ : L2.St} {ws : CL.Env} {Q : VK} {R : List Cv → Sto → Prop}
    (ok : StOk K Z S H) (re : RepSt K Z S H σ ws) (h : cLc2Q ti g tt ti1 g1 tt1 te vs vs1 ws S R)
    (fin : ∀ ys S' D vs' H', Fr S H S' H' → StOk K (D :: Z) S' H' → H D = none → H' D = some (.lst vs') → Reps K (D :: Z) S' H' ys vs' → R ys S' → Q (.ref D) H') : tLc2 (liftI K ti) (liftG K g is) (liftT K tt) (liftI K ti1) (liftG K g1 is1) (liftT K tt1) (liftE K te) vs vs1 σ H Q := by
  refine ⟨Z, S, ws, ok, re, hi _ _ _ _ (fun xs G S1 q J H1 f1 ok1 wk => ?_) h⟩
  intro D hD
  have hD0 : H D = none := f1.dom D hD
  have keepD : ∀ {Sa Sb : Sto} {Ha Hb : Hp} {l : List V}, Fr Sa Ha Sb Hb → Ha D = some (.lst l) → Sa D = none → Hb D = some (.lst l) ∧ Sb D = none := fun f e n => f.keep D _ e n
  have fr_chg : ∀ {Sa : Sto} {Ha : Hp} {l : List V}, Fr S1 H1 Sa Ha → Fr S1 H1 Sa (upd Ha D (.lst l)) := fun {Sa Ha l} fa => ⟨fun a o e n => by
    have na : a ≠ D := ne_of_none e hD
    rw [upd_ne na]
    exact fa.keep a o e n, fun a q => fa.dom a (dom_upd a q)⟩
  refine ⟨fun i m H' => m = xs.length - i ∧ i ≤ xs.length ∧ ∃ S' acc vs', Fr S1 H1 S' H' ∧ StOk K (D :: Z) S' H' ∧ H' D = some (.lst vs') ∧ Reps K (D :: Z) S' H' acc vs' ∧ lc2L G g tt ti1 g1 tt1 te vs1 (cwipe ws vs) R (xs.drop i) acc S', ⟨xs.length, rfl, Nat.zero_le _, S1, [], [], Fr.new hD, ok1.newD hD, upd_same, .nil, q⟩, ?_⟩
  rintro i m H2 ⟨rfl, hl, S2, acc, vs2, f2, ok2, hD2, ra, q2⟩
  obtain ⟨wgo, wstop⟩ := wk (D :: Z) S2 H2 (fun _ z => List.mem_cons_of_mem _ z) (fun a z => (List.mem_cons.mp z).elim (fun e => .inr (by rw [e]; exact hD)) .inl) (f2.z Z) ok2 (lc2L_G q2) i
  by_cases hlt : i < xs.length
  · obtain ⟨go, yl⟩ := wgo hlt
    refine .inr ⟨go, fun H' => ∃ S' acc vs', Fr S1 H1 S' H' ∧ StOk K (D :: Z) S' H' ∧ H' D = some (.lst vs') ∧ Reps K (D :: Z) S' H' acc vs' ∧ lc2L G g tt ti1 g1 tt1 te vs1 (cwipe ws vs) R (xs.drop (i + 1)) acc S', fun H' h' => ⟨xs.length - (i + 1), by omega, rfl, hlt, h'⟩, fun x H3 hy => ?_⟩
    obtain ⟨w, ew, f3, ok3, r3⟩ := yl x H3 hy
    rw [drop_cons hlt ew] at q2
    have re0 : RepSt K (D :: Z) S2 H3 σ ws := by
      refine ⟨re.1, fun j u e => ?_⟩
      obtain ⟨v, h1, h2⟩ := re.2 j u e
      exact ⟨v, h1, (((h2.fr f1).more hD).fr f2).fr f3⟩
    have re3 : RepSt K (D :: Z) S2 H3 (L2.wipe σ vs) (cwipe ws vs) := re0.wipe vs
    have nD2 : S2 D = none := (ok2.hid D List.mem_cons_self).1
    have hD3 := (f3.keep D _ hD2 nD2).1
    have ra3 := ra.fr f3
    refine ⟨D :: Z, S2, cwipe ws vs, w, ok3, re3, r3, hg _ _ _ _ _ (fun ws4 S4 q4 σ4 H4 f4 ok4 re4 o4 => ?_) q2.2⟩
    refine ⟨(o4.wipe hsub).trans (wipe_twice σ vs), ?_⟩
    refine liftT_of ht ok4 re4 q4 fun b S5 H5 f5 ok5 q5 => ?_
    have n4 := keepD f4 hD3 nD2
    have n5 := keepD f5 n4.1 n4.2
    cases b with
    | true =>
      simp only [if_true] at q5 ⊢
      refine ⟨D :: Z, S5, ws4, ok5, re4.fr f5, hi1 _ _ _ _ (fun ys G1 S6 q6 J1 H6 f6 ok6 wk1 => ?_) q5⟩
      have n6 := keepD f6 n5.1 n5.2
      have fa : Fr S1 H1 S6 H6 := (((f2.trans f3).trans f4).trans f5).trans f6
      have ra6 := ((ra3.fr f4).fr f5).fr f6
      have re6 := (re4.fr f5).fr f6
      refine ⟨fun j k H' => k = ys.length - j ∧ j ≤ ys.length ∧ ∃ S' acc vs', FrZ (D :: Z) S6 H6 S' H' ∧ Fr S1 H1 S' H' ∧ RepSt K (D :: Z) S' H' σ4 ws4 ∧ StOk K (D :: Z) S' H' ∧ H' D = some (.lst vs') ∧ Reps K (D :: Z) S' H' acc vs' ∧
        lcL G1 g1 tt1 te (cwipe ws4 vs1) (fun acc' S' => lc2L G g tt ti1 g1 tt1 te vs1 (cwipe ws vs) R (xs.drop (i + 1)) acc' S') (ys.drop j) acc S', ⟨ys.length, rfl, Nat.zero_le _, S6, acc, vs2, (Fr.refl _ _).z _, fa, re6, ok6, n6.1, ra6, q6⟩, ?_⟩
      · rintro j k H7 ⟨rfl, hl7, S7, acc7, vs7, fz7, fa7, re7, ok7, hD7, ra7, q7⟩
        obtain ⟨wgo1, wstop1⟩ := wk1 (D :: Z) S7 H7 (fun _ z => z) (fun _ z => .inl z) fz7 ok7 (lcL_G q7) j
        by_cases hlt1 : j < ys.length
        · obtain ⟨go1, yl1⟩ := wgo1 hlt1
          refine .inr ⟨go1, fun H' => ∃ S' acc vs', FrZ (D :: Z) S6 H6 S' H' ∧ Fr S1 H1 S' H' ∧ RepSt K (D :: Z) S' H' σ4 ws4 ∧ StOk K (D :: Z) S' H' ∧ H' D = some (.lst vs') ∧ Reps K (D :: Z) S' H' acc vs' ∧
            lcL G1 g1 tt1 te (cwipe ws4 vs1) (fun acc' S' => lc2L G g tt ti1 g1 tt1 te vs1 (cwipe ws vs) R (xs.drop (i + 1)) acc' S') (ys.drop (j + 1)) acc S', fun H' h' => ⟨ys.length - (j + 1), by omega, rfl, hlt1, h'⟩, fun x8 H8 hy8 => ?_⟩
          obtain ⟨w8, ew8, f8, ok8, r8⟩ := yl1 x8 H8 hy8
          rw [drop_cons hlt1 ew8] at q7
          have nD7 : S7 D = none := (ok7.hid D List.mem_cons_self).1
          have n8 := keepD f8 hD7 nD7
          refine ⟨D :: Z, S7, cwipe ws4 vs1, w8, ok8, (re7.fr f8).wipe vs1, r8, hg1 _ _ _ _ _ (fun ws9 S9 q9 σ9 H9 f9 ok9 re9 o9 => ?_) q7.2⟩
          refine ⟨(o9.wipe hsub1).trans (wipe_twice σ4 vs1), ?_⟩
          have n9 := keepD f9 n8.1 n8.2
          refine liftT_of ht1 ok9 re9 q9 fun c SA HA fA okA qA => ?_
          have nA := keepD fA n9.1 n9.2
          cases c with
          | true =>
            simp only [if_true] at qA ⊢
            refine liftE_of he okA (re9.fr fA) qA fun y SB vB HB fB okB rB qB => ?_
            have nB := keepD fB nA.1 nA.2
            have raB := (((ra7.fr f8).fr f9).fr fA).fr fB
            have f7B : Fr S7 H7 SB HB := ((f8.trans f9).trans fA).trans fB
            refine ⟨vs7, nB.1, by rw [← ra7.length]; exact qB.1, SB, acc7 ++ [y], vs7 ++ [vB], (fz7.trans (f7B.z _)).trans (FrZ.chg List.mem_cons_self), fr_chg (fa7.trans f7B), ?_, okB.chg List.mem_cons_self nB.1, upd_same, (raB.app (.one rB)).hid List.mem_cons_self nB.1, qB.2⟩
            exact ⟨re7.1, fun j u e => let ⟨v, h1, h2⟩ := re7.2 j u e; ⟨v, h1, (h2.fr f7B).hid List.mem_cons_self nB.1⟩⟩
          | false =>
            simp only [Bool.false_eq_true, if_false] at qA ⊢
            have f7A : Fr S7 H7 SA HA := (f8.trans f9).trans fA
            exact ⟨SA, acc7, vs7, fz7.trans (f7A.z _), fa7.trans f7A, re7.fr f7A, okA, nA.1, ra7.fr f7A, qA⟩
        · have e : j = ys.length := by omega
          refine .inl ⟨wstop1 (by omega), ?_⟩
          rw [e, List.drop_length] at q7
          exact ⟨S7, acc7, vs7, fa7, ok7, hD7, ra7, q7.2⟩
    | false =>
      simp only [Bool.false_eq_true, if_false] at q5 ⊢
      exact ⟨S5, acc, vs2, ((f2.trans f3).trans f4).trans f5, ok5, n5.1, (ra3.fr f4).fr f5, q5⟩
  · have e : i = xs.length := by omega
    refine .inl ⟨wstop (by omega), ?_⟩
    rw [e, List.drop_length] at q2
    exact fin acc S2 D vs2 H2 (f1.trans f2) ok2 hD0 hD2 ra q2.2
end CL

set_option Elab.async false
set_option linter.all false
set_option maxRecDepth 100000
set_option maxHeartbeats 4000000
/-! CL4: sources of loops; two clauses as an expression; calls; a def's body; the end of a law -/
namespace CL
open PySem PySem.Spec PyProof.Rows L2

section
variable {K : Fg} {Z Z' : List Addr} {S S' : Sto} {H H' : Hp}
theorem Rd.frz (ok : StOk K Z S H) (f : FrZ Z S H S' H') {a : Addr} {u : HO} (hu : plainO u = false) (h : Rd H a u) (n : S a = none) : Rd H' a u ∧ S' a = none := by
  have nz : ∀ o, H a = some o → plainO o = false → a ∉ Z := fun o e p z => by
    obtain ⟨_, x, ex, px⟩ := ok.hid a z
    rw [e] at ex; cases ex
    rw [p] at px; cases px
  rcases h with h | ⟨o, h⟩
  · have k := f.keep a _ (nz _ h hu) h n
    exact ⟨.inl k.1, k.2⟩
  · have k := f.keep a _ (nz _ h rfl) h n
    exact ⟨.inr ⟨o, k.1⟩, k.2⟩
theorem StOk.nz (ok : StOk K Z S H) {a : Addr} {o : HO} (e : H a = some o) (p : plainO o = false) : a ∉ Z := fun z => by
  obtain ⟨_, x, ex, px⟩ := ok.hid a z
  rw [e] at ex; cases ex
  rw [p] at px; cases px
mutual
theorem Rep.frz (ok : StOk K Z S H) (f : FrZ Z S H S' H') (hz : ∀ a, a ∈ Z' → a ∈ Z ∨ H a = none) : ∀ {w : Cv} {v : V}, Rep K Z S H w v → Rep K Z' S' H' w v
  | _, _, .non => .non
  | _, _, .bl b => .bl b
  | _, _, .int i => .int i
  | _, _, .str x => .str x
  | _, _, .tup h n r => .tup (Rd.frz ok f rfl h n).1 (Rd.frz ok f rfl h n).2 (Reps.frz ok f hz r)
  | _, _, .tupK h r => .tupK h (Reps.frz ok f hz r)
  | _, _, .lst h n z r => .lst (f.keep _ _ z h n).1 (f.keep _ _ z h n).2 (fun q => (hz _ q).elim z fun e => by rw [h] at e; cases e) (Reps.frz ok f hz r)
  | _, _, .scr h n r => .scr (f.keep _ _ (ok.nz h rfl) h n).1 (f.keep _ _ (ok.nz h rfl) h n).2 (Reps.frz ok f hz r)
  | _, _, .tupF h n r d => .tupF (f.keep _ _ (ok.nz h rfl) h n).1 (f.keep _ _ (ok.nz h rfl) h n).2 (Reps.frz ok f hz r) d
  | _, _, .scrK h r => .scrK h (Reps.frz ok f hz r)
  | _, _, .dK h n z e r => .dK (f.keep _ _ z h n).1 (f.keep _ _ z h n).2 (fun q => (hz _ q).elim z fun e => by rw [h] at e; cases e) e (Reps.frz ok f hz r)
  | _, _, .dT h n z e r => .dT (f.keep _ _ z h n).1 (f.keep _ _ z h n).2 (fun q => (hz _ q).elim z fun e => by rw [h] at e; cases e) e (Reps.frz ok f hz r)
  | _, _, .ref a => .ref a
  | _, _, .opq v => .opq v
theorem Reps.frz (ok : StOk K Z S H) (f : FrZ Z S H S' H') (hz : ∀ a, a ∈ Z' → a ∈ Z ∨ H a = none) : ∀ {ws : List Cv} {vs : List V}, Reps K Z S H ws vs → Reps K Z' S' H' ws vs
  | _, _, .nil => .nil
  | _, _, .cons a r => .cons (Rep.frz ok f hz a) (Reps.frz ok f hz r)
end
theorem walk_lst {a : Addr} {vs : List V} {ws : List Cv} (sq : ∀ S1 H1, FrZ Z S H S1 H1 → SqL K H1 a vs) (ok : StOk K Z S H) (r : Reps K Z S H ws vs) : WalkOk K Z (Itl K a) ws (fun _ => True) S H := by
  intro Z' S1 H1 _ hz f ok1 _ i
  have sq := sq S1 H1 f
  have r1 := r.frz ok f hz
  refine ⟨fun hi => ?_, fun hi => ⟨vs, sq, by rw [← r.length]; exact hi⟩⟩
  obtain ⟨v, hv, _⟩ := r1.get (List.getElem?_eq_getElem hi)
  refine ⟨⟨vs, v, sq, hv⟩, fun x H' hy => ?_⟩
  obtain ⟨rfl, hx⟩ := hy
  obtain ⟨w, hw, rw'⟩ := r1.getV (hx vs sq)
  exact ⟨w, hw, Fr.refl _ _, ok1, rw'⟩
theorem walk_own {a : Addr} {ws : List Cv} : WalkOk K Z (Itl K a) ws (fun S => S a = some (.lst ws)) S H := by
  intro Z' S1 H1 _ hz f ok1 g i
  obtain ⟨vs, e, r1⟩ := ok1.ob a _ g
  have sq : SqL K H1 a vs := .inl (.inl e)
  refine ⟨fun hi => ?_, fun hi => ⟨vs, sq, by rw [← r1.length]; exact hi⟩⟩
  obtain ⟨v, hv, _⟩ := r1.get (List.getElem?_eq_getElem hi)
  refine ⟨⟨vs, v, sq, hv⟩, fun x H' hy => ?_⟩
  obtain ⟨rfl, hx⟩ := hy
  obtain ⟨w, hw, rw'⟩ := r1.getV (hx vs sq)
  exact ⟨w, hw, Fr.refl _ _, ok1, rw'⟩
theorem walk_tup {a : Addr} {vs : List V} {ws : List Cv} (sq : ∀ S1 H1, FrZ Z S H S1 H1 → SqT K H1 a vs) (ok : StOk K Z S H) (r : Reps K Z S H ws vs) : WalkOk K Z (Itt K a) ws (fun _ => True) S H := by
  intro Z' S1 H1 _ hz f ok1 _ i
  have sq := sq S1 H1 f
  have r1 := r.frz ok f hz
  refine ⟨fun hi => ?_, fun hi => ⟨vs, sq, by rw [← r.length]; exact hi⟩⟩
  obtain ⟨v, hv, _⟩ := r1.get (List.getElem?_eq_getElem hi)
  refine ⟨⟨vs, v, sq, hv⟩, fun x H' hy => ?_⟩
  obtain ⟨rfl, hx⟩ := hy
  obtain ⟨w, hw, rw'⟩ := r1.getV (hx vs sq)
  exact ⟨w, hw, Fr.refl _ _, ok1, rw'⟩
theorem walk_range (lo : Int) (n : Nat) : WalkOk K Z (Itr lo n) ((List.range n).map fun (i : Nat) => .int (lo + i)) (fun _ => True) S H := by
  intro Z' S1 H1 _ hz f ok1 _ i
  refine ⟨fun hi => ?_, fun hi => by rw [List.length_map, List.length_range] at hi; exact hi⟩
  rw [List.length_map, List.length_range] at hi
  refine ⟨hi, fun x H' hy => ?_⟩
  obtain ⟨rfl, rfl⟩ := hy
  exact ⟨.int (lo + i), by simp [hi], Fr.refl _ _, ok1, .int _⟩
def signs (x : Str) : List Cv := x.cps.toList.map fun c => .str ⟨#[c]⟩
theorem walk_str (x : Str) : WalkOk K Z (Its x) (signs x) (fun _ => True) S H := by
  intro Z' S1 H1 _ hz f ok1 _ i
  refine ⟨fun hi => ?_, fun hi => by
    have q : x.cps.size ≤ i := by simpa [signs] using hi
    exact q⟩
  have hi' : i < x.cps.size := by simpa [signs] using hi
  refine ⟨hi', fun v H' hy => ?_⟩
  obtain ⟨rfl, c, hc, rfl⟩ := hy
  exact ⟨.str ⟨#[c]⟩, by simp [signs, hc], Fr.refl _ _, ok1, .str _⟩
end

/-- the owned list at a -/
def ownL (S : Sto) (a : Addr) (Q : List Cv → Prop) : Prop := match S a with
  | some (.lst xs) => Q xs
  | _ => False
theorem ownL_of {S : Sto} {a : Addr} {Q : List Cv → Prop} (h : ownL S a Q) : ∃ xs, S a = some (.lst xs) ∧ Q xs := by
  unfold ownL at h
  split at h
  · exact ⟨_, by assumption, h⟩
  · exact h.elim
theorem ownL_to {S : Sto} {a : Addr} {Q : List Cv → Prop} {xs : List Cv} (e : S a = some (.lst xs)) (h : Q xs) : ownL S a Q := by
  unfold ownL
  rw [e]
  exact h
theorem ownL_imp {S : Sto} {a : Addr} {Q Q' : List Cv → Prop} (f : ∀ xs, Q xs → Q' xs) (h : ownL S a Q) : ownL S a Q' := by
  obtain ⟨xs, e, q⟩ := ownL_of h
  exact ownL_to e (f _ q)
/-! ### what a for walks: a list, a tuple, a text -/
def cSeqI (te : CE) : CI := fun ws S Q => te ws S fun w S1 => match w with
  | .tup xs => Q xs (fun _ => True) S1
  | .lst xs => Q xs (fun _ => True) S1
  | .str x => Q (signs x) (fun _ => True) S1
  | .ref a => ownL S1 a fun xs => Q xs (fun S => S a = some (.lst xs)) S1
  | _ => False
section
variable {X : Cx} {tg e : Expr} {pos : Pos}
theorem si_seq {te : CE} (he : SE X e te) : SI X tg e (cSeqI te) := by
  refine ⟨fun ws S Q Q' f h => he.mono _ _ _ _ (fun w S1 q => ?_) h, ⟨fun pins s σ H R I h => ?_⟩⟩
  · cases w with
    | tup xs => exact f _ _ _ q
    | lst xs => exact f _ _ _ q
    | str xs => exact f _ _ _ q
    | ref a => exact ownL_imp (fun xs q => f _ _ _ q) q
    | _ => exact q
  · obtain ⟨Z, S, ws, ok, re, h⟩ := h
    refine thn (he.ok.run pins s σ H (fun v H1 => ∃ S1 w, Fr S H S1 H1 ∧ StOk X.K Z S1 H1 ∧ Rep X.K Z S1 H1 w v ∧ (match w with
      | .tup xs => (fun xs G S' => ∀ J H', Fr S H S' H' → StOk X.K Z S' H' → WalkOk X.K Z J xs G S' H' → R J H') xs (fun _ => True) S1
      | .lst xs => (fun xs G S' => ∀ J H', Fr S H S' H' → StOk X.K Z S' H' → WalkOk X.K Z J xs G S' H' → R J H') xs (fun _ => True) S1
      | .str x => (fun xs G S' => ∀ J H', Fr S H S' H' → StOk X.K Z S' H' → WalkOk X.K Z J xs G S' H' → R J H') (signs x) (fun _ => True) S1
      | .ref a => ownL S1 a fun xs => (fun xs G S' => ∀ J H', Fr S H S' H' → StOk X.K Z S' H' → WalkOk X.K Z J xs G S' H' → R J H') xs (fun S => S a = some (.lst xs)) S1
      | _ => False)) I (liftE_of he.mono ok re h fun w S1 v H1 f1 ok1 r1 q1 => ⟨S1, w, f1, ok1, r1, q1⟩)) fun v s1 ⟨x, H1, I1, rv, S1, w, f1, ok1, r1, q1⟩ => ?_
    have list_it : ∀ {a : Addr} {vs : List V}, v = .ref a → SqL X.K H1 a vs → R (Itl X.K a) H1 → wpAny (model X.prog X.w) X.A (pyIter v) (PIE X pins σ tg R) X.xe s1 := by
      rintro a vs rfl sq hR
      obtain ⟨its, _, pl, _⟩ := I1.list sq
      refine wpAny_pyIter_list pl.isList ?_
      exact pi_one (tk := s1.toks) I1 _ (turn_list a _) ⟨_, Heap.get?_push_size _ rfl, rfl, rfl⟩ hR
    have tup_it : ∀ {a : Addr} {vs : List V}, v = .ref a → SqT X.K H1 a vs → R (Itt X.K a) H1 → wpAny (model X.prog X.w) X.A (pyIter v) (PIE X pins σ tg R) X.xe s1 := by
      rintro a vs rfl sq hR
      obtain ⟨its, _, pt, _⟩ := I1.tuple sq
      refine wpAny_pyIter_tuple (show s1.heap.IsTuple a its.toArray from pt) ?_
      exact pi_one (tk := s1.toks) I1 _ (turn_tuple a _) ⟨_, Heap.get?_push_size _ rfl, rfl, rfl⟩ hR
    cases w with
    | tup xs =>
      cases r1 with
      | tup hr n rr =>
        refine tup_it rv (.inl hr) (q1 _ H1 f1 ok1 (walk_tup (fun S2 H2 f => .inl (Rd.frz ok1 f rfl hr n).1) ok1 rr))
      | tupK hr rr => exact tup_it rv (hr H1) (q1 _ H1 f1 ok1 (walk_tup (fun S2 H2 f => hr H2) ok1 rr))
    | lst xs =>
      cases r1 with
      | lst hh n z rr => exact list_it rv (.inl (.inl hh)) (q1 _ H1 f1 ok1 (walk_lst (fun S2 H2 f => .inl (.inl (f.keep _ _ z hh n).1)) ok1 rr))
    | str z =>
      cases r1
      obtain ⟨t, rfl⟩ := rv
      have hR := q1 _ H1 f1 ok1 (walk_str z)
      cases ha : z.cps.all (· < 128)
      · exact wpAny_pyIter_wide ha (pi_one (tk := s1.toks) I1 _ (turn_str _ z t "str_iterator" (.inr rfl)) ⟨_, Heap.get?_push_size _ rfl, rfl, rfl⟩ hR)
      · exact wpAny_pyIter_ascii ha (pi_one (tk := s1.toks) I1 _ (turn_str _ z t "str_ascii_iterator" (.inl rfl)) ⟨_, Heap.get?_push_size _ rfl, rfl, rfl⟩ hR)
    | ref a =>
      cases r1
      obtain ⟨xs, e, q1⟩ := ownL_of q1
      obtain ⟨vs, hh, rr⟩ := ok1.ob a _ e
      exact list_it rv (.inl (.inl hh)) (q1 _ H1 f1 ok1 walk_own)
    | _ => exact q1.elim
/-- range(n), range(m, n) -/
def iota (lo : Int) (n : Nat) : List Cv := (List.range n).map fun (i : Nat) => .int (lo + i)
def cRng1 (ta : CA) : CI := fun ws S Q => ta ws S fun us S1 => match us with | [.int j] => (-(2 ^ 62) ≤ j ∧ j < 2 ^ 62) ∧ Q (iota 0 j.toNat) (fun _ => True) S1 | _ => False
def cRng2 (ta : CA) : CI := fun ws S Q => ta ws S fun us S1 => match us with | [.int i, .int j] => (-(2 ^ 62) ≤ i ∧ i < 2 ^ 62 ∧ -(2 ^ 62) ≤ j ∧ j < 2 ^ 62) ∧ Q (iota i (j - i).toNat) (fun _ => True) S1 | _ => False
theorem si_range1 {a : Expr} {ta : CA} {p : Pos} (hg : Gl X "range") (hm : X.mg "range" = none) (ha : SA X [a] ta) (hs : starEach [a] X.env = [(false, eval a X.env)] := by rfl) : SI X tg (.Call (.Name "range" p) [a] [] pos) (cRng1 ta) := by
  refine ⟨fun ws S Q Q' f h => ha.mono _ _ _ _ (fun us S1 q => ?_) h, (pi_range1 hg hm ha.ok hs).imp fun σ H R h => ?_⟩
  · split at q
    · exact ⟨q.1, f _ _ _ q.2⟩
    · exact q
  · obtain ⟨Z, S, ws, ok, re, h⟩ := h
    refine liftA_of ha.mono ok re h fun us S1 vs H1 f1 ok1 r1 q1 => ?_
    split at q1
    · rename_i j
      cases r1 with
      | cons a b =>
        cases a; cases b
        exact ⟨j, rfl, q1.1.1, q1.1.2, q1.2 _ H1 f1 ok1 (walk_range 0 _)⟩
    · exact q1.elim
theorem si_range2 {a b : Expr} {ta : CA} {p : Pos} (hg : Gl X "range") (hm : X.mg "range" = none) (ha : SA X [a, b] ta) (hs : starEach [a, b] X.env = [(false, eval a X.env), (false, eval b X.env)] := by rfl) (hs2 : starEach [b] X.env = [(false, eval b X.env)] := by rfl) : SI X tg (.Call (.Name "range" p) [a, b] [] pos) (cRng2 ta) := by
  refine ⟨fun ws S Q Q' f h => ha.mono _ _ _ _ (fun us S1 q => ?_) h, (pi_range2 hg hm ha.ok hs hs2).imp fun σ H R h => ?_⟩
  · split at q
    · exact ⟨q.1, f _ _ _ q.2⟩
    · exact q
  · obtain ⟨Z, S, ws, ok, re, h⟩ := h
    refine liftA_of ha.mono ok re h fun us S1 vs H1 f1 ok1 r1 q1 => ?_
    split at q1
    · rename_i i j
      cases r1 with
      | cons a b =>
        cases a
        cases b with
        | cons a b =>
          cases a; cases b
          exact ⟨i, j, rfl, q1.1, q1.2 _ H1 f1 ok1 (walk_range i _)⟩
    · exact q1.elim
end

/-! ### two clauses, as an expression -/
section
variable {X : Cx} {pos : Pos} {elt tg iter tg1 iter1 : Expr} {ifs ifs1 : List Expr} {scope : Scope} {own : List (Str × Nat)} {vs1 : List Nat} {ti ti1 : CI} {g g1 : CG} {is is1 : List Nat} {tt tt1 : CT} {te : CE}
theorem s_lc2 (hc : X.calm = true) (hN : X.N.Nodup) (hi : SI X tg iter ti) (ok : BlkOk X.N X.env.scope scope own) (hv : ∀ i ∈ vs1, i ∈ own.map (·.2))
    (hg : ∀ (s : Shared) (H : Hp) (C : Addr) (cl : List (Str × Addr)) (fp : List Addr), SG (X.blk s H scope (compEnvC scope cl C X.env) fp) tg g is)
    (ht : ∀ (s : Shared) (H : Hp) (C : Addr) (cl : List (Str × Addr)) (fp : List Addr), STs (X.blk s H scope (compEnvC scope cl C X.env) fp) ifs tt)
    (hi1 : ∀ (s : Shared) (H : Hp) (C : Addr) (cl : List (Str × Addr)) (fp : List Addr), SI (X.blk s H scope (compEnvC scope cl C X.env) fp) tg1 iter1 ti1)
    (hg1 : ∀ (s : Shared) (H : Hp) (C : Addr) (cl : List (Str × Addr)) (fp : List Addr), SG (X.blk s H scope (compEnvC scope cl C X.env) fp) tg1 g1 is1)
    (ht1 : ∀ (s : Shared) (H : Hp) (C : Addr) (cl : List (Str × Addr)) (fp : List Addr), STs (X.blk s H scope (compEnvC scope cl C X.env) fp) ifs1 tt1)
    (he : ∀ (s : Shared) (H : Hp) (C : Addr) (cl : List (Str × Addr)) (fp : List Addr), SE (X.blk s H scope (compEnvC scope cl C X.env) fp) elt te)
    (hsub : ∀ i ∈ is, i ∈ own.map (·.2) := by decide) (hsub1 : ∀ i ∈ is1, i ∈ vs1 := by decide) (hs : ∀ x, foldedSetIterable iter X.env x = pure x := by intro _; rfl) (hs1 : ∀ env x, foldedSetIterable iter1 env x = pure x := by intro _ _; rfl) :
    SE X (.ListComp elt [⟨tg, iter, ifs, 0⟩, ⟨tg1, iter1, ifs1, 0⟩] scope pos) (cLc2 ti g tt ti1 g1 tt1 te (own.map (·.2)) vs1) := by
  have mg : MonG g := (hg X.s_0 X.H_0 0 [] []).mono
  have mt : MonT tt := (ht X.s_0 X.H_0 0 [] []).mono
  have mi1 : MonI ti1 := (hi1 X.s_0 X.H_0 0 [] []).mono
  have mg1 : MonG g1 := (hg1 X.s_0 X.H_0 0 [] []).mono
  have mt1 : MonT tt1 := (ht1 X.s_0 X.H_0 0 [] []).mono
  have me : MonE te := (he X.s_0 X.H_0 0 [] []).mono
  refine ⟨fun ws S Q Q' f h => hi.mono _ _ _ _ (fun xs G S1 q => lc2L_mono mg mt mi1 mg1 mt1 me (fun ys S2 q2 => f _ _ q2) xs [] S1 q) h,
    (pe_lc2 (g := liftG X.K g is) (tt := liftT X.K tt) (wi1 := liftI X.K ti1) (g1 := liftG X.K g1 is1) (tt1 := liftT X.K tt1) (te := liftE X.K te) hc hN hi.ok ok hv (fun s H C cl fp => (hg s H C cl fp).ok) (fun s H C cl fp => (ht s H C cl fp).ok) (fun s H C cl fp => (hi1 s H C cl fp).ok) (fun s H C cl fp => (hg1 s H C cl fp).ok) (fun s H C cl fp => (ht1 s H C cl fp).ok) (fun s H C cl fp => (he s H C cl fp).ok) hs hs1).imp fun σ H Q h => ?_⟩
  obtain ⟨Z, S, ws, ok', re, h⟩ := h
  refine lc2_ok hi.mono mg mt mi1 mg1 mt1 me hsub hsub1 ok' re h fun ys S' D vs' H' f ok2 hD0 hD r q => ?_
  exact q (.ref D) H' f (ok2.sub fun _ z => List.mem_cons_of_mem _ z) (.lst hD (ok2.hid D List.mem_cons_self).1 (ok'.notZ hD0) (r.sub fun _ z => List.mem_cons_of_mem _ z))
end

/-! ### calls -/
/-- room, and nothing is being shown -/
structure RoomG (k : Nat) (A : Around) : Prop where
  room : Room k A
  gd : A.guards = some []
theorem RoomG.mono {j k : Nat} {A : Around} (r : RoomG k A) (h : j ≤ k) : RoomG j A := ⟨r.room.mono h, r.gd⟩
/-- what is raised: the class, the fields -/
structure Ex where
  cls : Value
  fs : Option (List (Str × Cv))
abbrev CSp := List Cv → Sto → (Cv → Sto → Prop) → (Ex → Sto → Prop) → Prop
def MonSp (sp : CSp) : Prop := ∀ us S (Q Q' : Cv → Sto → Prop) (E E' : Ex → Sto → Prop), (∀ w S', Q w S' → Q' w S') → (∀ x S', E x S' → E' x S') → sp us S Q E → sp us S Q' E'
def liftX (K : Fg) (Z : List Addr) (S : Sto) (H : Hp) (E : XK) : Ex → Sto → Prop := fun x S' => ∀ H', Fr S H S' H' → StOk K Z S' H' →
  match x.fs with
  | none => E x.cls none H'
  | some fs => ∀ d fvs, H' d = some (.xd fvs) → S' d = none → fs.map Prod.fst = fvs.map Prod.fst → Reps K Z S' H' (fs.map Prod.snd) (fvs.map Prod.snd) → E x.cls (some d) H'
def liftSp (K : Fg) (sp : CSp) : Sp := fun vs H Q E => ∃ Z S us, StOk K Z S H ∧ Reps K Z S H us vs ∧ sp us S (fun w S' => ∀ v H', Fr S H S' H' → StOk K Z S' H' → Rep K Z S' H' w v → Q v H') (liftX K Z S H E)
structure FnG (P : Program) (w : World) (K : Fg) (mg : Str → Option Value) (base : Heap) (CX : CXT) (k : Nat) (f : Addr) (fd : FuncData) (ps : List Str) (sp : CSp) : Prop where
  mono : MonSp sp
  len : ∀ us S Q E, sp us S Q E → us.length = ps.length
  run : ∀ (A : Around) (outer : List PySem.Env) (s : Shared) (H : Hp) (args : Args) (us : List Value) (vs : List V) (Q : VK) (E : XK), RoomG k A → Env0 P w K mg base A outer s H → BindsTo s fd args (ps.zip us) → Vals vs us → liftSp K sp vs H Q E →
    codeAny (model P w) A (.call (.ref f) args) (CR CX outer P w H s Q E) s
theorem FnG.mono_k {P : Program} {w : World} {K : Fg} {mg : Str → Option Value} {base : Heap} {CX : CXT} {j k : Nat} {f : Addr} {fd : FuncData} {ps : List Str} {sp : CSp} (F : FnG P w K mg base CX j f fd ps sp) (h : j ≤ k) : FnG P w K mg base CX k f fd ps sp :=
  ⟨F.mono, F.len, fun A outer s H args us vs Q E hr => F.run A outer s H args us vs Q E (hr.mono h)⟩
theorem FnG.imp {P : Program} {w : World} {K : Fg} {mg : Str → Option Value} {base : Heap} {CX : CXT} {k : Nat} {f : Addr} {fd : FuncData} {ps : List Str} {sp sp' : CSp} (F : FnG P w K mg base CX k f fd ps sp) (m : MonSp sp') (h : ∀ us S Q E, sp' us S Q E → sp us S Q E) : FnG P w K mg base CX k f fd ps sp' :=
  ⟨m, fun us S Q E q => F.len us S Q E (h _ _ _ _ q), fun A outer s H args us vs Q E hr e0 hb r q => F.run A outer s H args us vs Q E hr e0 hb r (by
    obtain ⟨Z, S, ws, ok, re, q⟩ := q
    exact ⟨Z, S, ws, ok, re, h _ _ _ _ q⟩)⟩

section
variable {X : Cx} {CX : CXT} {k : Nat} {f : Addr} {fd : FuncData} {ps : List Str} {sp : CSp} {x : Str} {p pos : Pos} {e : Expr} {es : List Expr} {ta : CA}
/-- no exception leaves -/
def X0 : Ex → Sto → Prop := fun _ _ => False
def cCall (sp : CSp) (E : Ex → Sto → Prop) (ta : CA) : CE := fun ws S Q => ta ws S fun us S1 => sp us S1 Q E
theorem run_g {pins : List (Addr × Obj)} {σ : L2.St} {H : Hp} {s : Shared} {Q : VK} {E : XK} {us : List Value} {vs : List V} (F : FnG X.prog X.w X.K X.mg X.base CX k f fd ps sp) (hr : RoomG k X.A) (hb : Binds X.K fd ps []) (hx : Passes CX X E)
    (I : Inv X pins σ H s) (r : Vals vs us) (h : liftSp X.K sp vs H Q E) : wpAny (model X.prog X.w) X.A (call (.ref f) us) (EP X pins σ Q) X.xe s := by
  have hl : (us ++ []).length = ps.length := by
    obtain ⟨Z, S, ws, ok, re, q⟩ := h
    have := F.len _ _ _ _ q
    rw [List.append_nil, ← r.length, ← re.length]
    exact this
  have hb' := hb s us I.kIn hl
  rw [List.append_nil] at hb'
  refine wpAny_call (codeAny_mono (F.run X.A X.stack s H ⟨us, []⟩ us vs Q E hr I.env0 hb' r h) fun rr s' hq => ?_)
  cases rr with
  | error ev => exact hx pins σ H s ev s' I hq
  | ok fl =>
    cases fl with
    | ret u => exact I.after hq
    | next => exact False.elim hq
    | brk => exact False.elim hq
    | cont => exact False.elim hq
theorem cCall_mono {E : Ex → Sto → Prop} (hs : MonSp sp) (ha : MonA ta) : MonE (cCall sp E ta) := fun ws S Q Q' f h => ha _ _ _ _ (fun us S1 q => hs _ _ _ _ _ _ f (fun _ _ z => z) q) h
theorem s_call (F : FnG X.prog X.w X.K X.mg X.base CX0 k f fd ps sp) (hr : RoomG k X.A) (hm : X.mg x = some (.ref f)) (hk : PySem.W.keepIn X.K (.ref f) = true) (hb : Binds X.K fd ps []) (ha : SA X (e :: es) ta) (hg : Gl X x := by rfl)
    (hdb : (x == ("__debug__" : Str)) = false := by decide) (he : starEach (e :: es) X.env = (false, eval e X.env) :: starEach es X.env := by rfl) (hpl : (backTo pos (starEach es X.env)).any (·.1) = false := by rfl) :
    SE X (.Call (.Name x p) (e :: es) [] pos) (cCall sp X0 ta) := by
  refine ⟨cCall_mono F.mono ha.mono, ⟨fun pins s σ H Q I h => ?_⟩⟩
  obtain ⟨Z, S, ws, ok, re, h⟩ := h
  refine wpAny_Call_Name_kw (ld_glob I hg hm ?_ hdb)
  refine PySem.W.callWith_K (h₀ := X.base) I.ok.mod.kin hk ?_ he hpl
  refine thn (ha.ok.run pos pins s σ H (fun vs H1 => liftSp X.K sp vs H1 Q E0) I (liftA_of ha.mono ok re h fun us S1 vs H1 f1 ok1 r1 q1 => ?_)) fun us s1 ⟨vs, H1, I1, r, q⟩ => ⟨I1.kIn, run_g F hr hb pass0 I1 r q⟩
  exact ⟨Z, S1, us, ok1, r1, F.mono _ _ _ _ _ _ (fun w S' g v H' a b c => g v H' (f1.trans a) b c) (fun _ _ z => z.elim) q1⟩
/-- f() -/
theorem s_call0 (F : FnG X.prog X.w X.K X.mg X.base CX0 k f fd ps sp) (hr : RoomG k X.A) (hm : X.mg x = some (.ref f)) (hk : PySem.W.keepIn X.K (.ref f) = true) (hb : Binds X.K fd ps []) (hg : Gl X x := by rfl)
    (hdb : (x == ("__debug__" : Str)) = false := by decide) : SE X (.Call (.Name x p) [] [] pos) (cCall sp X0 cNil) := by
  refine ⟨cCall_mono F.mono fun _ _ _ _ f h => f _ _ h, ⟨fun pins s σ H Q I h => ?_⟩⟩
  obtain ⟨Z, S, ws, ok, re, h⟩ := h
  refine wpAny_Call_Name_kw (ld_glob I hg hm ?_ hdb)
  refine PySem.W.callWith_K0 I.kIn hk (run_g (us := []) (vs := []) (Q := Q) (E := E0) F hr hb pass0 I .nil ?_)
  exact ⟨Z, S, [], ok, .nil, F.mono _ _ _ _ _ _ (fun w S' g v H' a b c => g v H' a b c) (fun _ _ z => z.elim) h⟩
end

/-! ### what a def hands back -/
/-- from the store at the end to what the caller sees: objects of the call's own may be forgotten, a list of its own may be frozen -/
def Hand (S : Sto) (w : Cv) (S' : Sto) (Q : Cv → Sto → Prop) : Prop :=
  ∃ S'' w', (∀ a o, S'' a = some o → S' a = some o) ∧ (w' = w ∨ ∃ a, w = .ref a ∧ S'' a = none ∧ ((∃ xs, S' a = some (.lst xs) ∧ w' = .lst xs) ∨ (∃ xs, S' a = some (.dK xs) ∧ w' = .dK xs) ∨ ∃ xs, S' a = some (.dT xs) ∧ w' = .dT xs)) ∧ Q w' S''
theorem Hand.mono {S S' : Sto} {w : Cv} {Q Q' : Cv → Sto → Prop} (f : ∀ w S', Q w S' → Q' w S') (h : Hand S w S' Q) : Hand S w S' Q' := by
  obtain ⟨S2, w2, a, b, q⟩ := h
  exact ⟨S2, w2, a, b, f _ _ q⟩
theorem hand_id {S S' : Sto} {w : Cv} {Q : Cv → Sto → Prop} (q : Q w S') : Hand S w S' Q := ⟨S', w, fun _ _ h => h, .inl rfl, q⟩
theorem less_none {S S' : Sto} (hs : ∀ a o, S' a = some o → S a = some o) {a : Addr} (n : S a = none) : S' a = none := by
  cases e : S' a with
  | none => rfl
  | some o => rw [hs a o e] at n; cases n
section
variable {K : Fg} {Z : List Addr} {S S' : Sto} {H : Hp}
mutual
theorem Rep.less (hs : ∀ a o, S' a = some o → S a = some o) : ∀ {w : Cv} {v : V}, Rep K Z S H w v → Rep K Z S' H w v
  | _, _, .non => .non
  | _, _, .bl b => .bl b
  | _, _, .int i => .int i
  | _, _, .str x => .str x
  | _, _, .tup h n r => .tup h (less_none hs n) (Reps.less hs r)
  | _, _, .tupK h r => .tupK h (Reps.less hs r)
  | _, _, .lst h n z r => .lst h (less_none hs n) z (Reps.less hs r)
  | _, _, .scr h n r => .scr h (less_none hs n) (Reps.less hs r)
  | _, _, .tupF h n r d => .tupF h (less_none hs n) (Reps.less hs r) d
  | _, _, .scrK h r => .scrK h (Reps.less hs r)
  | _, _, .dK h n z e r => .dK h (less_none hs n) z e (Reps.less hs r)
  | _, _, .dT h n z e r => .dT h (less_none hs n) z e (Reps.less hs r)
  | _, _, .ref a => .ref a
  | _, _, .opq v => .opq v
theorem Reps.less (hs : ∀ a o, S' a = some o → S a = some o) : ∀ {ws : List Cv} {vs : List V}, Reps K Z S H ws vs → Reps K Z S' H ws vs
  | _, _, .nil => .nil
  | _, _, .cons a r => .cons (Rep.less hs a) (Reps.less hs r)
end
theorem RepOb.less (hs : ∀ a o, S' a = some o → S a = some o) {a : Addr} {o : Ob} (h : RepOb K Z S H a o) : RepOb K Z S' H a o := by
  cases o with
  | lst ws => obtain ⟨vs, h1, h2⟩ := h; exact ⟨vs, h1, h2.less hs⟩
  | dK ws => obtain ⟨vs, h1, h3, h2⟩ := h; exact ⟨vs, h1, h3, h2.less hs⟩
  | dT ws => obtain ⟨vs, h1, h3, h2⟩ := h; exact ⟨vs, h1, h3, h2.less hs⟩
  | ins C dx fs => obtain ⟨vs, h1, h3, h2⟩ := h; exact ⟨vs, h1, h3, h2.less hs⟩
theorem StOk.less (hs : ∀ a o, S' a = some o → S a = some o) (ok : StOk K Z S H) : StOk K Z S' H :=
  ⟨fun a o e => (ok.ob a o (hs a o e)).less hs, fun a z => let ⟨n, r⟩ := ok.hid a z; ⟨less_none hs n, r⟩⟩
theorem Fr.less {S0 : Sto} {H0 : Hp} (hs : ∀ a o, S' a = some o → S a = some o) (f : Fr S0 H0 S H) : Fr S0 H0 S' H :=
  ⟨fun a o e n => let ⟨h1, h2⟩ := f.keep a o e n; ⟨h1, less_none hs h2⟩, f.dom⟩
theorem hand_ok {S0 : Sto} {H0 : Hp} {w : Cv} {v : V} {R : Cv → Sto → Prop} {Q : VK} (f : Fr S0 H0 S H) (ok : StOk K Z S H) (r : Rep K Z S H w v) (h : Hand S0 w S R)
    (q : ∀ w' S' v' H', Fr S0 H0 S' H' → StOk K Z S' H' → Rep K Z S' H' w' v' → R w' S' → Q v' H') : Q v H := by
  obtain ⟨S2, w2, hs, hw, h⟩ := h
  refine q w2 S2 v H (f.less hs) (ok.less hs) ?_ h
  rcases hw with e | ⟨a, e, n, hw⟩
  · rw [e]; exact r.less hs
  · subst e
    cases r
    have nz : ∀ o, S a = some o → a ∉ Z := fun o e z => by rw [(ok.hid a z).1] at e; cases e
    rcases hw with ⟨xs, e, rfl⟩ | ⟨xs, e, rfl⟩ | ⟨xs, e, rfl⟩
    · obtain ⟨vs, h1, h2⟩ := ok.ob a _ e
      exact .lst h1 n (nz _ e) (h2.less hs)
    · obtain ⟨vs, h1, h3, h2⟩ := ok.ob a _ e
      exact .dK h1 n (nz _ e) h3 (h2.less hs)
    · obtain ⟨vs, h1, h3, h2⟩ := ok.ob a _ e
      exact .dT h1 n (nz _ e) h3 (h2.less hs)
end

/-! ### a def's body -/
def cstart (N : List Str) (us : List Cv) : CL.Env := us.map some ++ List.replicate (N.length - us.length) none
theorem repSt_start {K : Fg} {Z : List Addr} {S : Sto} {H : Hp} {N : List Str} {us : List Cv} {vs : List V} (r : Reps K Z S H us vs) : RepSt K Z S H (L2.start N vs) (cstart N us) := by
  have hl := r.length
  refine ⟨by unfold L2.start cstart; simp [hl], fun i w e => ?_⟩
  unfold cstart at e
  by_cases hi : i < us.length
  · rw [List.getElem?_append_left (by simpa using hi)] at e
    have e' : us[i]? = some w := by simpa using e
    obtain ⟨v, h1, h2⟩ := r.get e'
    refine ⟨v, ?_, h2⟩
    unfold L2.start
    rw [List.getElem?_append_left (by rw [List.length_map, ← hl]; exact hi), List.getElem?_map, h1]
    rfl
  · rw [List.getElem?_append_right (by simpa using hi)] at e
    rw [List.getElem?_replicate] at e
    split at e <;> cases e
/-- the ends of a body -/
def bodyEnds (S : Sto) (Q : Cv → Sto → Prop) : CEnds := { nx := fun _ S' => Hand S .non S' Q, rt := fun w S' => Hand S w S' Q }
section
variable {P : Program} {w : World} {K : Fg} {mg : Str → Option Value} {base : Heap}
theorem fn_mk {x qual : Str} {st : Stmt} {f : Addr} {fd : FuncData} {N ps : List Str} {k : Nat} {sp : CSp} {t : CS} (F : Fun K x qual st f fd) (Sc : FnScope N ps (defScope st)) (mono : MonSp sp) (len : ∀ us S Q E, sp us S Q E → us.length = ps.length)
    (hb : ∀ (cdv : Value) (A : Around) (outer : List PySem.Env) (s : Shared) (H : Hp) (E : XK), RoomG k (A.deeper (envOfC qual (defScope st) s.heap.objs.size f cdv)) → SSs (cxOf L2.CX0 P w K mg base N qual (defScope st) f cdv A outer s H E).nox (defBody st) t)
    (hsp : ∀ us S Q E, sp us S Q E → t (bodyEnds S Q) (cstart N us) S) : FnG P w K mg base L2.CX0 (k + 1) f fd ps sp := by
  obtain ⟨oc, od, kV, doc, pm, an, cdv, ct, osl, rfl, lk, hcd⟩ := F.ex
  refine ⟨mono, len, fun A outer s H args us vs Q E hr e0 hbd rv hl => ?_⟩
  obtain ⟨Z, S, ws, ok, re, hq⟩ := hl
  have hlen : vs.length = ps.length := by
    rw [← re.length]
    exact len _ _ _ _ hq
  have kin : K.In s.heap := e0.mod.kin.keeps fun b o e => (e0.bs b o e).1
  have nolim : s.heap.NoLimit := e0.mod.nolimit.keeps fun b o e => (e0.bs b o e).1
  have kinds : ∀ y ∈ ps.zip us, (defScope st).names.lookup y.1 = some .local ∨
      ((defScope st).names.lookup y.1 = some .cell ∧ ((cellsFrom (s.heap.objs.size + 1) (defScope st).names []).lookup y.1).isSome = true) := by
    rintro ⟨n, u⟩ hy
    rcases Sc.par n (List.of_mem_zip hy).1 with q | q
    · exact .inl q
    · exact .inr ⟨q, PySem.W.cellsFrom_some _ _ _ (.inl q)⟩
  refine codeAny_call_function hr.room.depth (kin _ _ lk) rfl Sc.co Sc.gen rfl
    (PySem.W.codeRec_of kin hcd) (hbd _ _ _ _ ?_)
  refine wpAny_newFunctionEnv_cells Sc.kind kinds fun env he s1 hx => ?_
  subst he
  refine ⟨nolim.keeps hx.toInCall.keep, codeAny_func ?_⟩
  have I := inv_start (CX := L2.CX0) (K := K) (mg := mg) (E := E) (cd := cdv) Sc hr.room.hd e0 hlen rv hx
  have body := hb cdv A outer s H E ⟨hr.room.deeper _, hr.gd⟩
  have goal : liftS K t { nx := fun _ H' => Q .non H', rt := Q } (L2.start N vs) H := by
    refine ⟨Z, S, cstart N ws, ok, repSt_start re, body.mono (bodyEnds S fun u S' => ∀ v H', Fr S H S' H' → StOk K Z S' H' → Rep K Z S' H' u v → Q v H') _ _ _ ⟨?_, ?_, fun _ _ h => False.elim h, fun _ _ h => False.elim h⟩ (hsp ws S _ _ hq)⟩
    · exact fun ws' S' h σ' H' f1 ok1 _ => hand_ok f1 ok1 .non h fun w' S2 v' H2 f2 ok2 r2 q => q v' H2 f2 ok2 r2
    · exact fun u S' h v H' f1 ok1 r1 => hand_ok f1 ok1 r1 h fun w' S2 v' H2 f2 ok2 r2 q => q v' H2 f2 ok2 r2
  have run := body.ok.nox
  refine wpAny_mono (run.run [] s1 (L2.start N vs) H _ I goal) (fun fl s' hs => ?_) fun e s' hs => hs
  cases fl with
  | ret u =>
    obtain ⟨v, σ', H', J, r1, q⟩ := hs
    exact ⟨v, H', J.os, J.bare, J.base, J.hok, r1, q⟩
  | next =>
    obtain ⟨σ', H', J, q⟩ := hs
    exact ⟨V.non, H', J.os, J.bare, J.base, J.hok, rfl, q⟩
  | brk =>
    obtain ⟨_, _, _, q⟩ := hs
    exact False.elim q
  | cont =>
    obtain ⟨_, _, _, q⟩ := hs
    exact False.elim q
end
end CL

set_option Elab.async false
set_option linter.all false
set_option maxRecDepth 100000
set_option maxHeartbeats 4000000
/-! CL5: operations by values -/
namespace CL
open PySem PySem.Spec PyProof.Rows L2

/-! ### an owned object read -/
def deref (w : Cv) (S : Sto) : Option Cv := match w with
  | .ref a => (match S a with | some (.lst xs) => some (.lst xs) | some (.dK kvs) => some (.dK kvs) | some (.dT kvs) => some (.dT kvs) | _ => none)
  | w => some w
/-- the clean value stands for v, owned or not -/
def RepD (K : Fg) (Z : List Addr) (S : Sto) (H : Hp) (w : Cv) (v : V) : Prop := match w with
  | .lst xs => ∃ a vs, v = .ref a ∧ H a = some (.lst vs) ∧ Reps K Z S H xs vs
  | .dK kws => ∃ a kvs, v = .ref a ∧ H a = some (.dK kvs) ∧ kws.map Prod.fst = kvs.map Prod.fst ∧ Reps K Z S H (kws.map Prod.snd) (kvs.map Prod.snd)
  | .dT kws => ∃ a kvs, v = .ref a ∧ H a = some (.dT kvs) ∧ kws.map Prod.fst = kvs.map Prod.fst ∧ Reps K Z S H (kws.map Prod.snd) (kvs.map Prod.snd)
  | .ref _ => False
  | w => Rep K Z S H w v
section
variable {K : Fg} {Z : List Addr} {S : Sto} {H : Hp}
theorem deref_ok {w w' : Cv} {v : V} (ok : StOk K Z S H) (r : Rep K Z S H w v) (e : deref w S = some w') : RepD K Z S H w' v := by
  cases r with
  | ref a =>
    unfold deref at e
    cases hS : S a with
    | none => simp [hS] at e
    | some o =>
      have ro := ok.ob a o hS
      cases o with
      | lst xs =>
        simp [hS] at e; subst e
        obtain ⟨vs, h1, h2⟩ := ro
        exact ⟨a, vs, rfl, h1, h2⟩
      | dK xs =>
        simp [hS] at e; subst e
        obtain ⟨vs, h1, h2, h3⟩ := ro
        exact ⟨a, vs, rfl, h1, h2, h3⟩
      | dT xs =>
        simp [hS] at e; subst e
        obtain ⟨vs, h1, h2, h3⟩ := ro
        exact ⟨a, vs, rfl, h1, h2, h3⟩
      | ins C dx fs => simp [hS] at e
  | lst h n z rr => cases e; exact ⟨_, _, rfl, h, rr⟩
  | dK h n z e2 rr => cases e; exact ⟨_, _, rfl, h, e2, rr⟩
  | dT h n z e2 rr => cases e; exact ⟨_, _, rfl, h, e2, rr⟩
  | non => cases e; exact .non
  | bl b => cases e; exact .bl b
  | int b => cases e; exact .int b
  | str b => cases e; exact .str b
  | tup a b c => cases e; exact .tup a b c
  | tupK a b => cases e; exact .tupK a b
  | opq v => cases e; exact .opq v
  | scr a b c => cases e; exact .scr a b c
  | tupF a b c d => cases e; exact .tupF a b c d
  | scrK a b => cases e; exact .scrK a b
/-- a list or a tuple, as it is read -/
def seqOf : Cv → Option (List Cv)
  | .lst xs => some xs
  | .tup xs => some xs
  | .scr xs => some xs
  | _ => none
theorem RepD.seq {w : Cv} {v : V} {xs : List Cv} (r : RepD K Z S H w v) (e : seqOf w = some xs) : ∃ a vs, v = .ref a ∧ (SqL K H a vs ∨ SqT K H a vs) ∧ Reps K Z S H xs vs := by
  cases w with
  | lst ys => cases e; obtain ⟨a, vs, rfl, h, rr⟩ := r; exact ⟨a, vs, rfl, .inl (.inl (.inl h)), rr⟩
  | tup ys =>
    cases e
    cases r with
    | tup h n rr => exact ⟨_, _, rfl, .inr (.inl h), rr⟩
    | tupK h rr => exact ⟨_, _, rfl, .inr (h H), rr⟩
  | scr ys =>
    cases e
    cases r with
    | scr h n rr => exact ⟨_, _, rfl, .inl (.inl (.inr ⟨_, h⟩)), rr⟩
    | scrK h rr => exact ⟨_, _, rfl, .inl (h H), rr⟩
  | _ => cases e
end

/-! ### data and their equality -/
mutual
def isD : Cv → Bool
  | .non | .bl _ | .int _ => true
  | .str x => PyData.strOk x
  | .tup xs => isDs xs
  | .lst xs => isDs xs
  | _ => false
def isDs : List Cv → Bool
  | [] => true
  | x :: r => isD x && isDs r
end
mutual
def py : Cv → PyData
  | .bl b => .bool b
  | .int i => .int i
  | .str x => .str x
  | .tup xs => .tuple (pys xs)
  | .lst xs => .list (pys xs)
  | _ => .none
def pys : List Cv → List PyData
  | [] => []
  | x :: r => py x :: pys r
end
mutual
def dep : Cv → Nat
  | .tup xs => deps xs + 1
  | .lst xs => deps xs + 1
  | _ => 0
def deps : List Cv → Nat
  | [] => 0
  | x :: r => max (dep x) (deps r)
end
mutual
def ceq : Cv → Cv → Bool
  | .non, .non => true
  | .bl a, .bl b => a == b
  | .bl a, .int j => (if a then 1 else 0) == j
  | .int i, .bl b => i == (if b then 1 else 0)
  | .int i, .int j => i == j
  | .str x, .str y => x == y
  | .tup xs, .tup ys => ceqs xs ys
  | .lst xs, .lst ys => ceqs xs ys
  | _, _ => false
def ceqs : List Cv → List Cv → Bool
  | [], [] => true
  | x :: xs, y :: ys => ceq x y && ceqs xs ys
  | _, _ => false
end
mutual
theorem canLay_py : ∀ w : Cv, isD w = true → (py w).canLay0 = true
  | .non, _ => by simp [py, PyData.canLay0]
  | .bl b, _ => by simp [py, PyData.canLay0]
  | .int i, _ => by simp [py, PyData.canLay0]
  | .str x, h => by simpa [py, PyData.canLay0, isD] using h
  | .tup xs, h => by simp [py, PyData.canLay0, canLay_pys xs (by simpa [isD] using h)]
  | .lst xs, h => by simp [py, PyData.canLay0, canLay_pys xs (by simpa [isD] using h)]
  | .dK _, h => by simp [isD] at h
  | .dT _, h => by simp [isD] at h
  | .ref _, h => by simp [isD] at h
  | .opq _, h => by simp [isD] at h
  | .scr _, h => by simp [isD] at h
  | .tupF _, h => by simp [isD] at h
theorem canLay_pys : ∀ xs : List Cv, isDs xs = true → PyData.canLayAll0 (pys xs) = true
  | [], _ => by simp [pys, PyData.canLayAll0]
  | x :: r, h => by
    simp only [isDs, Bool.and_eq_true] at h
    simp [pys, PyData.canLayAll0, canLay_py x h.1, canLay_pys r h.2]
end
mutual
theorem depth_py : ∀ w : Cv, (py w).depth = dep w
  | .non => by simp [py, PyData.depth, dep]
  | .bl b => by simp [py, PyData.depth, dep]
  | .int i => by simp [py, PyData.depth, dep]
  | .str x => by simp [py, PyData.depth, dep]
  | .tup xs => by simp [py, PyData.depth, dep, depth_pys xs]
  | .lst xs => by simp [py, PyData.depth, dep, depth_pys xs]
  | .dK _ => by simp [py, PyData.depth, dep]
  | .dT _ => by simp [py, PyData.depth, dep]
  | .ref _ => by simp [py, PyData.depth, dep]
  | .opq _ => by simp [py, PyData.depth, dep]
  | .scr _ => by simp [py, PyData.depth, dep]
  | .tupF _ => by simp [py, PyData.depth, dep]
theorem depth_pys : ∀ xs : List Cv, PyData.depthAll (pys xs) = deps xs
  | [] => by simp [pys, PyData.depthAll, deps]
  | x :: r => by simp [pys, PyData.depthAll, deps, depth_py x, depth_pys r]
end
theorem shaped_py {w : Cv} (hd : isD w = true) (h : dep w ≤ 64) : SeqAt.shaped (py w) = true := by
  unfold SeqAt.shaped
  rw [canLay_py w hd, depth_py]
  simp [h]
mutual
theorem eqv_py : ∀ a b : Cv, isD a = true → isD b = true → PyData.eqv (py a) (py b) = ceq a b
  | .non, b, _, hb => by cases b <;> first | (simp [isD] at hb; done) | (simp [py, PyData.eqv, ceq]; done) | (simp [isD] at hb; simp [py, PyData.eqv, ceq]; done)
  | .bl x, b, _, hb => by cases b <;> first | (simp [isD] at hb; done) | (simp [py, PyData.eqv, ceq]; done) | (simp [isD] at hb; simp [py, PyData.eqv, ceq]; done)
  | .int x, b, _, hb => by cases b <;> first | (simp [isD] at hb; done) | (simp [py, PyData.eqv, ceq]; done) | (simp [isD] at hb; simp [py, PyData.eqv, ceq]; done)
  | .str x, b, _, hb => by cases b <;> first | (simp [isD] at hb; done) | (simp [py, PyData.eqv, ceq]; done) | (simp [isD] at hb; simp [py, PyData.eqv, ceq]; done)
  | .tup xs, .tup ys, ha, hb => by simp only [py, PyData.eqv, ceq]; exact eqv_pys xs ys (by simpa [isD] using ha) (by simpa [isD] using hb)
  | .lst xs, .lst ys, ha, hb => by simp only [py, PyData.eqv, ceq]; exact eqv_pys xs ys (by simpa [isD] using ha) (by simpa [isD] using hb)
  | .tup xs, .non, _, _ => by simp [py, PyData.eqv, ceq]
  | .tup xs, .bl _, _, _ => by simp [py, PyData.eqv, ceq]
  | .tup xs, .int _, _, _ => by simp [py, PyData.eqv, ceq]
  | .tup xs, .str _, _, _ => by simp [py, PyData.eqv, ceq]
  | .tup xs, .lst _, _, _ => by simp [py, PyData.eqv, ceq]
  | .lst xs, .non, _, _ => by simp [py, PyData.eqv, ceq]
  | .lst xs, .bl _, _, _ => by simp [py, PyData.eqv, ceq]
  | .lst xs, .int _, _, _ => by simp [py, PyData.eqv, ceq]
  | .lst xs, .str _, _, _ => by simp [py, PyData.eqv, ceq]
  | .lst xs, .tup _, _, _ => by simp [py, PyData.eqv, ceq]
  | .tup _, .dK _, _, hb => by simp [isD] at hb
  | .tup _, .dT _, _, hb => by simp [isD] at hb
  | .tup _, .ref _, _, hb => by simp [isD] at hb
  | .tup _, .opq _, _, hb => by simp [isD] at hb
  | .tup _, .scr _, _, hb => by simp [isD] at hb
  | .tup _, .tupF _, _, hb => by simp [isD] at hb
  | .lst _, .dK _, _, hb => by simp [isD] at hb
  | .lst _, .dT _, _, hb => by simp [isD] at hb
  | .lst _, .ref _, _, hb => by simp [isD] at hb
  | .lst _, .opq _, _, hb => by simp [isD] at hb
  | .lst _, .scr _, _, hb => by simp [isD] at hb
  | .lst _, .tupF _, _, hb => by simp [isD] at hb
  | .dK _, _, ha, _ => by simp [isD] at ha
  | .dT _, _, ha, _ => by simp [isD] at ha
  | .ref _, _, ha, _ => by simp [isD] at ha
  | .opq _, _, ha, _ => by simp [isD] at ha
  | .scr _, _, ha, _ => by simp [isD] at ha
  | .tupF _, _, ha, _ => by simp [isD] at ha
theorem eqv_pys : ∀ xs ys : List Cv, isDs xs = true → isDs ys = true → PyData.eqvAll (pys xs) (pys ys) = ceqs xs ys
  | [], [], _, _ => by simp [pys, PyData.eqvAll, ceqs]
  | [], _ :: _, _, _ => by simp [pys, PyData.eqvAll, ceqs]
  | _ :: _, [], _, _ => by simp [pys, PyData.eqvAll, ceqs]
  | x :: xs, y :: ys, ha, hb => by
    simp only [isDs, Bool.and_eq_true] at ha hb
    simp only [pys, PyData.eqvAll, ceqs, eqv_py x y ha.1 hb.1, eqv_pys xs ys ha.2 hb.2]
end
section
variable {K : Fg} {Z : List Addr} {S : Sto} {H : Hp}
mutual
theorem Rep.dp : ∀ {w : Cv} {v : V}, Rep K Z S H w v → isD w = true → Dp K H v (py w)
  | _, _, .non, _ => by simp only [py]; exact .non
  | _, _, .bl b, _ => by simp only [py]; exact .bl b
  | _, _, .int i, _ => by simp only [py]; exact .int i
  | _, _, .str x, _ => by simp only [py]; exact .str x
  | _, _, .tup h n r, e => by simp only [py]; exact .tup (.inl h) (Reps.dp r (by simpa [isD] using e))
  | _, _, .tupK h r, e => by simp only [py]; exact .tup (h H) (Reps.dp r (by simpa [isD] using e))
  | _, _, .lst h n z r, e => by simp only [py]; exact .lst (.inl (.inl h)) (Reps.dp r (by simpa [isD] using e))
  | _, _, .dK _ _ _ _ _, e => by simp [isD] at e
  | _, _, .dT _ _ _ _ _, e => by simp [isD] at e
  | _, _, .ref _, e => by simp [isD] at e
  | _, _, .opq _, e => by simp [isD] at e
  | _, _, .scr _ _ _, e => by simp [isD] at e
  | _, _, .tupF _ _ _ _, e => by simp [isD] at e
  | _, _, .scrK _ _, e => by simp [isD] at e
theorem Reps.dp : ∀ {ws : List Cv} {vs : List V}, Reps K Z S H ws vs → isDs ws = true → DpAll K H vs (pys ws)
  | _, _, .nil, _ => by simp only [pys]; exact .nil
  | _, _, .cons a r, e => by
    simp only [isDs, Bool.and_eq_true] at e
    simp only [pys]
    exact .cons (Rep.dp a e.1) (Reps.dp r e.2)
end
theorem RepD.dp {w : Cv} {v : V} (r : RepD K Z S H w v) (e : isD w = true) : Dp K H v (py w) := by
  cases w with
  | lst xs => obtain ⟨a, vs, rfl, h, rr⟩ := r; simp only [py]; exact .lst (.inl (.inl h)) (rr.dp (by simpa [isD] using e))
  | dK _ => simp [isD] at e
  | dT _ => simp [isD] at e
  | ref _ => simp [isD] at e
  | _ => exact Rep.dp r e
end
def okD (w : Cv) : Bool := isD w && decide (dep w ≤ 64)
theorem okD_D {w : Cv} (h : okD w = true) : isD w = true := (Bool.and_eq_true_iff.mp h).1
theorem okD_dep {w : Cv} (h : okD w = true) : dep w ≤ 64 := of_decide_eq_true (Bool.and_eq_true_iff.mp h).2

/-! ### the operations -/
section
variable {X : Cx}
theorem s2_of {f : Value → Value → Sem Value} {r : C2} (m : Mon2 r) (h : ∀ (pins : List (Addr × Obj)) (s : Shared) (σ : L2.St) (H : Hp) (x y : V) (v u : Value) (Q : VK) (Z : List Addr) (S : Sto) (a b : Cv), Inv X pins σ H s → RelV x v → RelV y u →
    StOk X.K Z S H → Rep X.K Z S H a x → Rep X.K Z S H b y → r a b S (fun w S' => ∀ v H', Fr S H S' H' → StOk X.K Z S' H' → Rep X.K Z S' H' w v → Q v H') → wpAny (model X.prog X.w) X.A (f v u) (EP X pins σ Q) X.xe s) : S2 X f r :=
  ⟨m, fun pins s σ H x y v u Q I rx ry q => by
    obtain ⟨Z, S, a, b, ok, ra, rb, q⟩ := q
    exact h pins s σ H x y v u Q Z S a b I rx ry ok ra rb q⟩
/-- two ints -/
def cI2 (C : Int → Int → Prop) (g : Int → Int → Cv) : C2 := fun a b S Q => match a, b with
  | .int i, .int j => C i j ∧ Q (g i j) S
  | _, _ => False
theorem cI2_mono {C : Int → Int → Prop} {g : Int → Int → Cv} : Mon2 (cI2 C g) := fun a b S Q Q' f h => by
  unfold cI2 at h ⊢
  split at h
  · exact ⟨h.1, f _ _ h.2⟩
  · exact h.elim
theorem s2_int {f : Value → Value → Sem Value} {C : Int → Int → Prop} {g : Int → Int → Cv} {g' : Int → Int → V} (ho : OpR X f (rI C g')) (hg : ∀ K Z S H i j, Rep K Z S H (g i j) (g' i j)) : S2 X f (cI2 C g) :=
  s2_of cI2_mono fun pins s σ H x y v u Q Z S a b I rx ry ok ra rb q => by
    unfold cI2 at q
    split at q
    · rename_i i j
      cases ra; cases rb
      exact ho pins s σ H _ _ v u Q I rx ry ⟨i, j, rfl, rfl, q.1, q.2 _ H (Fr.refl S H) ok (hg _ _ _ _ i j)⟩
    · exact q.elim
theorem s2_int0 {f : Value → Value → Sem Value} {g : Int → Int → Cv} {g' : Int → Int → V} (ho : OpR X f (rI0 g')) (hg : ∀ K Z S H i j, Rep K Z S H (g i j) (g' i j)) : S2 X f (cI2 (fun _ _ => True) g) :=
  s2_of cI2_mono fun pins s σ H x y v u Q Z S a b I rx ry ok ra rb q => by
    unfold cI2 at q
    split at q
    · rename_i i j
      cases ra; cases rb
      exact ho pins s σ H _ _ v u Q I rx ry ⟨i, j, rfl, rfl, q.2 _ H (Fr.refl S H) ok (hg _ _ _ _ i j)⟩
    · exact q.elim
theorem o_sub : S2 X (binaryOp .Sub) (cI2 (fun _ _ => True) fun i j => .int (i - j)) := s2_int0 op_sub fun _ _ _ _ _ _ => .int _
theorem o_mul : S2 X (binaryOp .Mult) (cI2 CMulW fun i j => .int (i * j)) := s2_int op_mulW fun _ _ _ _ _ _ => .int _
theorem o_fdiv : S2 X (binaryOp .FloorDiv) (cI2 CDivW fun i j => .int (i / j)) := s2_int op_fdivW fun _ _ _ _ _ _ => .int _
theorem o_mod : S2 X (binaryOp .Mod) (cI2 (fun _ j => 0 < j) fun i j => .int (i % j)) := s2_int op_mod fun _ _ _ _ _ _ => .int _
def CPw (i j : Int) : Prop := 0 ≤ j ∧ (Builtin.Int.intBits i : Int) * j ≤ 2 ^ 27
theorem o_pow : S2 X (binaryOp .Pow) (cI2 CPw fun i j => .int (i ^ j.toNat)) := s2_int (C := CPw) (g' := fun i j => .int (i ^ j.toNat)) (opI fun _ _ _ _ _ _ _ hc q => pow_int hc.1 hc.2 q) fun _ _ _ _ _ _ => .int _
theorem o_shl : S2 X (binaryOp .LShift) (cI2 CPow fun i j => .int (i * 2 ^ j.toNat)) := s2_int op_shl fun _ _ _ _ _ _ => .int _
theorem o_and : S2 X (binaryOp .BitAnd) (cI2 (fun _ _ => True) fun i j => .int (Builtin.bitAnd i j)) := s2_int0 op_and fun _ _ _ _ _ _ => .int _
theorem o_or : S2 X (binaryOp .BitOr) (cI2 (fun _ _ => True) fun i j => .int (Builtin.bitOr i j)) := s2_int0 op_or fun _ _ _ _ _ _ => .int _
/-- + -/
def cAdd : C2 := fun a b S Q => match a, b with
  | .int i, .int j => Q (.int (i + j)) S
  | .str x, .str y => x.length + y.length ≤ sizeLine ∧ Q (.str (x ++ y)) S
  | .tup xs, .tup ys => xs.length + ys.length ≤ sizeLine ∧ Q (.tup (xs ++ ys)) S
  | a, b => match deref a S, deref b S with
    | some (.lst xs), some (.lst ys) => xs.length + ys.length ≤ sizeLine ∧ Q (.lst (xs ++ ys)) S
    | _, _ => False
theorem cAdd_mono : Mon2 cAdd := fun a b S Q Q' f h => by
  unfold cAdd at h ⊢
  split at h
  · exact f _ _ h
  · exact ⟨h.1, f _ _ h.2⟩
  · exact ⟨h.1, f _ _ h.2⟩
  · split at h
    · exact ⟨h.1, f _ _ h.2⟩
    · exact h.elim
theorem RepD.lstH {K : Fg} {Z : List Addr} {S : Sto} {H : Hp} {xs : List Cv} {v : V} (r : RepD K Z S H (.lst xs) v) : ∃ a vs, v = .ref a ∧ H a = some (.lst vs) ∧ Reps K Z S H xs vs := r
/-- a new frozen list -/
theorem new_lst {K : Fg} {Z : List Addr} {S : Sto} {H : Hp} {Q : VK} {ws : List Cv} {vs : List V} {p : Addr} (ok : StOk K Z S H) (hp : H p = none) (r : Reps K Z S H ws vs)
    (q : ∀ v H', Fr S H S H' → StOk K Z S H' → Rep K Z S H' (.lst ws) v → Q v H') : Q (.ref p) (upd H p (.lst vs)) :=
  q _ _ (Fr.new hp) (ok.new hp) (.lst upd_same (ok.free hp) (ok.notZ hp) (r.fr (Fr.new hp)))
theorem new_tup {K : Fg} {Z : List Addr} {S : Sto} {H : Hp} {Q : VK} {ws : List Cv} {vs : List V} {p : Addr} (ok : StOk K Z S H) (hp : H p = none) (r : Reps K Z S H ws vs)
    (q : ∀ v H', Fr S H S H' → StOk K Z S H' → Rep K Z S H' (.tup ws) v → Q v H') : Q (.ref p) (upd H p (.tup vs)) :=
  q _ _ (Fr.new hp) (ok.new hp) (.tup (.inl upd_same) (ok.free hp) (r.fr (Fr.new hp)))
theorem RepD.tupH {K : Fg} {Z : List Addr} {S : Sto} {H : Hp} {xs : List Cv} {v : V} (r : Rep K Z S H (.tup xs) v) : ∃ a vs, v = .ref a ∧ SqT K H a vs ∧ Reps K Z S H xs vs := by
  cases r with
  | tup h n rr => exact ⟨_, _, rfl, .inl h, rr⟩
  | tupK h rr => exact ⟨_, _, rfl, h H, rr⟩
theorem Reps.nil_iff {K : Fg} {Z : List Addr} {S : Sto} {H : Hp} {ws : List Cv} {vs : List V} (r : Reps K Z S H ws vs) : vs = [] ↔ ws = [] := by
  cases r <;> simp
theorem add_ok {f : Value → Value → Sem Value} (h1 : OpR X f (rI0 fun i j => .int (i + j))) (h2 : OpR X f (fun x y H Q => ∃ i j, x = .str i ∧ y = .str j ∧ i.length + j.length ≤ sizeLine ∧ Q (.str (i ++ j)) H)) (h3 : OpR X f (rCatA X.K)) (h4 : OpR X f rCat) : S2 X f cAdd :=
  s2_of cAdd_mono fun pins s σ H x y v u Q Z S a b I rx ry ok ra rb q => by
    unfold cAdd at q
    split at q
    · cases ra; cases rb
      exact h1 pins s σ H _ _ v u Q I rx ry ⟨_, _, rfl, rfl, q _ H (Fr.refl S H) ok (.int _)⟩
    · cases ra; cases rb
      exact h2 pins s σ H _ _ v u Q I rx ry ⟨_, _, rfl, rfl, q.1, q.2 _ H (Fr.refl S H) ok (.str _)⟩
    · obtain ⟨a1, v1, rfl, t1, r1⟩ := RepD.tupH ra
      obtain ⟨a2, v2, rfl, t2, r2⟩ := RepD.tupH rb
      refine h3 pins s σ H _ _ v u Q I rx ry ⟨a1, a2, v1, v2, rfl, rfl, t1, t2, by rw [← r1.length, ← r2.length]; exact q.1, fun e => ?_, fun _ e2 => ?_, fun _ _ p hp => new_tup ok hp (r1.app r2) q.2⟩
      · have e1 := r1.nil_iff.mp e
        subst e1
        exact q.2 _ H (Fr.refl S H) ok (by simpa using rb)
      · have e3 := r2.nil_iff.mp e2
        subst e3
        exact q.2 _ H (Fr.refl S H) ok (by simpa using ra)
    · split at q
      · rename_i xs ys e1 e2
        obtain ⟨a1, v1, rfl, t1, r1⟩ := RepD.lstH (deref_ok ok ra e1)
        obtain ⟨a2, v2, rfl, t2, r2⟩ := RepD.lstH (deref_ok ok rb e2)
        exact h4 pins s σ H _ _ v u Q I rx ry ⟨a1, a2, v1, v2, rfl, rfl, t1, t2, by rw [← r1.length, ← r2.length]; exact q.1, fun p hp => new_lst ok hp (r1.app r2) q.2⟩
      · exact q.elim
theorem o_add : S2 X (binaryOp .Add) cAdd := add_ok op_add op_add_str op_catA op_cat
theorem sip_int {op : Operator} {f : Int → Int → Int} (ho : PIp X op (ipI f)) : SIp X op (cI2 (fun _ _ => True) fun i j => .int (f i j)) :=
  ⟨cI2_mono, fun pins s σ H x y v u Q I rx ry q => by
    obtain ⟨Z, S, a, b, ok, ra, rb, q⟩ := q
    unfold cI2 at q
    split at q
    · rename_i i j
      cases ra; cases rb
      exact ho pins s σ H _ _ v u Q I rx ry ⟨i, j, rfl, rfl, q.2 _ H (Fr.refl S H) ok (.int _)⟩
    · exact q.elim⟩
theorem i_add : SIp X .Add (cI2 (fun _ _ => True) fun i j => .int (i + j)) := sip_int ip_add
theorem i_sub : SIp X .Sub (cI2 (fun _ _ => True) fun i j => .int (i - j)) := sip_int ip_sub
theorem o_lt : S2 X (compareOp .Lt) (cI2 (fun _ _ => True) fun i j => .bl (decide (i < j))) := s2_int0 op_lt fun _ _ _ _ _ _ => .bl _
theorem o_le : S2 X (compareOp .LtE) (cI2 (fun _ _ => True) fun i j => .bl (decide (i ≤ j))) := s2_int0 op_le fun _ _ _ _ _ _ => .bl _
theorem o_gt : S2 X (compareOp .Gt) (cI2 (fun _ _ => True) fun i j => .bl (decide (j < i))) := s2_int0 op_gt fun _ _ _ _ _ _ => .bl _
theorem o_ge : S2 X (compareOp .GtE) (cI2 (fun _ _ => True) fun i j => .bl (decide (j ≤ i))) := s2_int0 op_ge fun _ _ _ _ _ _ => .bl _
/-- == and != -/
def cEqB (g : Bool → Bool) : C2 := fun a b S Q => match a, b with
  | .str x, .str y => Q (.bl (g (decide (x = y)))) S
  | .int i, .int j => Q (.bl (g (decide (i = j)))) S
  | a, b => match deref a S, deref b S with
    | some a, some b => (okD a = true ∧ okD b = true) ∧ Q (.bl (g (ceq a b))) S
    | _, _ => False
abbrev cEq : C2 := cEqB fun b => b
abbrev cNe : C2 := cEqB fun b => !b
theorem cEqB_mono {g : Bool → Bool} : Mon2 (cEqB g) := fun a b S Q Q' f h => by
  unfold cEqB at h ⊢
  split at h
  · exact f _ _ h
  · exact f _ _ h
  · split at h
    · exact ⟨h.1, f _ _ h.2⟩
    · exact h.elim
theorem eqB_ok {f : Value → Value → Sem Value} {g : Bool → Bool} {r1 r2 : R2} (h1 : OpR X f r1) (h2 : OpR X f r2)
    (e1 : ∀ x y H Q, scal x y = true → Q (.bl (g (decide (x = y)))) H → r1 x y H Q) (e2 : ∀ x y H Q d e, Dp X.K H x d → Dp X.K H y e → SeqAt.shaped d = true → SeqAt.shaped e = true → Q (.bl (g (PyData.eqv d e))) H → r2 x y H Q) : S2 X f (cEqB g) :=
  s2_of cEqB_mono fun pins s σ H x y v u Q Z S a b I rx ry ok ra rb q => by
    unfold cEqB at q
    split at q
    · rename_i x y
      cases ra; cases rb
      refine h1 pins s σ H _ _ v u Q I rx ry (e1 _ _ _ _ rfl ?_)
      have e : decide (V.str x = V.str y) = decide (x = y) := decide_eq_decide.mpr ⟨fun h => V.str.inj h, fun h => by rw [h]⟩
      rw [e]
      exact q _ H (Fr.refl S H) ok (.bl _)
    · rename_i x y
      cases ra; cases rb
      refine h1 pins s σ H _ _ v u Q I rx ry (e1 _ _ _ _ rfl ?_)
      have e : decide (V.int x = V.int y) = decide (x = y) := decide_eq_decide.mpr ⟨fun h => V.int.inj h, fun h => by rw [h]⟩
      rw [e]
      exact q _ H (Fr.refl S H) ok (.bl _)
    · split at q
      · rename_i a' b' ea eb
        have ra' := deref_ok ok ra ea
        have rb' := deref_ok ok rb eb
        refine h2 pins s σ H _ _ v u Q I rx ry (e2 _ _ _ _ _ _ (ra'.dp (okD_D q.1.1)) (rb'.dp (okD_D q.1.2)) (shaped_py (okD_D q.1.1) (okD_dep q.1.1)) (shaped_py (okD_D q.1.2) (okD_dep q.1.2)) ?_)
        rw [eqv_py _ _ (okD_D q.1.1) (okD_D q.1.2)]
        exact q.2 _ H (Fr.refl S H) ok (.bl _)
      · exact q.elim
theorem o_eq (hu : X.A.units + 64 < cLine) : S2 X (compareOp .Eq) cEq := eqB_ok op_eq (op_eqD hu) (fun x y H Q h q => ⟨h, q⟩) fun x y H Q d e hd he sd se q => ⟨d, e, hd, he, sd, se, q⟩
theorem o_ne (hu : X.A.units + 64 < cLine) : S2 X (compareOp .NotEq) cNe := eqB_ok op_ne (op_neD hu) (fun x y H Q h q => ⟨h, q⟩) fun x y H Q d e hd he sd se q => ⟨d, e, hd, he, sd, se, q⟩
/-- is None, is not None -/
def cIsN (g : Bool → Bool) : C2 := fun a b S Q => match b with
  | .non => (match a with | .non => Q (.bl (g true)) S | .opq _ => False | _ => Q (.bl (g false)) S)
  | _ => False
theorem cIsN_mono {g : Bool → Bool} : Mon2 (cIsN g) := fun a b S Q Q' f h => by
  unfold cIsN at h ⊢
  split at h
  · split at h
    · exact f _ _ h
    · exact h.elim
    · exact f _ _ h
  · exact h.elim
theorem isN_ok {f : Value → Value → Sem Value} {g : Bool → Bool} (h1 : OpR X f (fun x y H Q => y = .non ∧ Q (.bl (g (decide (x = .non)))) H)) : S2 X f (cIsN g) :=
  s2_of cIsN_mono fun pins s σ H x y v u Q Z S a b I rx ry ok ra rb q => by
    unfold cIsN at q
    split at q
    · cases rb
      split at q
      · cases ra
        exact h1 pins s σ H _ _ v u Q I rx ry ⟨rfl, q _ H (Fr.refl S H) ok (.bl _)⟩
      · exact q.elim
      · refine h1 pins s σ H _ _ v u Q I rx ry ⟨rfl, ?_⟩
        have e : decide (x = V.non) = false := by
          apply decide_eq_false
          intro z
          subst z
          cases ra with
          | non => simp at *
          | opq v => simp at *
        rw [e]
        exact q _ H (Fr.refl S H) ok (.bl _)
    · exact q.elim
theorem o_isN : S2 X (compareOp .Is) (cIsN fun b => b) := isN_ok op_isN
theorem o_notN : S2 X (compareOp .IsNot) (cIsN fun b => !b) := isN_ok op_notN

/-! ### items -/
def cIx : C2 := fun a b S Q => match b with
  | .int i => (match a with
    | .str z => z.length ≤ sizeLine ∧ (match atI z.cps.toList i with | some c => Q (.str ⟨#[c]⟩) S | none => False)
    | a => match deref a S with
      | some a => (match seqOf a with
        | some xs => (match atI xs i with | some w => Q w S | none => False)
        | none => False)
      | none => False)
  | _ => False
theorem cIx_mono : Mon2 cIx := fun a b S Q Q' f h => by
  unfold cIx at h ⊢
  repeat' split at h
  all_goals first | exact h.elim | exact f _ _ h | exact ⟨h.1, f _ _ h.2⟩ | exact h.2.elim
theorem reps_atI {K : Fg} {Z : List Addr} {S : Sto} {H : Hp} {ws : List Cv} {vs : List V} {i : Int} {w : Cv} (r : Reps K Z S H ws vs) (e : atI ws i = some w) : ∃ v, atI vs i = some v ∧ Rep K Z S H w v := by
  unfold atI at e ⊢
  rw [← r.length]
  cases h : ixN ws.length i with
  | none => rw [h] at e; cases e
  | some j =>
    rw [h] at e
    exact r.get e
structure SIx (X : Cx) (r : C2) : Prop where
  mono : Mon2 r
  ok : IxR X (lift2 X.K r)
theorem s_ix {a b : Expr} {ta tb : CE} {r : C2} {pos : Pos} (hr : SIx X r) (ha : SE X a ta) (hb : SE X b tb) (hs : PlainIx b := by exact fun _ _ => rfl) : SE X (.Subscript a b pos) (cOp r ta tb) :=
  ⟨cOp_mono hr.mono ha.mono hb.mono, (pe_ix hr.ok ha.ok hb.ok hs).imp fun _ _ _ h => cOp_ok hr.mono ha.mono hb.mono h⟩
theorem x_ix : SIx X cIx := ⟨cIx_mono, fun value slice pins s σ H x y v u Q I rx ry q hs => by
  obtain ⟨Z, S, a, b, ok, ra, rb, q⟩ := q
  unfold cIx at q
  split at q
  · rename_i i
    cases rb
    split at q
    · cases ra
      obtain ⟨q1, q2⟩ := q
      split at q2
      · rename_i c e
        exact ix_str value slice pins s σ H _ _ v u Q I rx ry ⟨_, _, c, rfl, rfl, q1, e, q2 _ H (Fr.refl S H) ok (.str _)⟩ hs
      · exact q2.elim
    · split at q
      · rename_i a' ea
        split at q
        · rename_i xs es
          split at q
          · rename_i w ew
            obtain ⟨p, vs, rfl, hsq, rr⟩ := (deref_ok ok ra ea).seq es
            obtain ⟨v1, h1, h2⟩ := reps_atI rr ew
            rcases hsq with hsq | hsq
            · exact ix_list value slice pins s σ H _ _ v u Q I rx ry ⟨p, vs, i, v1, rfl, rfl, hsq, h1, q _ H (Fr.refl S H) ok h2⟩ hs
            · exact ix_tup value slice pins s σ H _ _ v u Q I rx ry ⟨p, vs, i, v1, rfl, rfl, hsq, h1, q _ H (Fr.refl S H) ok h2⟩ hs
          · exact q.elim
        · exact q.elim
      · exact q.elim
  · exact q.elim⟩
/-! o[i] = e, o an owned list -/
def cSetL (to ti te : CE) : CS := fun D ws S => te ws S fun w S1 => to ws S1 fun o S2 => ti ws S2 fun i S3 => match o, i with
  | .ref p, .int k => ownL S3 p fun xs => match ixN xs.length k with | some j => D.nx ws (S3.set p (.lst (xs.set j w))) | none => False
  | _, _ => False
theorem ss_setL {o i e : Expr} {to ti te : CE} {pos tpos : Pos} (ho : SE X o to) (hi : SE X i ti) (he : SE X e te) (hs : swapsWithSole [.Subscript o i tpos] e pos.line X.env = pure false := by rfl) (hw : swappedStores [.Subscript o i tpos] e X.env = pure none := by rfl)
    (h1 : (assignEach [.Subscript o i tpos] X.env).map (·.2) = [assign (.Subscript o i tpos) X.env] := by rfl)
    (ha : ∀ v, assign (.Subscript o i tpos) X.env v = (do
      let ov ← holding [v] (eval o X.env)
      let iv ← holding [v, ov] (eval i X.env)
      standAt tpos
      holding [v, ov, iv] (setItem ov iv v)
      release [v, ov, iv] []) := by intro _; rfl) : SS X (.Assign [.Subscript o i tpos] e pos) (cSetL to ti te) := by
  refine ⟨fun D D' ws S l h => he.mono _ _ _ _ (fun w S1 h1 => ho.mono _ _ _ _ (fun x S2 h2 => hi.mono _ _ _ _ (fun y S3 h3 => ?_) h2) h1) h, (ps_asg he.ok (pg_sub ho.ok hi.ok set_list ha) hs hw h1).imp fun D σ H h => ?_⟩
  · split at h3
    · refine ownL_imp (fun xs q => ?_) h3
      split at q
      · exact l.nx _ _ q
      · exact q.elim
    · exact h3.elim
  · obtain ⟨Z, S, ws, ok, re, h⟩ := h
    refine liftE_of he.mono ok re h fun w S1 v1 H1 f1 ok1 r1 q1 => ?_
    refine liftE_of ho.mono ok1 (re.fr f1) q1 fun x S2 v2 H2 f2 ok2 r2 q2 => ?_
    refine liftE_of hi.mono ok2 ((re.fr f1).fr f2) q2 fun y S3 v3 H3 f3 ok3 r3 q3 => ?_
    split at q3
    · rename_i p k
      cases r2; cases r3
      obtain ⟨xs, ex, q3⟩ := ownL_of q3
      obtain ⟨vs, hp, rr⟩ := ok3.ob p _ ex
      split at q3
      · rename_i j ej
        have r13 : Rep X.K Z S3 H3 w v1 := (r1.fr f2).fr f3
        refine ⟨p, vs, k, j, rfl, rfl, hp, by rw [← rr.length]; exact ej, ?_⟩
        have fw : Fr S3 H3 (S3.set p (.lst (xs.set j w))) (upd H3 p (.lst (vs.set j v1))) := Fr.wr ex
        have f0 := ((f1.trans f2).trans f3).trans fw
        exact q3 _ _ f0 (ok3.wr ex ⟨_, upd_same, (rr.set r13 j).fr fw⟩) (re.fr f0)
      · exact q3.elim
    · exact q3.elim
end
end CL

set_option Elab.async false
set_option linter.all false
set_option maxRecDepth 100000
set_option maxHeartbeats 4000000
/-! CL6: built-in functions, methods of lists, repr, max with a default -/
namespace CL
open PySem PySem.Spec PyProof.Rows L2

abbrev CC := List Cv → Sto → (Cv → Sto → Prop) → Prop
def MonC (r : CC) : Prop := ∀ us S (Q Q' : Cv → Sto → Prop), (∀ w S', Q w S' → Q' w S') → r us S Q → r us S Q'
def liftC (K : Fg) (r : CC) : List V → Hp → VK → Prop := fun vs H Q => ∃ Z S us, StOk K Z S H ∧ Reps K Z S H us vs ∧ r us S fun w S' => ∀ v H', Fr S H S' H' → StOk K Z S' H' → Rep K Z S' H' w v → Q v H'
structure SC (X : Cx) (f : Value) (r : CC) : Prop where
  mono : MonC r
  ok : CallR X f (liftC X.K r)
def cCB (r : CC) (ta : CA) : CE := fun ws S Q => ta ws S fun us S1 => r us S1 Q
section
variable {X : Cx} {x : Str} {p pos : Pos} {e : Expr} {es : List Expr} {ta : CA} {idn T : String} {r : CC}
theorem cCB_mono (hr : MonC r) (ha : MonA ta) : MonE (cCB r ta) := fun ws S Q Q' f h => ha _ _ _ _ (fun us S1 q => hr _ _ _ _ f q) h
theorem cCB_ok {K : Fg} (hr : MonC r) (ha : MonA ta) {σ : L2.St} {H : Hp} {Q : VK} (h : liftE K (cCB r ta) σ H Q) : tCB (liftC K r) (liftA K ta) σ H Q := by
  obtain ⟨Z, S, ws, ok, re, h⟩ := h
  refine liftA_of ha ok re h fun us S1 vs H1 f1 ok1 r1 q1 => ?_
  exact ⟨Z, S1, us, ok1, r1, hr _ _ _ _ (fun w S' g v H' a b c => g v H' (f1.trans a) b c) q1⟩
theorem s_callB (hc : SC X (.builtin idn) r) (hm : X.mg x = none) (ha : SA X (e :: es) ta) (hg : Gl X x := by rfl) (hv : bootBuiltins x = some (.builtin idn) := by decide +kernel) (hn : x ≠ "__name__" := by decide) (hdb : (x == ("__debug__" : Str)) = false := by decide)
    (he : starEach (e :: es) X.env = (false, eval e X.env) :: starEach es X.env := by rfl) (hpl : (backTo pos (starEach es X.env)).any (·.1) = false := by rfl) : SE X (.Call (.Name x p) (e :: es) [] pos) (cCB r ta) :=
  ⟨cCB_mono hc.mono ha.mono, (pe_callB hc.ok hg hm hv ha.ok hn hdb he hpl).imp fun _ _ _ h => cCB_ok hc.mono ha.mono h⟩
theorem s_callT (hc : SC X (.type T) r) (hm : X.mg x = none) (ha : SA X (e :: es) ta) (hg : Gl X x := by rfl) (hv : bootBuiltins x = some (.type T) := by decide +kernel) (hn : x ≠ "__name__" := by decide) (hdb : (x == ("__debug__" : Str)) = false := by decide)
    (he : starEach (e :: es) X.env = (false, eval e X.env) :: starEach es X.env := by rfl) (hpl : (backTo pos (starEach es X.env)).any (·.1) = false := by rfl) : SE X (.Call (.Name x p) (e :: es) [] pos) (cCB r ta) :=
  ⟨cCB_mono hc.mono ha.mono, (pe_callTy hc.ok hg hm hv ha.ok hn hdb he hpl).imp fun _ _ _ h => cCB_ok hc.mono ha.mono h⟩
theorem sc_of {f : Value} {r : CC} (m : MonC r) (h : ∀ (pins : List (Addr × Obj)) (s : Shared) (σ : L2.St) (H : Hp) (xs : List V) (us : List Value) (Q : VK) (Z : List Addr) (S : Sto) (ws : List Cv), Inv X pins σ H s → Vals xs us → StOk X.K Z S H → Reps X.K Z S H ws xs →
    r ws S (fun w S' => ∀ v H', Fr S H S' H' → StOk X.K Z S' H' → Rep X.K Z S' H' w v → Q v H') → wpAny (model X.prog X.w) X.A (call f us) (EP X pins σ Q) X.xe s) : SC X f r :=
  ⟨m, fun pins s σ H xs us Q I rv q => by
    obtain ⟨Z, S, ws, ok, re, q⟩ := q
    exact h pins s σ H xs us Q Z S ws I rv ok re q⟩
/-- len -/
def cLen : CC := fun us S Q => match us with
  | [.str z] => z.length ≤ sizeLine ∧ Q (.int z.length) S
  | [w] => (match deref w S with | some w => (match seqOf w with | some xs => Q (.int xs.length) S | none => False) | none => False)
  | _ => False
theorem b_len : SC X (.builtin "len") cLen := sc_of (fun us S Q Q' f h => by
    unfold cLen at h ⊢
    repeat' split at h
    all_goals first | exact h.elim | exact f _ _ h | exact ⟨h.1, f _ _ h.2⟩) fun pins s σ H xs us Q Z S ws I rv ok re q => by
  unfold cLen at q
  split at q
  · cases re with
    | cons a b => cases b; cases a; exact call_len pins s σ H _ us Q I rv ⟨_, _, rfl, ⟨q.1, rfl⟩, q.2 _ H (Fr.refl S H) ok (.int _)⟩
  · cases re with
    | cons a b =>
      cases b
      split at q
      · rename_i w ew
        split at q
        · rename_i xs ex
          obtain ⟨p, vs, rfl, hs, rr⟩ := (deref_ok ok a ew).seq ex
          exact call_len_seq pins s σ H _ us Q I rv ⟨p, vs, rfl, hs, by rw [← rr.length]; exact q _ H (Fr.refl S H) ok (.int _)⟩
        · exact q.elim
      · exact q.elim
  · exact q.elim
def cAbs : CC := fun us S Q => match us with | [.int i] => Q (.int i.natAbs) S | _ => False
theorem b_abs : SC X (.builtin "abs") cAbs := sc_of (fun us S Q Q' f h => by
    unfold cAbs at h ⊢
    split at h
    · exact f _ _ h
    · exact h.elim) fun pins s σ H xs us Q Z S ws I rv ok re q => by
  unfold cAbs at q
  split at q
  · rename_i i
    cases re with
    | cons a b =>
      cases b; cases a
      refine call_abs pins s σ H _ us Q I rv ⟨i, rfl, ?_⟩
      have e : (if i < 0 then -i else i) = (i.natAbs : Int) := by split <;> omega
      rw [e]
      exact q _ H (Fr.refl S H) ok (.int _)
  · exact q.elim
def cInt : CC := fun us S Q => match us with | [.int i] => Q (.int i) S | [.bl b] => Q (.int (if b = true then 1 else 0)) S | _ => False
theorem b_int : SC X (.type "int") cInt := sc_of (fun us S Q Q' f h => by
    unfold cInt at h ⊢
    split at h
    · exact f _ _ h
    · exact f _ _ h
    · exact h.elim) fun pins s σ H xs us Q Z S ws I rv ok re q => by
  unfold cInt at q
  split at q
  · cases re with
    | cons a b => cases b; cases a; exact call_int1 pins s σ H _ us Q I rv (.inl ⟨_, rfl, q _ H (Fr.refl S H) ok (.int _)⟩)
  · cases re with
    | cons a b => cases b; cases a; exact call_int1 pins s σ H _ us Q I rv (.inr ⟨_, rfl, q _ H (Fr.refl S H) ok (.int _)⟩)
  · exact q.elim
/-- the ints of a list -/
def asInts : List Cv → Option (List Int)
  | [] => some []
  | .int i :: r => (asInts r).map (i :: ·)
  | _ => none
theorem asInts_ok {K : Fg} {Z : List Addr} {S : Sto} {H : Hp} : ∀ {ws : List Cv} {vs : List V} {ns : List Int}, Reps K Z S H ws vs → asInts ws = some ns → vs = ns.map V.int
  | _, _, ns, .nil, e => by
    simp only [asInts, Option.some.injEq] at e
    subst e; rfl
  | _, _, ns, .cons (w := w) (ws := ws) a r, e => by
    cases a with
    | int i =>
      simp only [asInts] at e
      cases h : asInts ws with
      | none => rw [h] at e; cases e
      | some ms =>
        rw [h] at e
        simp only [Option.map_some, Option.some.injEq] at e
        subst e
        rw [asInts_ok r h]; rfl
    | _ => simp [asInts] at e
def asBools : List Cv → Option (List Bool)
  | [] => some []
  | .bl b :: r => (asBools r).map (b :: ·)
  | _ => none
theorem asBools_ok {K : Fg} {Z : List Addr} {S : Sto} {H : Hp} : ∀ {ws : List Cv} {vs : List V} {ns : List Bool}, Reps K Z S H ws vs → asBools ws = some ns → vs = ns.map V.bl
  | _, _, ns, .nil, e => by
    simp only [asBools, Option.some.injEq] at e
    subst e; rfl
  | _, _, ns, .cons (w := w) (ws := ws) a r, e => by
    cases a with
    | bl i =>
      simp only [asBools] at e
      cases h : asBools ws with
      | none => rw [h] at e; cases e
      | some ms =>
        rw [h] at e
        simp only [Option.map_some, Option.some.injEq] at e
        subst e
        rw [asBools_ok r h]; rfl
    | _ => simp [asBools] at e
@[simp] theorem asInts_map (ns : List Int) : asInts (ns.map Cv.int) = some ns := by
  induction ns with
  | nil => rfl
  | cons n r ih => simp [asInts, ih]
@[simp] theorem asBools_map (ns : List Bool) : asBools (ns.map Cv.bl) = some ns := by
  induction ns with
  | nil => rfl
  | cons n r ih => simp [asBools, ih]
def lmax (d : Int) : List Int → Int
  | [] => d
  | x :: r => r.foldl max x
def lmin (d : Int) : List Int → Int
  | [] => d
  | x :: r => r.foldl min x
theorem foldl_max_spec : ∀ (r : List Int) (x : Int), (r.foldl max x = x ∨ r.foldl max x ∈ r) ∧ x ≤ r.foldl max x ∧ ∀ y ∈ r, y ≤ r.foldl max x
  | [], x => ⟨.inl rfl, Int.le_refl _, fun y h => by simp at h⟩
  | a :: r, x => by
    obtain ⟨h1, h2, h3⟩ := foldl_max_spec r (max x a)
    simp only [List.foldl_cons]
    refine ⟨?_, by omega, fun y hy => ?_⟩
    · rcases h1 with h1 | h1
      · by_cases c : x ≤ a
        · right; rw [h1, Int.max_eq_right c]; exact List.mem_cons_self
        · left; rw [h1, Int.max_eq_left (by omega)]
      · right; exact List.mem_cons_of_mem _ h1
    · rcases List.mem_cons.mp hy with e | hy
      · subst e; omega
      · exact h3 y hy
theorem foldl_min_spec : ∀ (r : List Int) (x : Int), (r.foldl min x = x ∨ r.foldl min x ∈ r) ∧ r.foldl min x ≤ x ∧ ∀ y ∈ r, r.foldl min x ≤ y
  | [], x => ⟨.inl rfl, Int.le_refl _, fun y h => by simp at h⟩
  | a :: r, x => by
    obtain ⟨h1, h2, h3⟩ := foldl_min_spec r (min x a)
    simp only [List.foldl_cons]
    refine ⟨?_, by omega, fun y hy => ?_⟩
    · rcases h1 with h1 | h1
      · by_cases c : x ≤ a
        · left; rw [h1, Int.min_eq_left c]
        · right; rw [h1, Int.min_eq_right (by omega)]; exact List.mem_cons_self
      · right; exact List.mem_cons_of_mem _ h1
    · rcases List.mem_cons.mp hy with e | hy
      · subst e; omega
      · exact h3 y hy
theorem lmax_mem {d : Int} {ns : List Int} (h : ns ≠ []) : lmax d ns ∈ ns := by
  cases ns with
  | nil => exact absurd rfl h
  | cons x r =>
    rcases (foldl_max_spec r x).1 with e | e
    · show r.foldl max x ∈ x :: r
      rw [e]; exact List.mem_cons_self
    · exact List.mem_cons_of_mem _ e
theorem lmax_ge {d : Int} {ns : List Int} : ∀ y ∈ ns, y ≤ lmax d ns := by
  cases ns with
  | nil => intro y h; simp at h
  | cons x r =>
    intro y h
    obtain ⟨_, h2, h3⟩ := foldl_max_spec r x
    rcases List.mem_cons.mp h with e | h
    · subst e; exact h2
    · exact h3 y h
theorem lmin_mem {d : Int} {ns : List Int} (h : ns ≠ []) : lmin d ns ∈ ns := by
  cases ns with
  | nil => exact absurd rfl h
  | cons x r =>
    rcases (foldl_min_spec r x).1 with e | e
    · show r.foldl min x ∈ x :: r
      rw [e]; exact List.mem_cons_self
    · exact List.mem_cons_of_mem _ e
theorem lmin_le {d : Int} {ns : List Int} : ∀ y ∈ ns, lmin d ns ≤ y := by
  cases ns with
  | nil => intro y h; simp at h
  | cons x r =>
    intro y h
    obtain ⟨_, h2, h3⟩ := foldl_min_spec r x
    rcases List.mem_cons.mp h with e | h
    · subst e; exact h2
    · exact h3 y h
/-- a list of ints, read -/
def intsOf (w : Cv) (S : Sto) : Option (List Int) := match deref w S with
  | some (.lst xs) => asInts xs
  | _ => none
theorem intsOf_ok {K : Fg} {Z : List Addr} {S : Sto} {H : Hp} {w : Cv} {v : V} {ns : List Int} (ok : StOk K Z S H) (r : Rep K Z S H w v) (e : intsOf w S = some ns) : ∃ a, v = .ref a ∧ H a = some (.lst (ns.map V.int)) := by
  unfold intsOf at e
  split at e
  · rename_i xs ex
    obtain ⟨a, vs, rfl, h, rr⟩ := RepD.lstH (deref_ok ok r ex)
    exact ⟨a, rfl, by rw [← asInts_ok rr e]; exact h⟩
  · cases e
/-- max, min: of two ints, of a list -/
def cMax : CC := fun us S Q => match us with
  | [.int i, .int j] => Q (.int (max i j)) S
  | [w] => (match intsOf w S with | some ns => ns ≠ [] ∧ Q (.int (lmax 0 ns)) S | none => False)
  | _ => False
def cMin : CC := fun us S Q => match us with
  | [.int i, .int j] => Q (.int (min i j)) S
  | [w] => (match intsOf w S with | some ns => ns ≠ [] ∧ Q (.int (lmin 0 ns)) S | none => False)
  | _ => False
theorem cMax_mono : MonC cMax := fun us S Q Q' f h => by
  unfold cMax at h ⊢
  repeat' split at h
  all_goals first | exact h.elim | exact f _ _ h | exact ⟨h.1, f _ _ h.2⟩
theorem cMin_mono : MonC cMin := fun us S Q Q' f h => by
  unfold cMin at h ⊢
  repeat' split at h
  all_goals first | exact h.elim | exact f _ _ h | exact ⟨h.1, f _ _ h.2⟩
theorem b_max (hc : X.calm = true) : SC X (.builtin "max") cMax := sc_of cMax_mono fun pins s σ H xs us Q Z S ws I rv ok re q => by
  unfold cMax at q
  split at q
  · rename_i i j
    cases re with
    | cons a b =>
      cases a
      cases b with
      | cons a b =>
        cases a; cases b
        refine call_max2 hc pins s σ H _ us Q I rv ⟨i, j, rfl, ?_⟩
        have e : (if j > i then j else i) = max i j := by split <;> omega
        rw [e]
        exact q _ H (Fr.refl S H) ok (.int _)
  · cases re with
    | cons a b =>
      cases b
      split at q
      · rename_i ns en
        obtain ⟨p, rfl, hp⟩ := intsOf_ok ok a en
        refine cr_max hc pins s σ H _ us Q I rv ⟨p, ns, rfl, .inl (.inl hp), List.length_pos_iff.mpr q.1, fun m hm hge => ?_⟩
        have e : m = lmax 0 ns := Int.le_antisymm (lmax_ge m hm) (hge _ (lmax_mem q.1))
        rw [e]
        exact q.2 _ H (Fr.refl S H) ok (.int _)
      · exact q.elim
  · exact q.elim
theorem b_min (hc : X.calm = true) : SC X (.builtin "min") cMin := sc_of cMin_mono fun pins s σ H xs us Q Z S ws I rv ok re q => by
  unfold cMin at q
  split at q
  · rename_i i j
    cases re with
    | cons a b =>
      cases a
      cases b with
      | cons a b =>
        cases a; cases b
        refine call_min2 hc pins s σ H _ us Q I rv ⟨i, j, rfl, ?_⟩
        have e : (if j < i then j else i) = min i j := by split <;> omega
        rw [e]
        exact q _ H (Fr.refl S H) ok (.int _)
  · cases re with
    | cons a b =>
      cases b
      split at q
      · rename_i ns en
        obtain ⟨p, rfl, hp⟩ := intsOf_ok ok a en
        refine cr_min hc pins s σ H _ us Q I rv ⟨p, ns, rfl, .inl (.inl hp), List.length_pos_iff.mpr q.1, fun m hm hge => ?_⟩
        have e : m = lmin 0 ns := Int.le_antisymm (hge _ (lmin_mem q.1)) (lmin_le m hm)
        rw [e]
        exact q.2 _ H (Fr.refl S H) ok (.int _)
      · exact q.elim
  · exact q.elim
def cSum : CC := fun us S Q => match us with
  | [w] => (match intsOf w S with | some ns => Q (.int ns.sum) S | none => False)
  | _ => False
theorem b_sum (hc : X.calm = true) : SC X (.builtin "sum") cSum := sc_of (fun us S Q Q' f h => by
    unfold cSum at h ⊢
    repeat' split at h
    all_goals first | exact h.elim | exact f _ _ h) fun pins s σ H xs us Q Z S ws I rv ok re q => by
  unfold cSum at q
  split at q
  · cases re with
    | cons a b =>
      cases b
      split at q
      · rename_i ns en
        obtain ⟨p, rfl, hp⟩ := intsOf_ok ok a en
        exact cr_sum hc pins s σ H _ us Q I rv ⟨p, ns, rfl, .inl (.inl hp), q _ H (Fr.refl S H) ok (.int _)⟩
      · exact q.elim
  · exact q.elim
/-- all, any, of a list of bools -/
def boolsOf (w : Cv) (S : Sto) : Option (List Bool) := match deref w S with
  | some (.lst xs) => asBools xs
  | _ => none
theorem boolsOf_ok {K : Fg} {Z : List Addr} {S : Sto} {H : Hp} {w : Cv} {v : V} {ns : List Bool} (ok : StOk K Z S H) (r : Rep K Z S H w v) (e : boolsOf w S = some ns) : ∃ a, v = .ref a ∧ H a = some (.lst (ns.map V.bl)) := by
  unfold boolsOf at e
  split at e
  · rename_i xs ex
    obtain ⟨a, vs, rfl, h, rr⟩ := RepD.lstH (deref_ok ok r ex)
    exact ⟨a, rfl, by rw [← asBools_ok rr e]; exact h⟩
  · cases e
def cBools (g : List Bool → Bool) : CC := fun us S Q => match us with
  | [w] => (match boolsOf w S with | some ns => Q (.bl (g ns)) S | none => False)
  | _ => False
abbrev cAll : CC := cBools fun bs => bs.all (fun b => b)
abbrev cAny : CC := cBools fun bs => bs.any (fun b => b)
theorem cBools_mono {g : List Bool → Bool} : MonC (cBools g) := fun us S Q Q' f h => by
  unfold cBools at h ⊢
  repeat' split at h
  all_goals first | exact h.elim | exact f _ _ h
theorem b_all (hc : X.calm = true) : SC X (.builtin "all") cAll := sc_of cBools_mono fun pins s σ H xs us Q Z S ws I rv ok re q => by
  unfold cAll cBools at q
  split at q
  · cases re with
    | cons a b =>
      cases b
      split at q
      · rename_i ns en
        obtain ⟨p, rfl, hp⟩ := boolsOf_ok ok a en
        exact cr_all hc pins s σ H _ us Q I rv ⟨p, ns, rfl, .inl (.inl hp), q _ H (Fr.refl S H) ok (.bl _)⟩
      · exact q.elim
  · exact q.elim
theorem b_any (hc : X.calm = true) : SC X (.builtin "any") cAny := sc_of cBools_mono fun pins s σ H xs us Q Z S ws I rv ok re q => by
  unfold cAny cBools at q
  split at q
  · cases re with
    | cons a b =>
      cases b
      split at q
      · rename_i ns en
        obtain ⟨p, rfl, hp⟩ := boolsOf_ok ok a en
        exact cr_any hc pins s σ H _ us Q I rv ⟨p, ns, rfl, .inl (.inl hp), q _ H (Fr.refl S H) ok (.bl _)⟩
      · exact q.elim
  · exact q.elim
/-- tuple(x) -/
def cTupleOf : CC := fun us S Q => match us with
  | [w] => (match deref w S with | some (.lst xs) => Q (.tup xs) S | some (.tup xs) => Q (.tup xs) S | _ => False)
  | _ => False
theorem b_tuple : SC X (.type "tuple") cTupleOf := sc_of (fun us S Q Q' f h => by
    unfold cTupleOf at h ⊢
    repeat' split at h
    all_goals first | exact h.elim | exact f _ _ h) fun pins s σ H xs us Q Z S ws I rv ok re q => by
  unfold cTupleOf at q
  split at q
  · cases re with
    | cons a b =>
      cases b
      split at q
      · rename_i ys ey
        obtain ⟨p, vs, rfl, h, rr⟩ := RepD.lstH (deref_ok ok a ey)
        exact call_tuple_of pins s σ H _ us Q I rv ⟨p, vs, rfl, .inl ⟨.inl (.inl h), fun l hl => new_tup ok hl rr q⟩⟩
      · rename_i ys ey
        have r2 : Rep X.K Z S H (.tup ys) _ := deref_ok ok a ey
        obtain ⟨p, vs, rfl, h, rr⟩ := RepD.tupH r2
        exact call_tuple_of pins s σ H _ us Q I rv ⟨p, vs, rfl, .inr ⟨h, q _ H (Fr.refl S H) ok r2⟩⟩
      · exact q.elim
  · exact q.elim
/-! repr -/
mutual
def showsOk : Cv → Bool
  | .int i => decide (i.natAbs.log2 < 1920)
  | .tup xs => showsOks xs
  | .lst xs => showsOks xs
  | _ => true
def showsOks : List Cv → Bool
  | [] => true
  | x :: r => showsOk x && showsOks r
end
mutual
theorem showable_py : ∀ w : Cv, isD w = true → (py w).showable = showsOk w
  | .non, _ => by simp [py, PyData.showable, showsOk]
  | .bl b, _ => by simp [py, PyData.showable, showsOk]
  | .int i, _ => by simp [py, PyData.showable, showsOk]
  | .str x, h => by simp [py, PyData.showable, showsOk]
  | .tup xs, h => by simp [py, PyData.showable, showsOk, showable_pys xs (by simpa [isD] using h)]
  | .lst xs, h => by simp [py, PyData.showable, showsOk, showable_pys xs (by simpa [isD] using h)]
  | .dK _, h => by simp [isD] at h
  | .dT _, h => by simp [isD] at h
  | .ref _, h => by simp [isD] at h
  | .opq _, h => by simp [isD] at h
  | .scr _, h => by simp [isD] at h
  | .tupF _, h => by simp [isD] at h
theorem showable_pys : ∀ xs : List Cv, isDs xs = true → PyData.showableAll (pys xs) = showsOks xs
  | [], _ => by simp [pys, PyData.showableAll, showsOks]
  | x :: r, h => by
    simp only [isDs, Bool.and_eq_true] at h
    simp [pys, PyData.showableAll, showsOks, showable_py x h.1, showable_pys r h.2]
end
mutual
theorem noDict_py : ∀ w : Cv, (py w).hasDict = false
  | .non => by simp [py, PyData.hasDict]
  | .bl b => by simp [py, PyData.hasDict]
  | .int i => by simp [py, PyData.hasDict]
  | .str x => by simp [py, PyData.hasDict]
  | .tup xs => by simp [py, PyData.hasDict, noDict_pys xs]
  | .lst xs => by simp [py, PyData.hasDict, noDict_pys xs]
  | .dK _ => by simp [py, PyData.hasDict]
  | .dT _ => by simp [py, PyData.hasDict]
  | .ref _ => by simp [py, PyData.hasDict]
  | .opq _ => by simp [py, PyData.hasDict]
  | .scr _ => by simp [py, PyData.hasDict]
  | .tupF _ => by simp [py, PyData.hasDict]
theorem noDict_pys : ∀ xs : List Cv, PyData.hasDictAll (pys xs) = false
  | [] => by simp [pys, PyData.hasDictAll]
  | x :: r => by simp [pys, PyData.hasDictAll, noDict_py x, noDict_pys r]
end
/-- the text that repr gives -/
def rp (w : Cv) : Str := (py w).shown
def okR (w : Cv) : Prop := okD w = true ∧ showsOk w = true ∧ (rp w).length ≤ sizeLine
def cRepr : CC := fun us S Q => match us with
  | [w] => (match deref w S with | some w => okR w ∧ Q (.str (rp w)) S | none => False)
  | _ => False
theorem b_repr (hu : X.A.units + 66 < cLine) (hg : X.A.guards = some []) : SC X (.builtin "repr") cRepr := sc_of (fun us S Q Q' f h => by
    unfold cRepr at h ⊢
    repeat' split at h
    all_goals first | exact h.elim | exact ⟨h.1, f _ _ h.2⟩) fun pins s σ H xs us Q Z S ws I rv ok re q => by
  unfold cRepr at q
  split at q
  · cases re with
    | cons a b =>
      cases b
      split at q
      · rename_i w ew
        obtain ⟨⟨hD, hS, hZ⟩, q⟩ := q
        have rD := deref_ok ok a ew
        have hd := okD_D hD
        obtain ⟨u, rfl, ru⟩ := vals1 rv
        obtain ⟨as, rd⟩ := Dp.reads I _ _ _ (rD.dp hd) ru
        have fin : ∀ (h' : Heap) (u : Tok) (tk : Nat), (∀ b o, s.heap.get? b = some o → h'.get? b = some o) → EP X pins σ Q (.str (rp w) u) { s with heap := h', toks := tk } := fun h' u tk hk =>
          ⟨.str (rp w), H, I.kept hk, ⟨u, rfl⟩, q _ H (Fr.refl S H) ok (.str _)⟩
        have fin0 : EP X pins σ Q (.str (rp w) s.toks) { s with toks := s.toks + 1 } := fin s.heap _ _ fun _ _ h => h
        have isref : (∃ p, u = Value.ref p) → wpAny (model X.prog X.w) X.A (call (.builtin "repr") [u]) (EP X pins σ Q) X.xe s := by
          rintro ⟨p, rfl⟩
          exact repr_of_reads' rd (by rw [showable_py w hd]; exact hS) (fun e => by rw [noDict_py] at e; cases e) hg (by rw [depth_py]; have := okD_dep hD; omega) (fun _ _ h => h) fin hZ
        cases w with
        | non => cases rD; cases ru; exact PySem.P.repr_of_none fin0
        | bl b => cases rD; cases ru; exact PySem.P.repr_of_bool fin0
        | int i =>
          cases rD
          obtain ⟨t, rfl⟩ := ru
          exact PySem.P.repr_of_int (by simpa [showsOk] using hS) fin0
        | str z =>
          cases rD
          obtain ⟨t, rfl⟩ := ru
          exact PySem.P.repr_of_str fin0 hZ
        | tup xs =>
          obtain ⟨p, vs, rfl, _, _⟩ := RepD.tupH rD
          exact isref ⟨p, ru⟩
        | lst xs =>
          obtain ⟨p, vs, rfl, _, _⟩ := RepD.lstH rD
          exact isref ⟨p, ru⟩
        | _ => simp [isD] at hd
      · exact q.elim
  · exact q.elim
end
end CL

set_option Elab.async false
set_option linter.all false
set_option maxRecDepth 100000
set_option maxHeartbeats 1000000
/-! CL7: max and min with a default; methods of lists; chains; in -/
namespace CL
open PySem PySem.Spec PyProof.Rows L2

/-! ### max(xs, default=d), min(xs, default=d) -/
theorem maxOf_eq (x : Int) (r : List Int) : PySem.W.maxOf x r = r.foldl max x := by
  unfold PySem.W.maxOf
  congr 1
  funext a y
  show (if decide (a < y) = true then y else a) = max a y
  by_cases h : a < y
  · simp [h]; omega
  · simp [h]; omega
theorem minOf_eq (x : Int) (r : List Int) : PySem.W.minOf x r = r.foldl min x := by
  unfold PySem.W.minOf
  congr 1
  funext a y
  show (if decide (y < a) = true then y else a) = min a y
  by_cases h : y < a
  · simp [h]; omega
  · simp [h]; omega
theorem holds_int {h : Heap} {v : Value} {M : Int} (H : PySem.W.Holds h v M) : ∃ t, v = .int M t := by
  obtain ⟨as, r⟩ := H
  cases r with
  | int i t => exact ⟨t, rfl⟩
theorem holdAll_ints {X : Cx} {pins : List (Addr × Obj)} {σ : L2.St} {H : Hp} {s : Shared} (I : Inv X pins σ H s) : ∀ {ns : List Int} {its : List Value}, Vals (ns.map V.int) its → PySem.W.HoldAll s.heap its ns
  | [], _, r => by cases r; exact ⟨_, .nil⟩
  | n :: ns, _, r => by
    cases r with
    | cons a r =>
      obtain ⟨t, rfl⟩ := a
      obtain ⟨as, h⟩ := holdAll_ints I r
      exact ⟨_, .cons (.int n t) h⟩
abbrev CCK := List Cv → List Cv → Sto → (Cv → Sto → Prop) → Prop
def MonCK (r : CCK) : Prop := ∀ us zs S (Q Q' : Cv → Sto → Prop), (∀ w S', Q w S' → Q' w S') → r us zs S Q → r us zs S Q'
def liftCK (K : Fg) (r : CCK) : List V → List V → Hp → VK → Prop := fun vs ys H Q => ∃ Z S us zs, StOk K Z S H ∧ Reps K Z S H us vs ∧ Reps K Z S H zs ys ∧ r us zs S fun w S' => ∀ v H', Fr S H S' H' → StOk K Z S' H' → Rep K Z S' H' w v → Q v H'
structure SCK (X : Cx) (f : Value) (ks : List Str) (r : CCK) : Prop where
  mono : MonCK r
  ok : CallRK X f ks (liftCK X.K r)
structure SK (X : Cx) (kws : List Keyword) (t : CA) : Prop where
  mono : MonA t
  ok : PK X kws (liftA X.K t)
theorem _root_.L2.PK.imp {X : Cx} {es : List Keyword} {t t' : TA} (h : PK X es t) (f : ∀ σ H Q, t' σ H Q → t σ H Q) : PK X es t' := ⟨fun pos pins s σ H Q I q => h.run pos pins s σ H Q I (f σ H Q q)⟩
def cCKw (r : CCK) (ta tk : CA) : CE := fun ws S Q => ta ws S fun us S1 => tk ws S1 fun zs S2 => r us zs S2 Q
section
variable {X : Cx} {x : Str} {p pos kpos : Pos} {e : Expr} {es : List Expr} {kws : List Keyword} {te : CE} {ta tk t : CA} {idn : String} {ks : List Str} {r : CCK} {nm : Option Str}
theorem sk_nil : SK X [] cNil := by
  refine ⟨fun ws S Q Q' f h => f _ _ h, pk_nil.imp fun σ H Q h => ?_⟩
  obtain ⟨Z, S, ws, ok, re, h⟩ := h
  exact h [] H (Fr.refl S H) ok .nil
theorem sk_cons (ha : SE X e te) (hr : SK X kws t) : SK X (⟨nm, e, kpos⟩ :: kws) (cCons te t) := by
  refine ⟨fun ws S Q Q' f h => ha.mono _ _ _ _ (fun w S1 h1 => hr.mono _ _ _ _ (fun r S2 h2 => f _ _ h2) h1) h, (pk_cons ha.ok hr.ok).imp fun σ H Q h => ?_⟩
  obtain ⟨Z, S, ws, ok, re, h⟩ := h
  refine liftE_of ha.mono ok re h fun w S1 v1 H1 f1 ok1 r1 h1 => ?_
  refine liftA_of hr.mono ok1 (re.fr f1) h1 fun us S2 vs H2 f2 ok2 r2 h2 => ?_
  exact h2 (v1 :: vs) H2 (f1.trans f2) ok2 (.cons (r1.fr f2) r2)
theorem s_callBK (hc : SCK X (.builtin idn) ks r) (hm : X.mg x = none) (ha : SA X (e :: es) ta) (hk : SK X kws tk) (hg : Gl X x := by rfl) (hv : bootBuiltins x = some (.builtin idn) := by decide +kernel) (hn : x ≠ "__name__" := by decide) (hdb : (x == ("__debug__" : Str)) = false := by decide)
    (he : backTo pos (starEach (e :: es) X.env) = (false, eval e X.env) :: backTo pos (starEach es X.env) := by rfl) (hpl : (backTo pos (starEach (e :: es) X.env)).any (·.1) = false := by rfl)
    (hall : (backToKw pos (keywordEach kws X.env)).all (·.1.isSome) = true := by rfl) (hnone : (backToKw pos (keywordEach kws X.env)).any (·.1.isNone) = false := by rfl) (hks : (backToKw pos (keywordEach kws X.env)).filterMap (·.1) = ks := by rfl) :
    SE X (.Call (.Name x p) (e :: es) kws pos) (cCKw r ta tk) := by
  refine ⟨fun ws S Q Q' f h => ha.mono _ _ _ _ (fun us S1 h1 => hk.mono _ _ _ _ (fun zs S2 h2 => hc.mono _ _ _ _ _ f h2) h1) h, (pe_callBK hc.ok hg hm hv ha.ok hk.ok hn hdb he hpl hall hnone hks).imp fun σ H Q h => ?_⟩
  obtain ⟨Z, S, ws, ok, re, h⟩ := h
  refine liftA_of ha.mono ok re h fun us S1 vs H1 f1 ok1 r1 h1 => ?_
  refine liftA_of hk.mono ok1 (re.fr f1) h1 fun zs S2 ys H2 f2 ok2 r2 h2 => ?_
  exact ⟨Z, S2, us, zs, ok2, r1.fr f2, r2, hc.mono _ _ _ _ _ (fun w S' g v H' a b c => g v H' ((f1.trans f2).trans a) b c) h2⟩
def cMaxD : CCK := fun us zs S Q => match us, zs with
  | [w], [d] => (match intsOf w S with | some [] => Q d S | some ns => Q (.int (lmax 0 ns)) S | none => False)
  | _, _ => False
def cMinD : CCK := fun us zs S Q => match us, zs with
  | [w], [d] => (match intsOf w S with | some [] => Q d S | some ns => Q (.int (lmin 0 ns)) S | none => False)
  | _, _ => False
theorem cMaxD_mono : MonCK cMaxD := fun us zs S Q Q' f h => by
  unfold cMaxD at h ⊢
  repeat' split at h
  all_goals first | exact h.elim | exact f _ _ h
theorem cMinD_mono : MonCK cMinD := fun us zs S Q Q' f h => by
  unfold cMinD at h ⊢
  repeat' split at h
  all_goals first | exact h.elim | exact f _ _ h
theorem b_maxD (hc : X.calm = true) (hu : X.A.units + 64 < cLine) : SCK X (.builtin "max") ["default"] cMaxD := ⟨cMaxD_mono, fun pins s σ H xs zs us ws Q I rx rz q => by
  obtain ⟨Z, S, cs, ds, ok, re, rk, q⟩ := q
  unfold cMaxD at q
  split at q
  · rename_i w d
    cases re with
    | cons a b =>
      cases b
      cases rk with
      | cons a2 b2 =>
        cases b2
        obtain ⟨u, rfl, ru⟩ := vals1 rx
        obtain ⟨u2, rfl, ru2⟩ := vals1 rz
        have go : ∀ ns, intsOf w S = some ns → (ns = [] → ∀ v H', Fr S H S H' → StOk X.K Z S H' → Rep X.K Z S H' d v → Q v H') → (ns ≠ [] → ∀ v H', Fr S H S H' → StOk X.K Z S H' → Rep X.K Z S H' (.int (lmax 0 ns)) v → Q v H') →
            wpAny (model X.prog X.w) X.A (call (.builtin "max") [u] [("default", u2)]) (EP X pins σ Q) X.xe s := by
          intro ns en q1 q2
          obtain ⟨p, e, hp⟩ := intsOf_ok ok a en
          subst e
          cases ru
          obtain ⟨its, rv, pl, _⟩ := I.list (.inl (.inl hp))
          refine PySem.W.max_list_datum_default (I.ok.hd hc) pl.isList (holdAll_ints I rv) (by show X.A.units + 1 + 0 < cLine; omega) (fun e h' tk hk => ?_) fun y ys i v h' tk e hi hol hk => ?_
          · exact ⟨_, H, I.kept hk, ru2, q1 e _ H (Fr.refl S H) ok a2⟩
          · obtain ⟨t, rfl⟩ := holds_int hol
            refine ⟨.int (lmax 0 ns), H, I.kept hk, ⟨t, ?_⟩, q2 (by rw [e]; simp) _ H (Fr.refl S H) ok (.int _)⟩
            rw [e, maxOf_eq]; rfl
        cases en : intsOf w S with
        | none => rw [en] at q; exact q.elim
        | some ns =>
          rw [en] at q
          cases ns with
          | nil => exact go [] en (fun _ => q) fun h => absurd rfl h
          | cons n ns => exact go (n :: ns) en (fun h => by cases h) fun _ => q
  · exact q.elim⟩
theorem b_minD (hc : X.calm = true) (hu : X.A.units + 64 < cLine) : SCK X (.builtin "min") ["default"] cMinD := ⟨cMinD_mono, fun pins s σ H xs zs us ws Q I rx rz q => by
  obtain ⟨Z, S, cs, ds, ok, re, rk, q⟩ := q
  unfold cMinD at q
  split at q
  · rename_i w d
    cases re with
    | cons a b =>
      cases b
      cases rk with
      | cons a2 b2 =>
        cases b2
        obtain ⟨u, rfl, ru⟩ := vals1 rx
        obtain ⟨u2, rfl, ru2⟩ := vals1 rz
        have go : ∀ ns, intsOf w S = some ns → (ns = [] → ∀ v H', Fr S H S H' → StOk X.K Z S H' → Rep X.K Z S H' d v → Q v H') → (ns ≠ [] → ∀ v H', Fr S H S H' → StOk X.K Z S H' → Rep X.K Z S H' (.int (lmin 0 ns)) v → Q v H') →
            wpAny (model X.prog X.w) X.A (call (.builtin "min") [u] [("default", u2)]) (EP X pins σ Q) X.xe s := by
          intro ns en q1 q2
          obtain ⟨p, e, hp⟩ := intsOf_ok ok a en
          subst e
          cases ru
          obtain ⟨its, rv, pl, _⟩ := I.list (.inl (.inl hp))
          refine PySem.W.min_list_datum_default (I.ok.hd hc) pl.isList (holdAll_ints I rv) (by show X.A.units + 1 + 0 < cLine; omega) (fun e h' tk hk => ?_) fun y ys i v h' tk e hi hol hk => ?_
          · exact ⟨_, H, I.kept hk, ru2, q1 e _ H (Fr.refl S H) ok a2⟩
          · obtain ⟨t, rfl⟩ := holds_int hol
            refine ⟨.int (lmin 0 ns), H, I.kept hk, ⟨t, ?_⟩, q2 (by rw [e]; simp) _ H (Fr.refl S H) ok (.int _)⟩
            rw [e, minOf_eq]; rfl
        cases en : intsOf w S with
        | none => rw [en] at q; exact q.elim
        | some ns =>
          rw [en] at q
          cases ns with
          | nil => exact go [] en (fun _ => q) fun h => absurd rfl h
          | cons n ns => exact go (n :: ns) en (fun h => by cases h) fun _ => q
  · exact q.elim⟩

/-! ### methods -/
abbrev CM := Cv → List Cv → Sto → (Cv → Sto → Prop) → Prop
def MonM (r : CM) : Prop := ∀ o us S (Q Q' : Cv → Sto → Prop), (∀ w S', Q w S' → Q' w S') → r o us S Q → r o us S Q'
def liftM (K : Fg) (r : CM) : V → List V → Hp → VK → Prop := fun x vs H Q => ∃ Z S o us, StOk K Z S H ∧ Rep K Z S H o x ∧ Reps K Z S H us vs ∧ r o us S fun w S' => ∀ v H', Fr S H S' H' → StOk K Z S' H' → Rep K Z S' H' w v → Q v H'
structure SM (X : Cx) (idn : String) (r : CM) : Prop where
  mono : MonM r
  ok : MtR X idn (liftM X.K r)
/-- of that built-in type -/
def tyC (T : String) (o : Cv) (S : Sto) : Prop := match o with
  | .str _ => T = "str"
  | .lst _ => T = "list"
  | .dK _ => T = "dict"
  | .dT _ => T = "dict"
  | .ref a => (match S a with | some (.lst _) => T = "list" | some (.dK _) => T = "dict" | some (.dT _) => T = "dict" | _ => False)
  | _ => False
theorem tyC_ok {K : Fg} {Z : List Addr} {S : Sto} {H : Hp} {T : String} {o : Cv} {x : V} (ok : StOk K Z S H) (r : Rep K Z S H o x) (h : tyC T o S) : tyV K T x H := by
  cases r with
  | str z => exact h
  | lst hh n z rr => exact .inl ⟨h, _, .inl (.inl hh)⟩
  | dK hh n z e rr => exact .inr (.inr (.inl ⟨h, .inl ⟨_, hh⟩⟩))
  | dT hh n z e rr => exact .inr (.inr (.inl ⟨h, .inr ⟨_, hh⟩⟩))
  | ref a =>
    unfold tyC at h
    cases e : S a with
    | none => simp [e] at h
    | some ob =>
      have ro := ok.ob a ob e
      cases ob with
      | lst xs => simp only [e] at h; obtain ⟨vs, h1, _⟩ := ro; exact .inl ⟨h, _, .inl (.inl h1)⟩
      | dK xs => simp only [e] at h; obtain ⟨vs, h1, _⟩ := ro; exact .inr (.inr (.inl ⟨h, .inl ⟨_, h1⟩⟩))
      | dT xs => simp only [e] at h; obtain ⟨vs, h1, _⟩ := ro; exact .inr (.inr (.inl ⟨h, .inr ⟨_, h1⟩⟩))
      | ins C dx fs => simp [e] at h
  | _ => exact h.elim
def cBM (T : String) (r : CM) (to : CE) (ta : CA) : CE := fun ws S Q => to ws S fun o S1 => tyC T o S1 ∧ ta ws S1 fun us S2 => r o us S2 Q
variable {o : Expr} {to : CE} {name : Str} {apos cpos : Pos} {T : String} {rm : CM}
theorem cBM_mono (hr : MonM rm) (ho : MonE to) (ha : MonA ta) : MonE (cBM T rm to ta) := fun ws S Q Q' f h => ho _ _ _ _ (fun o S1 h1 => ⟨h1.1, ha _ _ _ _ (fun us S2 h2 => hr _ _ _ _ _ f h2) h1.2⟩) h
theorem s_bm (pa : PlainAttrs T) (slot : Slot T name idn) (hm : SM X idn rm) (ho : SE X o to) (ha : SA X (e :: es) ta) (hty : typeOf (.builtin idn) = pure (.type "method_descriptor") := by rfl)
    (hbase : attributeBase o name X.env (eval o X.env) = eval o X.env := by rfl)
    (hfew : ((backTo cpos (starEach (e :: es) X.env)).all (fun x => !x.1) && (backToKw cpos (keywordEach [] X.env)).all (fun x => x.1.isSome)
      && decide ((e :: es).length + ([] : List Keyword).length + (if ([] : List Keyword).isEmpty then 0 else 1) < 30)) = true := by rfl)
    (hline : (apos.endLine == cpos.line) = true := by rfl) (hs : starEach (e :: es) X.env = (false, eval e X.env) :: starEach es X.env := by rfl) (hplain : (backTo cpos (starEach es X.env)).any (·.1) = false := by rfl) :
    SE X (.Call (.Attribute o name apos) (e :: es) [] cpos) (cBM T rm to ta) :=
  ⟨cBM_mono hm.mono ho.mono ha.mono, (pe_bm pa slot hty hm.ok ho.ok ha.ok hbase hfew hline hs hplain).imp fun σ H Q h => by
    obtain ⟨Z, S, ws, ok, re, h⟩ := h
    refine liftE_of ho.mono ok re h fun w S1 v1 H1 f1 ok1 r1 h1 => ⟨tyC_ok ok1 r1 h1.1, ?_⟩
    refine liftA_of ha.mono ok1 (re.fr f1) h1.2 fun us S2 vs H2 f2 ok2 r2 h2 => ?_
    exact ⟨Z, S2, w, us, ok2, r1.fr f2, r2, hm.mono _ _ _ _ _ (fun w S' g v H' a b c => g v H' ((f1.trans f2).trans a) b c) h2⟩⟩
theorem s_bm0 (pa : PlainAttrs T) (slot : Slot T name idn) (hm : SM X idn rm) (ho : SE X o to) (hty : typeOf (.builtin idn) = pure (.type "method_descriptor") := by rfl)
    (hbase : attributeBase o name X.env (eval o X.env) = eval o X.env := by rfl) (hline : (apos.endLine == cpos.line) = true := by rfl) : SE X (.Call (.Attribute o name apos) [] [] cpos) (cBM T rm to cNil) :=
  ⟨cBM_mono hm.mono ho.mono (fun _ _ _ _ f h => f _ _ h), (pe_bm0 pa slot hty hm.ok ho.ok hbase hline).imp fun σ H Q h => by
    obtain ⟨Z, S, ws, ok, re, h⟩ := h
    refine liftE_of ho.mono ok re h fun w S1 v1 H1 f1 ok1 r1 h1 => ⟨tyC_ok ok1 r1 h1.1, ?_⟩
    exact ⟨Z, S1, w, [], ok1, r1, .nil, hm.mono _ _ _ _ _ (fun w S' g v H' a b c => g v H' (f1.trans a) b c) h1.2⟩⟩
theorem sm_of {r : CM} (m : MonM r) (h : ∀ (pins : List (Addr × Obj)) (s : Shared) (σ : L2.St) (H : Hp) (x : V) (xs : List V) (v : Value) (us : List Value) (Q : VK) (Z : List Addr) (S : Sto) (o : Cv) (ws : List Cv), Inv X pins σ H s → RelV x v → Vals xs us → StOk X.K Z S H → Rep X.K Z S H o x → Reps X.K Z S H ws xs →
    r o ws S (fun w S' => ∀ v H', Fr S H S' H' → StOk X.K Z S' H' → Rep X.K Z S' H' w v → Q v H') → wpAny (model X.prog X.w) X.A (call (.builtin idn) (v :: us)) (EP X pins σ Q) X.xe s) : SM X idn r :=
  ⟨m, fun pins s σ H x xs v us Q I rx rv q => by
    obtain ⟨Z, S, o, ws, ok, ro, re, q⟩ := q
    exact h pins s σ H x xs v us Q Z S o ws I rx rv ok ro re q⟩
/-- an owned list is written -/
theorem own_wr {K : Fg} {Z : List Addr} {S : Sto} {H : Hp} {Q : VK} {p : Addr} {xs ys : List Cv} {vs : List V} {w : Cv} {v : V} (ok : StOk K Z S H) (e : S p = some (.lst xs)) (r : Reps K Z S H ys vs) (rw' : Rep K Z S H w v)
    (q : ∀ v H', Fr S H (S.set p (.lst ys)) H' → StOk K Z (S.set p (.lst ys)) H' → Rep K Z (S.set p (.lst ys)) H' w v → Q v H') : Q v (upd H p (.lst vs)) := by
  have f : Fr S H (S.set p (.lst ys)) (upd H p (.lst vs)) := Fr.wr e
  exact q v _ f (ok.wr e ⟨vs, upd_same, r.fr f⟩) (rw'.fr f)
def cAppend : CM := fun o us S Q => match o, us with
  | .ref p, [w] => ownL S p fun xs => xs.length < sizeLine ∧ Q .non (S.set p (.lst (xs ++ [w])))
  | _, _ => False
theorem m_append : SM X "list.append" cAppend := sm_of (fun o us S Q Q' f h => by
    unfold cAppend at h ⊢
    split at h
    · exact ownL_imp (fun xs q => ⟨q.1, f _ _ q.2⟩) h
    · exact h.elim) fun pins s σ H x xs v us Q Z S o ws I rx rv ok ro re q => by
  unfold cAppend at q
  split at q
  · rename_i p w
    obtain ⟨ys, e, hz, q⟩ := ownL_of q
    obtain ⟨vs, hp, rr⟩ := ok.ob p _ e
    cases ro
    cases re with
    | cons a b =>
      cases b
      exact mt_append pins s σ H _ _ v us Q I rx rv ⟨p, vs, _, rfl, rfl, hp, by rw [← rr.length]; exact hz, own_wr ok e (rr.app (.one a)) .non q⟩
  · exact q.elim
def cExtend : CM := fun o us S Q => match o, us with
  | .ref p, [w] => ownL S p fun xs => match deref w S with
    | some (.lst zs) => xs.length + zs.length ≤ sizeLine ∧ Q .non (S.set p (.lst (xs ++ zs)))
    | _ => False
  | _, _ => False
theorem m_extend : SM X "list.extend" cExtend := sm_of (fun o us S Q Q' f h => by
    unfold cExtend at h ⊢
    split at h
    · refine ownL_imp (fun xs q => ?_) h
      split at q
      · exact ⟨q.1, f _ _ q.2⟩
      · exact q.elim
    · exact h.elim) fun pins s σ H x xs v us Q Z S o ws I rx rv ok ro re q => by
  unfold cExtend at q
  split at q
  · rename_i p w
    obtain ⟨ys, e, q⟩ := ownL_of q
    obtain ⟨vs, hp, rr⟩ := ok.ob p _ e
    cases ro
    cases re with
    | cons a b =>
      cases b
      split at q
      · rename_i zs ez
        obtain ⟨b, v2, rfl, hb, r2⟩ := RepD.lstH (deref_ok ok a ez)
        exact mt_extend pins s σ H _ _ v us Q I rx rv ⟨p, b, vs, v2, rfl, rfl, hp, hb, by rw [← rr.length, ← r2.length]; exact q.1, own_wr ok e (rr.app r2) .non q.2⟩
      · exact q.elim
  · exact q.elim
theorem reps_dropLast {K : Fg} {Z : List Addr} {S : Sto} {H : Hp} {ws : List Cv} {vs : List V} (r : Reps K Z S H ws vs) : Reps K Z S H ws.dropLast vs.dropLast := by
  rw [List.dropLast_eq_take, List.dropLast_eq_take, r.length]
  exact r.take _
theorem reps_erase {K : Fg} {Z : List Addr} {S : Sto} {H : Hp} {ws : List Cv} {vs : List V} (r : Reps K Z S H ws vs) (k : Nat) : Reps K Z S H (ws.eraseIdx k) (vs.eraseIdx k) := by
  rw [List.eraseIdx_eq_take_drop_succ, List.eraseIdx_eq_take_drop_succ]
  exact (r.take _).app (r.drop _)
def cPop : CM := fun o us S Q => match o, us with
  | .ref p, [] => ownL S p fun xs => match xs[xs.length - 1]? with | some w => Q w (S.set p (.lst xs.dropLast)) | none => False
  | _, _ => False
theorem m_pop : SM X "list.pop" cPop := sm_of (fun o us S Q Q' f h => by
    unfold cPop at h ⊢
    split at h
    · refine ownL_imp (fun xs q => ?_) h
      split at q
      · exact f _ _ q
      · exact q.elim
    · exact h.elim) fun pins s σ H x xs v us Q Z S o ws I rx rv ok ro re q => by
  unfold cPop at q
  split at q
  · rename_i p
    obtain ⟨ys, e, q⟩ := ownL_of q
    obtain ⟨vs, hp, rr⟩ := ok.ob p _ e
    cases ro
    cases re
    split at q
    · rename_i w ew
      obtain ⟨v1, h1, h2⟩ := rr.get ew
      exact mt_pop pins s σ H _ _ v us Q I rx rv ⟨p, vs, v1, rfl, rfl, hp, by rw [← rr.length]; exact h1, own_wr ok e (reps_dropLast rr) h2 q⟩
    · exact q.elim
  · exact q.elim
def cPopAt : CM := fun o us S Q => match o, us with
  | .ref p, [.int i] => ownL S p fun xs => (-(2 ^ 63) ≤ i ∧ i < 2 ^ 63) ∧ (match ixN xs.length i with
    | some k => (match xs[k]? with | some w => Q w (S.set p (.lst (xs.eraseIdx k))) | none => False)
    | none => False)
  | _, _ => False
theorem m_popAt : SM X "list.pop" cPopAt := sm_of (fun o us S Q Q' f h => by
    unfold cPopAt at h ⊢
    split at h
    · refine ownL_imp (fun xs q => ⟨q.1, ?_⟩) h
      have q2 := q.2
      split at q2
      · split at q2
        · exact f _ _ q2
        · exact q2.elim
      · exact q2.elim
    · exact h.elim) fun pins s σ H x xs v us Q Z S o ws I rx rv ok ro re q => by
  unfold cPopAt at q
  split at q
  · rename_i p i
    obtain ⟨ys, e, hi, q⟩ := ownL_of q
    obtain ⟨vs, hp, rr⟩ := ok.ob p _ e
    cases ro
    cases re with
    | cons a b =>
      cases b; cases a
      split at q
      · rename_i k ek
        split at q
        · rename_i w ew
          obtain ⟨v1, h1, h2⟩ := rr.get ew
          exact mt_popAt pins s σ H _ _ v us Q I rx rv ⟨p, vs, i, k, v1, rfl, rfl, hp, hi.1, hi.2, by rw [← rr.length]; exact (ixN_seq ek).1, h1, own_wr ok e (reps_erase rr k) h2 q⟩
        · exact q.elim
      · exact q.elim
  · exact q.elim

/-! ### chains of comparisons -/
def cChain (r r' : C2) (ta tb tc : CE) : CE := fun ws S Q => ta ws S fun x S1 => tb ws S1 fun y S2 => r x y S2 fun z S3 => match z with
  | .bl true => tc ws S3 fun u S4 => r' y u S4 Q
  | .bl false => Q (.bl false) S3
  | _ => False
theorem s_chain {op op' : CmpOp} {r r' : C2} {a b c : Expr} {tA tB tC : CE} (ho : S2 X (compareOp op) r) (ho' : S2 X (compareOp op') r') (ha : SE X a tA) (hb : SE X b tB) (hc : SE X c tC)
    (hm : lastMarks [op, op'] [b, c] = false := by with_unfolding_all rfl) : SE X (.Compare a [op, op'] [b, c] pos) (cChain r r' tA tB tC) := by
  refine ⟨fun ws S Q Q' f h => ha.mono _ _ _ _ (fun x S1 q1 => hb.mono _ _ _ _ (fun y S2 q2 => ho.mono _ _ _ _ _ (fun z S3 q3 => ?_) q2) q1) h, (pe_chain ho.ok ho'.ok ha.ok hb.ok hc.ok hm).imp fun σ H Q h => ?_⟩
  · split at q3
    · exact hc.mono _ _ _ _ (fun u S4 q4 => ho'.mono _ _ _ _ _ f q4) q3
    · exact f _ _ q3
    · exact q3.elim
  · obtain ⟨Z, S, ws, ok, re, h⟩ := h
    refine liftE_of ha.mono ok re h fun x S1 v1 H1 f1 ok1 r1 q1 => ?_
    refine liftE_of hb.mono ok1 (re.fr f1) q1 fun y S2 v2 H2 f2 ok2 r2 q2 => ?_
    refine ⟨Z, S2, x, y, ok2, r1.fr f2, r2, ho.mono _ _ _ _ _ (fun z S3 q3 v3 H3 f3 ok3 r3 => ?_) q2⟩
    have f0 := (f1.trans f2).trans f3
    split at q3
    · cases r3
      refine ⟨true, rfl, ?_⟩
      show liftE X.K tC σ H3 _
      refine liftE_of hc.mono ok3 (re.fr f0) q3 fun u S4 v4 H4 f4 ok4 r4 q4 => ?_
      exact ⟨Z, S4, y, u, ok4, (r2.fr f3).fr f4, r4, ho'.mono _ _ _ _ _ (fun w S' g v H' a b c => g v H' ((f0.trans f4).trans a) b c) q4⟩
    · cases r3
      exact ⟨false, rfl, q3 _ H3 f0 ok3 (.bl false)⟩
    · exact q3.elim
end
end CL

set_option Elab.async false
set_option linter.all false
set_option maxRecDepth 100000
set_option maxHeartbeats 1000000
/-! CL8: the end of a law -/
namespace CL
open PySem PySem.Spec PyProof.Rows L2

/-- nothing is owned -/
abbrev S0 : Sto := fun _ => none
/-- what the law's def promises: from the script, True -/
def LawSp (n : Nat) (sp : CSp) : Prop := ∀ ns : List Int, ns.length ≤ n → (∀ z ∈ ns, Builtin.Int.intBits z ≤ 1048576) → sp [.scr (ns.map Cv.int)] S0 (fun v _ => v = .bl true) X0

section
variable {P : Program} {w : World} {K : Fg} {mg mb : Str → Option Value} {k n : Nat} {fa a : Addr} {fd : FuncData} {x : Str} {sp : CSp} {s1 : Shared} {vs : List Value} {ns : List Int}
/-- the call of the law, from an abstract heap H in which at most the script is tracked -/
theorem law_from {H : Hp} {base : Heap} (hb : base = hidT s1.heap H) (ok : HOk P w H s1.heap) (only : ∀ b u, H b = some u → b = a ∧ ∃ o l, u = .frz o (.lst l)) (kin : K.In base) (glob : base.Ns mainGlobals mg) (hmb : base.Ns builtinsNs mb)
    (hbb : ∀ x : Str, x ≠ "__name__" → mb x = bootBuiltins x) (lim : base.NoLimit) (hg : s1.gens = #[]) (hr : RoomG k callerA) (F : FnG P w K mg base L2.CX0 k fa fd [x] sp)
    (hbind : ∀ (s : Shared) (u : Value), BindsTo s fd ⟨[u], []⟩ [(x, u)]) (hsp : liftSp K sp [.ref a] H (fun v _ => v = .bl true) fun _ _ _ => False) :
    codeAny (model P w) callerA (.call (.ref fa) ⟨[.ref a], []⟩) (fun r s' => r = .ok (.ret (.bool true)) ∧ OldK s1.heap s'.heap ∧ s'.os = s1.os ∧ AllBare s'.gens) s1 := by
  have e0 : Env0 P w K mg base callerA [] s1 H := by
    refine ⟨rfl, ⟨kin, glob, ⟨mb, hmb, hbb⟩, lim⟩, fun b o e => ?_, ?_, trivial, fun b h => ?_, ok, .of_eq hg⟩
    · rw [hb] at e; exact of_hidT e
    · rw [hb]; exact Nat.le_of_eq (hidT_size _ _)
    · cases h
  refine codeAny_mono (F.run callerA [] s1 H ⟨[.ref a], []⟩ [.ref a] [.ref a] _ _ hr e0 (hbind s1 (.ref a)) (.cons rfl .nil) hsp) fun r s' h => ?_
  cases r with
  | error e => exact False.elim h
  | ok fl =>
    cases fl with
    | next => exact False.elim h
    | brk => exact False.elim h
    | cont => exact False.elim h
    | ret u =>
      obtain ⟨v, H', os, bare, un, ok', rv, q⟩ := h
      have q' : v = .bl true := q
      subst q'
      have eu : u = Value.bool true := rv
      subst eu
      refine ⟨rfl, OldK.of_keep fun b o e => ?_, os, bare⟩
      cases hH : H b with
      | none => exact un.keep b o e hH (by intro z; cases z) (by simp)
      | some u =>
        obtain ⟨_, ob, l, rfl⟩ := only b u hH
        obtain ⟨e1, _⟩ := ok b _ hH
        obtain ⟨e2, _⟩ := ok' b _ (un.frzs b ob _ hH)
        rw [e] at e1; cases e1
        exact e2
theorem reps_ints {K : Fg} {Z : List Addr} {S : Sto} {H : Hp} : ∀ ns : List Int, Reps K Z S H (ns.map Cv.int) (ns.map V.int)
  | [] => .nil
  | n :: r => .cons (.int n) (reps_ints r)
theorem law_go (kx : K.In s1.heap) (hns : s1.heap.Ns mainGlobals mg) (hmb : s1.heap.Ns builtinsNs mb) (hbb : ∀ x : Str, x ≠ "__name__" → mb x = bootBuiltins x) (lim : s1.heap.NoLimit) (hg : s1.gens = #[])
    (ha : s1.heap.get? a = some { cls := .type "list", data := .seq vs.toArray }) (hi : IntsAre vs ns) (hl : ns.length ≤ sizeLine) (hr : RoomG k callerA)
    (F : ∀ base : Heap, K.In base → base.Ns mainGlobals mg → FnG P w K mg base L2.CX0 k fa fd [x] sp) (hbind : ∀ (s : Shared) (u : Value), BindsTo s fd ⟨[u], []⟩ [(x, u)])
    (hsp : sp [.scr (ns.map Cv.int)] S0 (fun v _ => v = .bl true) X0) :
    codeAny (model P w) callerA (.call (.ref fa) ⟨[.ref a], []⟩) (fun r s' => r = .ok (.ret (.bool true)) ∧ OldK s1.heap s'.heap ∧ s'.os = s1.os ∧ AllBare s'.gens) s1 := by
  have rv := vals_ints hi
  have final : ∀ {H : Hp}, Rep K [] S0 H (.scr (ns.map Cv.int)) (.ref a) → liftSp K sp [.ref a] H (fun v _ => v = .bl true) fun _ _ _ => False := fun {H} r => by
    refine ⟨[], S0, _, ⟨fun _ _ e => (by cases e), fun _ z => (by cases z)⟩, .cons r .nil, (F s1.heap kx hns).mono _ _ _ _ _ _ (fun u S' e v H' _ _ r' => ?_) (fun _ _ z => z.elim) hsp⟩
    subst e
    cases r'
    rfl
  cases hk : K.lookup a with
  | some o =>
    have e := kx a o hk
    rw [ha] at e
    cases e
    have nH : hidT s1.heap (fun _ => none) = hidT s1.heap fun _ => none := rfl
    have get : ∀ {b : Addr} {o : Obj}, s1.heap.get? b = some o → (hidT s1.heap fun _ => none).get? b = some o := fun e => hidT_get e rfl
    have ns' : ∀ {b : Addr} {m : Str → Option Value}, s1.heap.Ns b m → (hidT s1.heap fun _ => none).Ns b m := fun ⟨o, es, ep, e, r⟩ => ⟨o, es, ep, get e, r⟩
    have kin : K.In (hidT s1.heap fun _ => none) := fun b o e => get (kx b o e)
    refine law_from (H := fun _ => none) rfl (fun _ _ e => by cases e) (fun _ _ e => by cases e) kin (ns' hns) (ns' hmb) hbb (let ⟨mc, h1, h2⟩ := lim; ⟨mc, ns' h1, h2⟩) hg hr (F _ kin (ns' hns)) hbind (final ?_)
    refine .scrK (vs := ns.map V.int) (fun H' => .inr ⟨_, vs.toArray, _, hk, rfl, rfl, rfl, ?_, by simpa using rv⟩) (reps_ints ns)
    rw [List.size_toArray, hi.length]; exact hl
  | none =>
    -- the script is tracked, locked
    let H : Hp := fun b => if b = a then some (.frz { cls := .type "list", data := .seq vs.toArray } (.lst (ns.map V.int))) else none
    have hHa : H a = some (.frz { cls := .type "list", data := .seq vs.toArray } (.lst (ns.map V.int))) := if_pos rfl
    have hHn : ∀ b, b ≠ a → H b = none := fun b h => if_neg h
    have get : ∀ {b : Addr} {o : Obj}, s1.heap.get? b = some o → b ≠ a → (hidT s1.heap H).get? b = some o := fun e n => hidT_get e (hHn _ n)
    have ns' : ∀ {b : Addr} {m : Str → Option Value}, s1.heap.Ns b m → (hidT s1.heap H).Ns b m := fun {b m} ⟨o, es, ep, e, d, r⟩ => by
      refine ⟨o, es, ep, get e fun z => ?_, d, r⟩
      subst z
      rw [ha] at e; cases e
      have d' : Data.seq vs.toArray _ = Data.dict es ep := d
      cases d'
    have kin : K.In (hidT s1.heap H) := fun b o e => get (kx b o e) fun z => by subst z; rw [hk] at e; cases e
    refine law_from (H := H) rfl (fun b u e => ?_) (fun b u e => ?_) kin (ns' hns) (ns' hmb) hbb (let ⟨mc, h1, h2⟩ := lim; ⟨mc, ns' h1, h2⟩) hg hr (F _ kin (ns' hns)) hbind (final (.scr hHa rfl (reps_ints ns)))
    · by_cases z : b = a
      · subst z
        rw [hHa] at e; cases e
        exact ⟨ha, by rw [List.length_map]; exact hl, vs, _, rv, ha⟩
      · rw [hHn b z] at e; cases e
    · by_cases z : b = a
      · subst z
        rw [hHa] at e; cases e
        exact ⟨rfl, _, _, rfl⟩
      · rw [hHn b z] at e; cases e
end
/-- what k_head leaves, from the law's promise -/
theorem law_end {l : PySem.W.OpenLaw} {n k : Nat} {q : Program} {loose : List Str} {XP : (Str → Option Value) → Heap → Prop} {YP : World → Heap → Prop} {d : DefRec} {K : Params → Fg} {sp : World → CSp} {x : Str}
    (hn : l.most = some n) (hn2 : n ≤ sizeLine) (hdf : d.params.defaults = []) (hr : RoomG k callerA) (hY : ∀ (w : World) (h : Heap), YP w h → (K w.params).In h)
    (F : ∀ (w : World) (mg : Str → Option Value) (fa : Addr) (h : Heap), (K w.params).In h → h.Ns mainGlobals mg → mg d.name = some (.ref fa) →
      ∃ fd : FuncData, (∀ (s : Shared) (u : Value), BindsTo s fd ⟨[u], []⟩ [(x, u)]) ∧
        ∀ base : Heap, (K w.params).In base → base.Ns mainGlobals mg → FnG l.prog w (K w.params) mg base L2.CX0 k fa fd [x] (sp w))
    (hsp : ∀ w, LawSp n (sp w)) : PySem.W.WalkO q loose XP YP l.row.toRowW d [] (fun f vs => PySem.call f vs) := by
  refine Att.attach_callB hn hdf fun w s0 s1 mg mb fa o pm cd doc a vs ns G Y ho hd hcd hmg hobj hints hlen hbits hg => ?_
  have kx := hY w _ Y
  obtain ⟨fd, hb, hF⟩ := F w mg fa _ kx G.T.g hmg
  exact law_go kx G.T.g G.T.b G.T.builtins G.T.nolimit hg hobj hints (Nat.le_trans hlen hn2) hr hF hb (hsp w ns hlen hbits)
theorem room_caller {k : Nat} (h : k ≤ 60) : RoomG k callerA := by
  refine ⟨⟨rfl, ?_, ?_⟩, rfl⟩
  · show 1 + claimMargin + 3 * k + 5 < recursionLimit
    have e : recursionLimit = 1000 := by first | rfl | decide
    have e2 : claimMargin ≤ 700 := by decide
    omega
  · show 4 + 16 * k + 200 < cLine
    have e : 4000 ≤ cLine := by decide
    omega
end CL

set_option Elab.async false
set_option linter.all false
set_option maxRecDepth 100000
set_option maxHeartbeats 1000000
/-! CL9: parallel stores, -x, bundles for a def, loops by invariants -/
namespace CL
open PySem PySem.Spec PyProof.Rows L2

theorem RoomG.u {k : Nat} {A : Around} (r : RoomG k A) : A.units + 66 < cLine := by have := r.room.un; omega
theorem RoomG.u4 {k : Nat} {A : Around} (r : RoomG k A) : A.units + 64 < cLine := by have := r.room.un; omega
section
variable {X : Cx} {pos : Pos}
/-- x, y = e, f as two stores -/
def cPar (i j : Nat) (ta : CA) : CS := fun D ws S => ta ws S fun us S1 => match us with | [u, v] => D.nx ((ws.set i (some u)).set j (some v)) S1 | _ => False
theorem ss_par (i j : Nat) {x y : Str} {a b : Expr} {ta : CA} {px py pt : Pos} {kt k2 pt2} (hc : X.calm = true) (hN : X.N.Nodup) (ha : SA X [a, b] ta) (hi : X.N[i]? = some x := by rfl) (hj : X.N[j]? = some y := by rfl) (hij : i ≠ j := by decide)
    (hx : X.env.scope.names.lookup x = some .local := by rfl) (hy : X.env.scope.names.lookup y = some .local := by rfl)
    (hw : swappedStores [.Tuple [.Name x px, .Name y py] kt pt] (.Tuple [a, b] k2 pt2) X.env = pure (some [x, y]) := by rfl)
    (hs : swapsWithSole [.Tuple [.Name x px, .Name y py] kt pt] (.Tuple [a, b] k2 pt2) pos.line X.env = pure false := by rfl) : SS X (.Assign [.Tuple [.Name x px, .Name y py] kt pt] (.Tuple [a, b] k2 pt2) pos) (cPar i j ta) := by
  refine ⟨fun D D' ws S l h => ha.mono _ _ _ _ (fun us S1 q => ?_) h, (ps_par hc hN hi hj hij hx hy ha.ok hw hs).imp fun D σ H h => ?_⟩
  · split at q
    · exact l.nx _ _ q
    · exact q
  · obtain ⟨Z, S, ws, ok, re, h⟩ := h
    refine liftA_of ha.mono ok re h fun us S1 vs H1 f1 ok1 r1 q => ?_
    split at q
    · cases r1 with
      | cons r1 r =>
        cases r with
        | cons r2 r =>
          cases r
          exact ⟨_, _, rfl, q _ H1 f1 ok1 (((re.fr f1).set r1).set r2)⟩
    · exact q.elim
def cPar3 (i j l : Nat) (ta : CA) : CS := fun D ws S => ta ws S fun us S1 => match us with | [u, v, w] => D.nx (((ws.set i (some u)).set j (some v)).set l (some w)) S1 | _ => False
theorem ss_par3 (i j l : Nat) {x y z : Str} {a b c : Expr} {ta : CA} {px py pz pt : Pos} {kt k2 pt2} (hc : X.calm = true) (hN : X.N.Nodup) (ha : SA X [a, b, c] ta) (hi : X.N[i]? = some x := by rfl) (hj : X.N[j]? = some y := by rfl) (hl : X.N[l]? = some z := by rfl)
    (hij : i ≠ j := by decide) (hil : i ≠ l := by decide) (hjl : j ≠ l := by decide)
    (hx : X.env.scope.names.lookup x = some .local := by rfl) (hy : X.env.scope.names.lookup y = some .local := by rfl) (hz : X.env.scope.names.lookup z = some .local := by rfl)
    (hw : swappedStores [.Tuple [.Name x px, .Name y py, .Name z pz] kt pt] (.Tuple [a, b, c] k2 pt2) X.env = pure (some [x, y, z]) := by rfl)
    (hs : swapsWithSole [.Tuple [.Name x px, .Name y py, .Name z pz] kt pt] (.Tuple [a, b, c] k2 pt2) pos.line X.env = pure false := by rfl) : SS X (.Assign [.Tuple [.Name x px, .Name y py, .Name z pz] kt pt] (.Tuple [a, b, c] k2 pt2) pos) (cPar3 i j l ta) := by
  refine ⟨fun D D' ws S l h => ha.mono _ _ _ _ (fun us S1 q => ?_) h, (ps_par3 hc hN hi hj hl hij hil hjl hx hy hz ha.ok hw hs).imp fun D σ H h => ?_⟩
  · split at q
    · exact l.nx _ _ q
    · exact q
  · obtain ⟨Z, S, ws, ok, re, h⟩ := h
    refine liftA_of ha.mono ok re h fun us S1 vs H1 f1 ok1 r1 q => ?_
    split at q
    · cases r1 with
      | cons r1 r =>
        cases r with
        | cons r2 r =>
          cases r with
          | cons r3 r =>
            cases r
            exact ⟨_, _, _, rfl, q _ H1 f1 ok1 ((((re.fr f1).set r1).set r2).set r3)⟩
    · exact q.elim
def cNeg : C1 := fun a S Q => match a with | .int i => Q (.int (-i)) S | _ => False
theorem u_neg : S1 X (unaryOp .USub) cNeg := ⟨fun a S Q Q' f h => by
    unfold cNeg at h ⊢
    split at h
    · exact f _ _ h
    · exact h, fun pins s σ H x u Q I rx q => by
    obtain ⟨Z, S, a, ok, ra, q⟩ := q
    unfold cNeg at q
    split at q
    · rename_i i
      cases ra
      exact un_neg pins s σ H _ u Q I rx ⟨i, rfl, q _ H (Fr.refl S H) ok (.int _)⟩
    · exact q.elim⟩
end

/-- what is known of a def of the text -/
structure FnF (K : Fg) (mg : Str → Option Value) (x : Str) (st : Stmt) (f : Addr) (fd : FuncData) (ps : List Str) : Prop where
  F : Fun K x x st f fd
  b : Binds K fd ps []
  m : mg x = some (.ref f)
  k : PySem.W.keepIn K (.ref f) = true

/-! ### loops -/
/-- a comprehension by an invariant over the items done -/
theorem lcL_inv {G : Sto → Prop} {g : CG} {tt : CT} {te : CE} {ws : CL.Env} {Q : List Cv → Sto → Prop} (P : List Cv → List Cv → Sto → Prop) (hG : ∀ xs acc S, P xs acc S → G S) (hQ : ∀ acc S, P [] acc S → Q acc S)
    (hs : ∀ x r acc S, P (x :: r) acc S → g x ws S fun ws2 S2 => tt ws2 S2 fun b S3 => if b = true then te ws2 S3 fun y S4 => acc.length < sizeLine ∧ P r (acc ++ [y]) S4 else P r acc S3)
    (mg : MonG g) (mt : MonT tt) (me : MonE te) : ∀ xs acc S, P xs acc S → lcL G g tt te ws Q xs acc S
  | [], acc, S, h => ⟨hG _ _ _ h, hQ _ _ h⟩
  | x :: r, acc, S, h => ⟨hG _ _ _ h, mg _ _ _ _ _ (fun ws2 S2 q => mt _ _ _ _ (fun b S3 q3 => by
      cases b with
      | true => exact me _ _ _ _ (fun y S4 q4 => ⟨q4.1, lcL_inv P hG hQ hs mg mt me r _ _ q4.2⟩) q3
      | false => exact lcL_inv P hG hQ hs mg mt me r _ _ q3) q) (hs _ _ _ _ h)⟩
/-- a for by an invariant over the items left -/
theorem forL_inv {G : Sto → Prop} {g : CG} {tb : CS} {D : CEnds} (P : List Cv → CL.Env → Sto → Prop) (hG : ∀ xs ws S, P xs ws S → G S) (hQ : ∀ ws S, P [] ws S → D.nx ws S)
    (hs : ∀ x r ws S, P (x :: r) ws S → g x ws S fun ws1 S1 => tb { D with nx := fun ws2 S2 => P r ws2 S2, ct := fun ws2 S2 => P r ws2 S2, bk := D.nx } ws1 S1)
    (mg : MonG g) (mb : MonS tb) : ∀ xs ws S, P xs ws S → forL G g tb D xs ws S
  | [], ws, S, h => ⟨hG _ _ _ h, hQ _ _ h⟩
  | x :: r, ws, S, h => ⟨hG _ _ _ h, mg _ _ _ _ _ (fun ws1 S1 q => mb { D with nx := fun ws2 S2 => P r ws2 S2, ct := fun ws2 S2 => P r ws2 S2, bk := D.nx } _ _ _ ⟨fun ws2 S2 q2 => forL_inv P hG hQ hs mg mb r ws2 S2 q2, fun _ _ z => z, fun _ _ z => z, fun ws2 S2 q2 => forL_inv P hG hQ hs mg mb r ws2 S2 q2⟩ q) (hs _ _ _ _ h)⟩
end CL

set_option Elab.async false
set_option linter.all false
set_option maxRecDepth 100000
set_option maxHeartbeats 1000000
/-! CL10: short names of readings; a plain law; what simp unfolds -/
namespace CL
open PySem PySem.Spec PyProof.Rows L2
abbrev cLt : C2 := cI2 (fun _ _ => True) fun i j => .bl (decide (i < j))
abbrev cLe : C2 := cI2 (fun _ _ => True) fun i j => .bl (decide (i ≤ j))
abbrev cGt : C2 := cI2 (fun _ _ => True) fun i j => .bl (decide (j < i))
abbrev cGe : C2 := cI2 (fun _ _ => True) fun i j => .bl (decide (j ≤ i))
abbrev cSub : C2 := cI2 (fun _ _ => True) fun i j => .int (i - j)
abbrev cMul : C2 := cI2 CMulW fun i j => .int (i * j)
abbrev cFd : C2 := cI2 CDivW fun i j => .int (i / j)
abbrev cMod : C2 := cI2 (fun _ j => 0 < j) fun i j => .int (i % j)
abbrev cPow : C2 := cI2 CPw fun i j => .int (i ^ j.toNat)
abbrev cShl : C2 := cI2 CPow fun i j => .int (i * 2 ^ j.toNat)
abbrev cBand : C2 := cI2 (fun _ _ => True) fun i j => .int (Builtin.bitAnd i j)
abbrev cBor : C2 := cI2 (fun _ _ => True) fun i j => .int (Builtin.bitOr i j)
abbrev cIadd : C2 := cI2 (fun _ _ => True) fun i j => .int (i + j)
abbrev cIsub : C2 := cI2 (fun _ _ => True) fun i j => .int (i - j)
abbrev cIs : C2 := cIsN fun b => b
abbrev cIsNot : C2 := cIsN fun b => !b
/-- the plain law of a def: from what it promises, its reading -/
structure PL (N ps : List Str) (sp : CSp) (t : CS) : Prop where
  mono : MonSp sp
  len : ∀ us S Q E, sp us S Q E → us.length = ps.length
  go : ∀ us S Q E, sp us S Q E → t (bodyEnds S Q) (cstart N us) S
abbrev spNo : CSp := fun _ _ _ _ => False
theorem fn_no {P : Program} {w : World} {K : Fg} {mg : Str → Option Value} {base : Heap} {k : Nat} {f : Addr} {fd : FuncData} {ps : List Str} : FnG P w K mg base L2.CX0 k f fd ps spNo :=
  ⟨fun _ _ _ _ _ _ _ _ h => h, fun _ _ _ _ h => h.elim, fun _ _ _ _ _ _ _ _ _ _ _ _ _ h => by
    obtain ⟨_, _, _, _, _, h⟩ := h
    exact h.elim⟩
end CL

set_option Elab.async false
set_option linter.all false
set_option maxRecDepth 100000
set_option maxHeartbeats 1000000
/-! CL11: promises by relations; the pot -/
namespace CL
open PySem PySem.Spec PyProof.Rows L2
/-- a promise: from what is given, what is answered -/
def mkSp (rel : List Cv → Sto → (Cv → Sto → Prop) → Prop) : CSp := fun us S Q _ => ∃ R, rel us S R ∧ ∀ w S', R w S' → Q w S'
theorem mkSp_mono {rel} : MonSp (mkSp rel) := fun us S Q Q' E E' f g ⟨R, h, q⟩ => ⟨R, h, fun w S' r => f _ _ (q _ _ r)⟩
theorem PL.mk' {N ps : List Str} {rel} {t : CS} (len : ∀ us S R, rel us S R → us.length = ps.length) (go : ∀ us S R Q, rel us S R → (∀ w S', R w S' → Q w S') → t (bodyEnds S Q) (cstart N us) S) : PL N ps (mkSp rel) t :=
  ⟨mkSp_mono, fun us S Q E ⟨R, h, _⟩ => len us S R h, fun us S Q E ⟨R, h, q⟩ => go us S R Q h q⟩
/-- elsewhere nothing changed -/
def Off (S S' : Sto) (p : Addr) : Prop := ∀ a, a ≠ p → S' a = S a
theorem Off.refl (S : Sto) (p : Addr) : Off S S p := fun _ _ => rfl
theorem Off.trans {S S1 S2 : Sto} {p : Addr} (a : Off S S1 p) (b : Off S1 S2 p) : Off S S2 p := fun x h => (b x h).trans (a x h)
theorem Off.set {S : Sto} {p : Addr} {o : Ob} : Off S (S.set p o) p := fun a h => Sto.set_ne h
/-- the pot: what is left of the number, the seed, the count -/
def Pot (S : Sto) (p : Addr) (b : Int) : Prop := ∃ o s n : Int, S p = some (.lst [.int o, .int s, .int n]) ∧ 0 ≤ o ∧ o < 10 ^ 300 ∧ 0 ≤ s ∧ s < 2 ^ 61 ∧ 0 ≤ n ∧ n ≤ b
theorem Pot.mono {S : Sto} {p : Addr} {b c : Int} (h : Pot S p b) (l : b ≤ c) : Pot S p c := by
  obtain ⟨o, s, n, e, h1, h2, h3, h4, h5, h6⟩ := h
  exact ⟨o, s, n, e, h1, h2, h3, h4, h5, by omega⟩
theorem Pot.off {S S' : Sto} {p : Addr} {b : Int} (h : Pot S p b) (e' : S' p = S p) : Pot S' p b := by
  obtain ⟨o, s, n, e, r⟩ := h
  exact ⟨o, s, n, e'.trans e, r⟩
abbrev bMax : Int := 1000000000
def spTake : CSp := mkSp fun us S R => ∃ p u b, us = [.ref p, .int u] ∧ Pot S p b ∧ b < bMax ∧ 0 < u ∧ u < 2 ^ 63 ∧ R = fun w S' => ∃ r : Int, w = .int r ∧ 0 ≤ r ∧ r < u ∧ Off S S' p ∧ Pot S' p (b + 1)
def spPot : CSp := mkSp fun us S R => ∃ (ns : List Int) (k : Int), us = [.scr (ns.map Cv.int), .int k] ∧ 0 ≤ k ∧ k < 1000000 ∧ R = fun w S' => ∃ p, w = .ref p ∧ S p = none ∧ Off S S' p ∧ Pot S' p 0
def spOf : CSp := mkSp fun us S R => ∃ p w xs b, us = [.ref p, w] ∧ w ≠ .ref p ∧ deref w S = some (.lst xs) ∧ xs ≠ [] ∧ xs.length < 1000000 ∧ Pot S p b ∧ b < bMax ∧ R = fun w S' => w ∈ xs ∧ Off S S' p ∧ Pot S' p (b + 1)
/-- bits -/
theorem mulW_of {i j : Int} (a b : Nat) (ha : i.natAbs < 2 ^ a) (hb : j.natAbs < 2 ^ b) (h0 : 0 < a := by decide) (h1 : 0 < b := by decide) (h : a + b ≤ 1000000 := by decide) : CMulW i j := wide_mul ha hb h0 h1 h
end CL

set_option Elab.async false
set_option linter.all false
set_option maxRecDepth 100000
set_option maxHeartbeats 1000000
/-! CL12: steps of a clean reading, backwards -/
namespace CL
open PySem PySem.Spec PyProof.Rows L2
section
variable {D : CEnds} {ws : CL.Env} {S : Sto} {t u : CS} {te ta tb tc : CE} {ua : CA} {g : CG} {gs : CGs} {c c' : CT} {i j k : Int} {n : Nat} {w : Cv} {us xs ys : List Cv} {r r' : C2} {rc : CC} {p : Addr} {x y : Str}
theorem x_seq (h : t { D with nx := u D } ws S) : cSeq t u D ws S := h
theorem x_next (h : D.nx ws S) : cNext D ws S := h
theorem x_asg (h : te ws S fun w S1 => g w ws S1 D.nx) : cAsg te g D ws S := h
theorem x_name {Q} (h : Q (ws.set n (some w)) S) : cgName n w ws S Q := h
theorem x_gtup {Q} (hn : us.length = n) (h : gs us ws S Q) : cgTup n gs (.tup us) ws S Q := ⟨hn, h⟩
theorem x_gcons {Q} {us} (h : g w ws S fun ws1 S1 => gs us ws1 S1 Q) : cgCons g gs (w :: us) ws S Q := h
theorem x_gnil {Q} (h : Q ws S) : cgNil [] ws S Q := ⟨rfl, h⟩
theorem x_ret (h : te ws S D.rt) : cRet te D ws S := h
theorem x_retN (h : D.rt .non S) : cRetN D ws S := h
theorem x_drop (h : te ws S fun _ S1 => D.nx ws S1) : cDrop te D ws S := h
theorem x_break (h : D.bk ws S) : cBreak D ws S := h
theorem x_cont (h : D.ct ws S) : cCont D ws S := h
theorem x_if (h : c ws S fun b S1 => cond b (t D ws S1) (u D ws S1)) : cIfS c t u D ws S := c_if h where
  c_if (h : c ws S fun b S1 => cond b (t D ws S1) (u D ws S1)) : cIfS c t u D ws S := by
    have e : (fun (b : Bool) S1 => cond b (t D ws S1) (u D ws S1)) = fun b S1 => if b = true then t D ws S1 else u D ws S1 := by
      funext b S1; cases b <;> simp
    rw [e] at h; exact h
theorem x_ifE {Q} (h : c ws S fun b S1 => cond b (ta ws S1 Q) (tb ws S1 Q)) : cIf c ta tb ws S Q := by
  have e : (fun (b : Bool) S1 => cond b (ta ws S1 Q) (tb ws S1 Q)) = fun b S1 => if b = true then ta ws S1 Q else tb ws S1 Q := by
    funext b S1; cases b <;> simp
  rw [e] at h; exact h
theorem x_cT {A B : Prop} (h : A) : cond true A B := h
theorem x_cF {A B : Prop} (h : B) : cond false A B := h
theorem x_cD {A B a : Prop} [Decidable a] (h : a → A) (h' : ¬ a → B) : cond (decide a) A B := by
  by_cases z : a
  · rw [decide_eq_true z]; exact h z
  · rw [decide_eq_false z]; exact h' z
theorem x_cN {A B : Prop} {b : Bool} (h : cond b B A) : cond (!b) A B := by cases b <;> exact h
theorem x_cb {A B : Prop} {b : Bool} (h : b = true → A) (h' : b = false → B) : cond b A B := by cases b; exact h' rfl; exact h rfl
/-- what is done with a bool -/
def kB (Q : Bool → Sto → Prop) : Cv → Sto → Prop := fun w S' => match w with | .bl b => Q b S' | _ => False
theorem x_cB {Q} (h : te ws S (kB Q)) : cB te ws S Q := h
theorem x_kB {Q : Bool → Sto → Prop} {b : Bool} (h : Q b S) : kB Q (.bl b) S := h
theorem x_and {Q} (h : c ws S fun b S1 => cond b (c' ws S1 Q) (Q false S1)) : cAnd c c' ws S Q := by
  have e : (fun (b : Bool) S1 => cond b (c' ws S1 Q) (Q false S1)) = fun b S1 => if b = true then c' ws S1 Q else Q false S1 := by
    funext b S1; cases b <;> simp
  rw [e] at h; exact h
theorem x_or {Q} (h : c ws S fun b S1 => cond b (Q true S1) (c' ws S1 Q)) : cOr c c' ws S Q := by
  have e : (fun (b : Bool) S1 => cond b (Q true S1) (c' ws S1 Q)) = fun b S1 => if b = true then Q true S1 else c' ws S1 Q := by
    funext b S1; cases b <;> simp
  rw [e] at h; exact h
theorem x_not {Q} (h : c ws S fun b S1 => Q (!b) S1) : cNot c ws S Q := h
def kAnd (f t : Prop) : Bool → Prop := fun b => cond b t f
theorem x_andV {Q} (h : te ws S (kB fun b S1 => cond b (ta ws S1 Q) (Q (.bl false) S1))) : cAndV te ta ws S Q := by
  have e : (kB fun b S1 => cond b (ta ws S1 Q) (Q (.bl false) S1)) = fun w S1 => match w with | .bl true => ta ws S1 Q | .bl false => Q (.bl false) S1 | _ => False := by
    funext w S1; unfold kB; cases w with
    | bl b => cases b <;> rfl
    | _ => rfl
  rw [e] at h; exact h
theorem x_orV {Q} (h : te ws S (kB fun b S1 => cond b (Q (.bl true) S1) (ta ws S1 Q))) : cOrV te ta ws S Q := by
  have e : (kB fun b S1 => cond b (Q (.bl true) S1) (ta ws S1 Q)) = fun w S1 => match w with | .bl false => ta ws S1 Q | .bl true => Q (.bl true) S1 | _ => False := by
    funext w S1; unfold kB; cases w with
    | bl b => cases b <;> rfl
    | _ => rfl
  rw [e] at h; exact h
theorem x_chain {Q} (h : ta ws S fun x S1 => tb ws S1 fun y S2 => r x y S2 (kB fun b S3 => cond b (tc ws S3 fun u S4 => r' y u S4 Q) (Q (.bl false) S3))) : cChain r r' ta tb tc ws S Q := by
  have e : ∀ y : Cv, (kB fun b S3 => cond b (tc ws S3 fun u S4 => r' y u S4 Q) (Q (.bl false) S3)) = fun z S3 => match z with | .bl true => tc ws S3 fun u S4 => r' y u S4 Q | .bl false => Q (.bl false) S3 | _ => False := by
    intro y; funext w S1; unfold kB; cases w with
    | bl b => cases b <;> rfl
    | _ => rfl
  simp only [e] at h; exact h
theorem x_var {Q} (e : ws[n]? = some (some w)) (h : Q w S) : cVar n ws S Q := by
  unfold cVar; rw [e]; exact h
theorem x_c {Q} (h : Q w S) : cC w ws S Q := h
theorem x_op {Q} (h : ta ws S fun a S1 => tb ws S1 fun b S2 => r a b S2 Q) : cOp r ta tb ws S Q := h
theorem x_un {Q} {r : C1} (h : ta ws S fun a S1 => r a S1 Q) : cUn r ta ws S Q := h
theorem x_neg {Q : Cv → Sto → Prop} (h : Q (.int (-i)) S) : cNeg (.int i) S Q := h
theorem x_i2 {Q} {C : Int → Int → Prop} {f : Int → Int → Cv} (hc : C i j) (h : Q (f i j) S) : cI2 C f (.int i) (.int j) S Q := ⟨hc, h⟩
theorem x_addI {Q : Cv → Sto → Prop} (h : Q (.int (i + j)) S) : cAdd (.int i) (.int j) S Q := h
theorem x_addL {Q : Cv → Sto → Prop} (hl : xs.length + ys.length ≤ sizeLine) (h : Q (.lst (xs ++ ys)) S) : cAdd (.lst xs) (.lst ys) S Q := ⟨hl, h⟩
theorem x_addT {Q : Cv → Sto → Prop} (hl : xs.length + ys.length ≤ sizeLine) (h : Q (.tup (xs ++ ys)) S) : cAdd (.tup xs) (.tup ys) S Q := ⟨hl, h⟩
theorem x_eqS {Q : Cv → Sto → Prop} {f : Bool → Bool} (h : Q (.bl (f (decide (x = y)))) S) : cEqB f (.str x) (.str y) S Q := h
theorem x_eqI {Q : Cv → Sto → Prop} {f : Bool → Bool} (h : Q (.bl (f (decide (i = j)))) S) : cEqB f (.int i) (.int j) S Q := h
theorem x_ixL {Q : Cv → Sto → Prop} (e : atI xs i = some w) (h : Q w S) : cIx (.lst xs) (.int i) S Q := by
  show match atI xs i with | some w => Q w S | none => False
  rw [e]; exact h
theorem x_ixT {Q : Cv → Sto → Prop} (e : atI xs i = some w) (h : Q w S) : cIx (.tup xs) (.int i) S Q := by
  show match atI xs i with | some w => Q w S | none => False
  rw [e]; exact h
theorem x_ixS {Q : Cv → Sto → Prop} (e : atI xs i = some w) (h : Q w S) : cIx (.scr xs) (.int i) S Q := by
  show match atI xs i with | some w => Q w S | none => False
  rw [e]; exact h
theorem x_ixR {Q : Cv → Sto → Prop} (es : S p = some (.lst xs)) (e : atI xs i = some w) (h : Q w S) : cIx (.ref p) (.int i) S Q := by
  have d : deref (.ref p) S = some (.lst xs) := by simp [deref, es]
  show match deref (.ref p) S with | some a => (match seqOf a with | some xs => (match atI xs i with | some w => Q w S | none => False) | none => False) | none => False
  rw [d]
  show match atI xs i with | some w => Q w S | none => False
  rw [e]; exact h
theorem x_ixD {Q : Cv → Sto → Prop} {a : Cv} (ea : ∀ z, a ≠ .str z) (es : deref a S = some (.lst xs)) (e : atI xs i = some w) (h : Q w S) : cIx a (.int i) S Q := by
  unfold cIx
  cases a with
  | str z => exact absurd rfl (ea z)
  | _ =>
    simp only [es]
    show match atI xs i with | some w => Q w S | none => False
    rw [e]; exact h
theorem x_setL {ti : CE} (h : te ws S fun w S1 => ta ws S1 fun o S2 => ti ws S2 fun i S3 => match o, i with
  | .ref p, .int k => ownL S3 p fun xs => match ixN xs.length k with | some j => D.nx ws (S3.set p (.lst (xs.set j w))) | none => False
  | _, _ => False) : cSetL ta ti te D ws S := h
def kSet (D : CEnds) (ws : CL.Env) (w : Cv) : Cv → Cv → Sto → Prop := fun o i S3 => match o, i with
  | .ref p, .int k => ownL S3 p fun xs => match ixN xs.length k with | some j => D.nx ws (S3.set p (.lst (xs.set j w))) | none => False
  | _, _ => False
theorem x_setK {ti : CE} (h : te ws S fun w S1 => ta ws S1 fun o S2 => ti ws S2 fun i S3 => kSet D ws w o i S3) : cSetL ta ti te D ws S := h
theorem x_kSet (es : S p = some (.lst xs)) (e : ixN xs.length k = some n) (h : D.nx ws (S.set p (.lst (xs.set n w)))) : kSet D ws w (.ref p) (.int k) S := by
  refine ownL_to es ?_
  show match ixN xs.length k with | some j => D.nx ws (S.set p (.lst (xs.set j w))) | none => False
  rw [e]; exact h
theorem x_aug {D : CEnds} {m : Nat} (e : ws[m]? = some (some w)) (h : te ws S fun y S1 => r w y S1 fun z S2 => D.nx (ws.set m (some z)) S2) : cAug m te r D ws S := by
  unfold cAug; rw [e]; exact h
theorem x_cnil {Q : List Cv → Sto → Prop} (h : Q [] S) : cNil ws S Q := h
theorem x_ccons {Q : List Cv → Sto → Prop} (h : te ws S fun w S1 => ua ws S1 fun r S2 => Q (w :: r) S2) : cCons te ua ws S Q := h
def kTup (Q : Cv → Sto → Prop) : List Cv → Sto → Prop := fun r S1 => r.length ≤ sizeLine ∧ Q (.tup r) S1
def kLst (Q : Cv → Sto → Prop) : List Cv → Sto → Prop := fun r S1 => r.length ≤ sizeLine ∧ Q (.lst r) S1
def kLstO (Q : Cv → Sto → Prop) : List Cv → Sto → Prop := fun r S1 => r.length ≤ sizeLine ∧ ∀ p, S1 p = none → Q (.ref p) (S1.set p (.lst r))
theorem x_tup {Q} (h : ua ws S (kTup Q)) : cTup ua ws S Q := h
theorem x_lst {Q} (h : ua ws S (kLst Q)) : cLst ua ws S Q := h
theorem x_lstO {Q} (h : ua ws S (kLstO Q)) : cLstO ua ws S Q := h
theorem x_kTup {Q : Cv → Sto → Prop} (hl : us.length ≤ sizeLine) (h : Q (.tup us) S) : kTup Q us S := ⟨hl, h⟩
theorem x_kLst {Q : Cv → Sto → Prop} (hl : us.length ≤ sizeLine) (h : Q (.lst us) S) : kLst Q us S := ⟨hl, h⟩
theorem x_kLstO {Q : Cv → Sto → Prop} (hl : us.length ≤ sizeLine) (h : ∀ p, S p = none → Q (.ref p) (S.set p (.lst us))) : kLstO Q us S := ⟨hl, h⟩
theorem x_cb2 {Q} (h : ua ws S fun us S1 => rc us S1 Q) : cCB rc ua ws S Q := h
theorem x_call {Q} {sp : CSp} {E} (h : ua ws S fun us S1 => sp us S1 Q E) : cCall sp E ua ws S Q := h
theorem x_ckw {Q} {rk : CCK} {ub : CA} (h : ua ws S fun us S1 => ub ws S1 fun zs S2 => rk us zs S2 Q) : cCKw rk ua ub ws S Q := h
theorem x_bm {Q} {T : String} {rm : CM} (h : te ws S fun o S1 => tyC T o S1 ∧ ua ws S1 fun us S2 => rm o us S2 Q) : cBM T rm te ua ws S Q := h
theorem x_lenL {Q : Cv → Sto → Prop} (h : Q (.int xs.length) S) : cLen [.lst xs] S Q := h
theorem x_lenT {Q : Cv → Sto → Prop} (h : Q (.int xs.length) S) : cLen [.tup xs] S Q := h
theorem x_lenS {Q : Cv → Sto → Prop} (h : Q (.int xs.length) S) : cLen [.scr xs] S Q := h
theorem x_lenD {Q : Cv → Sto → Prop} (ea : ∀ z, w ≠ .str z) (es : deref w S = some (.lst xs)) (h : Q (.int xs.length) S) : cLen [w] S Q := by
  unfold cLen
  cases w with
  | str z => exact absurd rfl (ea z)
  | _ => simp only [es]; exact h
theorem x_abs {Q : Cv → Sto → Prop} (h : Q (.int i.natAbs) S) : cAbs [.int i] S Q := h
theorem x_intI {Q : Cv → Sto → Prop} (h : Q (.int i) S) : cInt [.int i] S Q := h
theorem x_intB {Q : Cv → Sto → Prop} {b : Bool} (h : Q (.int (if b = true then 1 else 0)) S) : cInt [.bl b] S Q := h
theorem x_max2 {Q : Cv → Sto → Prop} (h : Q (.int (max i j)) S) : cMax [.int i, .int j] S Q := h
theorem x_min2 {Q : Cv → Sto → Prop} (h : Q (.int (min i j)) S) : cMin [.int i, .int j] S Q := h
theorem x_tupleL {Q : Cv → Sto → Prop} (h : Q (.tup xs) S) : cTupleOf [.lst xs] S Q := h
theorem x_tupleT {Q : Cv → Sto → Prop} (h : Q (.tup xs) S) : cTupleOf [.tup xs] S Q := h
theorem x_par {ta : CA} {m : Nat} (h : ta ws S fun us S1 => match us with | [u, v] => D.nx ((ws.set n (some u)).set m (some v)) S1 | _ => False) : cPar n m ta D ws S := h
theorem x_take {Q : Cv → Sto → Prop} {E : Ex → Sto → Prop} {b v : Int} (hp : Pot S p b) (hb : b < bMax) (h0 : 0 < v) (h1 : v < 2 ^ 63) (h : ∀ (r : Int) (S' : Sto), 0 ≤ r → r < v → Off S S' p → Pot S' p (b + 1) → Q (.int r) S') : spTake [.ref p, .int v] S Q E :=
  ⟨_, ⟨p, v, b, rfl, hp, hb, h0, h1, rfl⟩, fun w S' ⟨r, e, r0, r1, o, q⟩ => by rw [e]; exact h r S' r0 r1 o q⟩
theorem x_of {Q : Cv → Sto → Prop} {E : Ex → Sto → Prop} {b : Int} (hp : Pot S p b) (hb : b < bMax) (hw : w ≠ .ref p) (hd : deref w S = some (.lst xs)) (hx : xs ≠ []) (hl : xs.length < 1000000) (h : ∀ (v : Cv) (S' : Sto), v ∈ xs → Off S S' p → Pot S' p (b + 1) → Q v S') : spOf [.ref p, w] S Q E :=
  ⟨_, ⟨p, w, xs, b, rfl, hw, hd, hx, hl, hp, hb, rfl⟩, fun v S' ⟨m, o, q⟩ => h v S' m o q⟩
theorem x_ofL {Q : Cv → Sto → Prop} {E : Ex → Sto → Prop} {b : Int} (hp : Pot S p b) (hb : b < bMax) (hx : xs ≠ []) (hl : xs.length < 1000000) (h : ∀ (v : Cv) (S' : Sto), v ∈ xs → Off S S' p → Pot S' p (b + 1) → Q v S') : spOf [.ref p, .lst xs] S Q E :=
  x_of hp hb (by intro z; cases z) rfl hx hl h
end
theorem log2W {i : Int} {a : Nat} (ha : i.natAbs < 2 ^ a) (h0 : 0 < a) : i.natAbs.log2 < a := PySem.Flt.log2_lt_of h0 ha
theorem cpw_of {i : Int} (m : Nat) {j : Int} (ha : i.natAbs < 2 ^ m) (h0 : 0 < m := by decide) (hj : 0 ≤ j := by decide) (h : (m : Int) * j ≤ 2 ^ 27 := by decide) : CPw i j := by
  refine ⟨hj, Int.le_trans (Int.mul_le_mul_of_nonneg_right ?_ hj) h⟩
  have b : Builtin.Int.intBits i ≤ i.natAbs.log2 + 1 := by
    unfold Builtin.Int.intBits
    split <;> omega
  have := log2W ha h0
  omega
end CL
namespace CL
open PySem PySem.Spec PyProof.Rows L2
/-- bounds by powers of two -/
def NB (i : Int) (a : Nat) : Prop := i.natAbs < 2 ^ a
theorem NB.v {i : Int} (h : -(2 ^ 64) < i ∧ i < 2 ^ 64) : NB i 64 := by unfold NB; omega
theorem pow_le2 {a b : Nat} (h : a ≤ b) : 2 ^ a ≤ 2 ^ b := Nat.pow_le_pow_right (by decide) h
theorem NB.mono {i : Int} {a b : Nat} (h : NB i a) (l : a ≤ b) : NB i b := Nat.lt_of_lt_of_le h (pow_le2 l)
theorem NB.add {i j : Int} {a b : Nat} (h : NB i a) (g : NB j b) : NB (i + j) (a + b + 1) := by
  have h1 := Nat.lt_of_lt_of_le h (pow_le2 (Nat.le_add_right a b))
  have h2 := Nat.lt_of_lt_of_le g (pow_le2 (Nat.le_add_left b a))
  unfold NB; rw [Nat.pow_succ]; omega
theorem NB.sub {i j : Int} {a b : Nat} (h : NB i a) (g : NB j b) : NB (i - j) (a + b + 1) := by
  have h1 := Nat.lt_of_lt_of_le h (pow_le2 (Nat.le_add_right a b))
  have h2 := Nat.lt_of_lt_of_le g (pow_le2 (Nat.le_add_left b a))
  unfold NB; rw [Nat.pow_succ]; omega
theorem NB.mul {i j : Int} {a b : Nat} (h : NB i a) (g : NB j b) : NB (i * j) (a + b) := wide_lt h g
theorem NB.mod {i j : Int} {b : Nat} (h0 : 0 < j) (g : NB j b) : NB (i % j) b := by
  have h1 := Int.emod_nonneg i (by omega : j ≠ 0)
  have h2 := Int.emod_lt_of_pos i h0
  unfold NB at g ⊢; omega
theorem NB.div {i j : Int} {a : Nat} (h0 : 0 < j) (h : NB i a) : NB (i / j) a := by
  unfold NB at h ⊢
  have : (i / j).natAbs ≤ i.natAbs := by
    exact Int.natAbs_ediv_le_natAbs i j
  omega
theorem NB.abs {i : Int} {a : Nat} (h : NB i a) : NB (i.natAbs : Int) a := by unfold NB at h ⊢; omega
theorem NB.pos {a : Nat} {i : Int} (h : NB i a) (h0 : i ≠ 0) : 0 < a := by
  unfold NB at h
  cases a with
  | zero => simp at h; omega
  | succ a => omega
theorem mulW_nb {i j : Int} {a b : Nat} (h : NB i a) (g : NB j b) (l : a + b ≤ 999990) : CMulW i j :=
  wide_mul (NB.mono h (Nat.le_succ a)) (NB.mono g (Nat.le_succ b)) (Nat.succ_pos _) (Nat.succ_pos _) (by omega)
theorem cpw_nb {i j : Int} {a : Nat} (h : NB i a) (hj : 0 ≤ j) (l : ((a + 1 : Nat) : Int) * j ≤ 2 ^ 27) : CPw i j := cpw_of (a + 1) (NB.mono h (Nat.le_succ a)) (Nat.succ_pos _) hj l
theorem divW_nb {i j : Int} {a : Nat} (h : NB j a) (hj : 0 < j) (l : a ≤ 8990) : CDivW i j := wide_div hj (NB.mono h (Nat.le_succ a)) (Nat.succ_pos _) (by omega)
section
variable {S : Sto} {w : Cv} {xs : List Cv} {i : Int}
theorem atI_mem {α : Type} {xs : List α} {i : Int} (h0 : 0 ≤ i) (h1 : i < xs.length) : ∃ w, w ∈ xs ∧ atI xs i = some w := by
  have hl : i.toNat < xs.length := by omega
  refine ⟨xs[i.toNat], List.getElem_mem hl, ?_⟩
  unfold atI ixN
  rw [if_pos h0, if_pos h1]
  exact List.getElem?_eq_getElem hl
theorem x_ixM {Q : Cv → Sto → Prop} (h0 : 0 ≤ i) (h1 : i < xs.length) (h : ∀ w, w ∈ xs → Q w S) : cIx (.lst xs) (.int i) S Q := by
  obtain ⟨w, m, e⟩ := atI_mem h0 h1
  exact x_ixL e (h w m)
end
section
variable {nx : CL.Env → Sto → Prop} {rt : Cv → Sto → Prop} {bk ct : CL.Env → Sto → Prop} {ws : CL.Env} {S : Sto} {t u : CS}
theorem y_seq (h : t ⟨u ⟨nx, rt, bk, ct⟩, rt, bk, ct⟩ ws S) : cSeq t u ⟨nx, rt, bk, ct⟩ ws S := h
end
theorem PL.mk2 {N ps : List Str} {rel} {t : CS} (len : ∀ us S R, rel us S R → us.length = ps.length)
    (go : ∀ us S R Q, rel us S R → (∀ w S', R w S' → Q w S') → t ⟨fun _ S' => Hand S .non S' Q, fun w S' => Hand S w S' Q, fun _ _ => False, fun _ _ => False⟩ (cstart N us) S) : PL N ps (mkSp rel) t := PL.mk' len go
end CL
namespace CL
open PySem PySem.Spec PyProof.Rows L2
/-- the bounds, from the outside in -/
theorem NB.v1 {i : Int} {n : Nat} (h : -(2 ^ 64) < i ∧ i < 2 ^ 64) (hn : 64 ≤ n := by decide) : NB i n := (NB.v h).mono hn
theorem NB.add1 {i j : Int} {n : Nat} (h : NB i (n / 4)) (g : NB j (n / 4)) (hn : 4 ≤ n := by decide) : NB (i + j) n := (NB.add h g).mono (by omega)
theorem NB.sub1 {i j : Int} {n : Nat} (h : NB i (n / 4)) (g : NB j (n / 4)) (hn : 4 ≤ n := by decide) : NB (i - j) n := (NB.sub h g).mono (by omega)
theorem NB.mul1 {i j : Int} {n : Nat} (h : NB i (n / 2)) (g : NB j (n / 2)) : NB (i * j) n := (NB.mul h g).mono (by omega)
theorem NB.pow {i : Int} {a : Nat} (h : NB i a) (ha : 0 < a) : ∀ n : Nat, NB (i ^ n) (a * n + 1)
  | 0 => by show (i ^ 0).natAbs < 2 ^ (a * 0 + 1); simp
  | n + 1 => by
    have := NB.mul (NB.pow h ha n) h
    rw [← Int.pow_succ] at this
    exact this.mono (by rw [Nat.mul_succ]; omega)
theorem NB.pow1 {i : Int} {n k : Nat} (h : NB i (n / 8)) (hk : k ≤ 7 := by decide) (hn : 8 ≤ n := by decide) : NB (i ^ k) n :=
  (NB.pow h (by omega) k).mono (by
    have := Nat.mul_le_mul_left (n / 8) hk
    omega)
theorem mulW1 {i j : Int} (h : NB i 400000) (g : NB j 400000) : CMulW i j := mulW_nb h g (by decide)
theorem cpw1 {i j : Int} (h : NB i 200000) (hj : 0 ≤ j := by decide) (l : j ≤ 600 := by decide) : CPw i j := cpw_nb h hj (by
  have : ((200000 + 1 : Nat) : Int) * j ≤ ((200000 + 1 : Nat) : Int) * 600 := Int.mul_le_mul_of_nonneg_left l (by decide)
  refine Int.le_trans this (by decide))
theorem divW1 {i j : Int} (h : NB j 8000) (hj : 0 < j) : CDivW i j := divW_nb h hj (by decide)
end CL

set_option Elab.async false
set_option linter.all false
set_option maxRecDepth 100000
set_option maxHeartbeats 1000000
/-! CL13: repr of small values; comprehensions and fors that use the pot -/
namespace CL
open PySem PySem.Spec PyProof.Rows L2
mutual
def smallV : Cv → Bool
  | .non | .bl _ => true
  | .int i => decide (i.natAbs < 10 ^ 20)
  | .str x => PyData.strOk x && x.cps.toList.all fun c => decide (c < 16 ^ 8)
  | .tup xs => smallVs xs
  | .lst xs => smallVs xs
  | _ => false
def smallVs : List Cv → Bool
  | [] => true
  | x :: r => smallV x && smallVs r
end
mutual
def blk : Cv → Nat
  | .str x => x.cps.size
  | .tup xs => blks xs
  | .lst xs => blks xs
  | _ => 0
def blks : List Cv → Nat
  | [] => 0
  | x :: r => blk x + 1 + blks r
end
theorem int_small {i : Int} (h : i.natAbs < 10 ^ 20) : (PyData.shown (.int i)).length ≤ 24 := by
  have e := int_text_length_le10 (k := 20) (by decide) h
  show (Str.ofString (toString i)).length ≤ 24
  rw [PySem.ofString_length]; omega
theorem log_small {i : Int} (h : i.natAbs < 10 ^ 20) : i.natAbs.log2 < 1920 := by
  rcases Nat.eq_zero_or_pos i.natAbs with z | z
  · rw [z]; decide
  · have : i.natAbs.log2 < 67 := (Nat.log2_lt (Nat.ne_of_gt z)).mpr (Nat.lt_of_lt_of_le h (by decide))
    omega
mutual
theorem small_ok : ∀ w : Cv, smallV w = true → isD w = true ∧ showsOk w = true ∧ (py w).leavesShort 24 = true ∧ (py w).bulk = blk w
  | .non, _ => ⟨rfl, rfl, rfl, rfl⟩
  | .bl b, _ => ⟨rfl, rfl, rfl, rfl⟩
  | .int i, h => by
    have h' : i.natAbs < 10 ^ 20 := by simpa [smallV] using h
    exact ⟨rfl, by show decide _ = true; exact decide_eq_true (log_small h'), by show decide _ = true; exact decide_eq_true (int_small h'), rfl⟩
  | .str x, h => by
    have h' : PyData.strOk x = true ∧ (x.cps.toList.all fun c => decide (c < 16 ^ 8)) = true := by simpa only [smallV, Bool.and_eq_true] using h
    exact ⟨h'.1, rfl, h'.2, rfl⟩
  | .tup xs, h => by
    obtain ⟨a, b, c, d⟩ := smalls_ok xs (by simpa only [smallV] using h)
    exact ⟨by simpa only [isD] using a, by simpa only [showsOk] using b, by simpa only [py, PyData.leavesShort] using c, by simpa only [py, PyData.bulk, blk] using d⟩
  | .lst xs, h => by
    obtain ⟨a, b, c, d⟩ := smalls_ok xs (by simpa only [smallV] using h)
    exact ⟨by simpa only [isD] using a, by simpa only [showsOk] using b, by simpa only [py, PyData.leavesShort] using c, by simpa only [py, PyData.bulk, blk] using d⟩
  | .dK _, h => by simp [smallV] at h
  | .dT _, h => by simp [smallV] at h
  | .ref _, h => by simp [smallV] at h
  | .opq _, h => by simp [smallV] at h
  | .scr _, h => by simp [smallV] at h
  | .tupF _, h => by simp [smallV] at h
theorem smalls_ok : ∀ xs : List Cv, smallVs xs = true → isDs xs = true ∧ showsOks xs = true ∧ PyData.leavesShortAll 24 (pys xs) = true ∧ PyData.bulkAll (pys xs) = blks xs
  | [], _ => ⟨rfl, rfl, rfl, rfl⟩
  | x :: r, h => by
    have h' : smallV x = true ∧ smallVs r = true := by simpa only [smallVs, Bool.and_eq_true] using h
    obtain ⟨a, b, c, d⟩ := small_ok x h'.1
    obtain ⟨a2, b2, c2, d2⟩ := smalls_ok r h'.2
    exact ⟨by simp only [isDs, a, a2]; rfl, by simp only [showsOks, b, b2]; rfl, by simp only [pys, PyData.leavesShortAll, c, c2]; rfl, by simp only [pys, PyData.bulkAll, blks, d, d2]⟩
end
theorem okR_small {w : Cv} (h : smallV w = true) (hd : dep w ≤ 64) (hb : blk w ≤ 500000) : okR w := by
  obtain ⟨a, b, c, d⟩ := small_ok w h
  refine ⟨by unfold okD; rw [a, decide_eq_true hd]; rfl, b, ?_⟩
  have := PyData.shown_le_bulk 24 (by decide) (py w) c
  have e : sizeLine = 16777216 := by decide
  unfold rp
  omega
/-- small values are data that == takes -/
theorem okD_small {w : Cv} (h : smallV w = true) (hd : dep w ≤ 64) : okD w = true := by
  obtain ⟨a, _, _, _⟩ := small_ok w h
  unfold okD; rw [a, decide_eq_true hd]; rfl
theorem x_repr {S : Sto} {w : Cv} {Q : Cv → Sto → Prop} (hr : ∀ a, w ≠ .ref a) (ok : okR w) (h : Q (.str (rp w)) S) : cRepr [w] S Q := by
  have e : deref w S = some w := by
    cases w with
    | ref a => exact absurd rfl (hr a)
    | _ => rfl
  show match deref w S with | some w => okR w ∧ Q (.str (rp w)) S | none => False
  rw [e]
  exact ⟨ok, h⟩

theorem cYes_mono : MonT cYes := fun _ _ _ _ f h => f _ _ h
/-! the pot in comprehensions -/
section
variable {G : Sto → Prop} {g : CG} {te : CE} {ws : CL.Env} {Q : List Cv → Sto → Prop} {p : Addr} {S0 : Sto}
theorem lc_pot {xs : List Cv} (good : Cv → Prop) (C b0 : Int) (L : Nat) (hC : 0 ≤ C) (mg : MonG g) (me : MonE te) (hl : xs.length ≤ L) (hL : L ≤ 10000) (hG : ∀ S, Off S0 S p → G S)
    (hs : ∀ x S b, x ∈ xs → b0 ≤ b → b + C ≤ b0 + C * L → Off S0 S p → Pot S p b → g x ws S fun ws2 S2 => te ws2 S2 fun y S4 => good y ∧ Off S0 S4 p ∧ Pot S4 p (b + C))
    (hp : Pot S0 p b0) (hq : ∀ ys S', ys.length = xs.length → (∀ y ∈ ys, good y) → Off S0 S' p → Pot S' p (b0 + C * L) → Q ys S') : lcL G g cYes te ws Q xs [] S0 := by
  refine lcL_inv (fun r acc S => (∀ x ∈ r, x ∈ xs) ∧ acc.length + r.length = xs.length ∧ (∀ y ∈ acc, good y) ∧ Off S0 S p ∧ Pot S p (b0 + C * acc.length)) (fun r acc S h => hG S h.2.2.2.1) (fun acc S ⟨_, h2, h3, h4, h5⟩ => ?_) (fun x r acc S ⟨h1, h2, h3, h4, h5⟩ => ?_) mg cYes_mono me xs [] S0 ⟨fun _ h => h, by simp, fun _ h => (by cases h), Off.refl _ _, by simpa using hp⟩
  · have h2' : acc.length = xs.length := by simpa using h2
    have c2 : C * (acc.length : Int) ≤ C * L := Int.mul_le_mul_of_nonneg_left (by omega) hC
    exact hq acc S h2' h3 h4 (h5.mono (by omega))
  · have h2' : acc.length + (r.length + 1) = xs.length := by simpa using h2
    have c1 : 0 ≤ C * (acc.length : Int) := Int.mul_nonneg hC (Int.natCast_nonneg _)
    have c2 : C * (acc.length + 1 : Int) ≤ C * L := Int.mul_le_mul_of_nonneg_left (by omega) hC
    rw [Int.mul_add, Int.mul_one] at c2
    refine mg _ _ _ _ _ (fun ws2 S2 q => ?_) (hs x S _ (h1 x List.mem_cons_self) (by omega) (by omega) h4 h5)
    simp only [cYes, if_true]
    refine me _ _ _ _ (fun y S4 ⟨q1, q2, q3⟩ => ⟨Nat.lt_of_lt_of_le (show acc.length < 10001 by omega) (by decide), fun z hz => h1 z (List.mem_cons_of_mem _ hz), by simp; omega, fun z hz => ?_, q2, ?_⟩) q
    · rcases List.mem_append.mp hz with e | e
      · exact h3 z e
      · rw [List.mem_singleton.mp e]; exact q1
    · have e : b0 + C * ((acc ++ [y]).length : Int) = b0 + C * acc.length + C := by
        rw [List.length_append, List.length_singleton]
        show b0 + C * ((acc.length : Int) + 1) = _
        rw [Int.mul_add]; omega
      rw [e]; exact q3
end
section
variable {α β : Type} {G : Sto → Prop} {g : CG} {tt : CT} {te : CE} {ws : CL.Env} {Q : List Cv → Sto → Prop} {S0 : Sto}
/-- a pure comprehension over things that the items stand for: what is kept, what it becomes -/
theorem lc_map (as : List α) (e : α → Cv) (f : α → Option Cv) (hG : G S0) : ∀ acc : List Cv, acc.length + as.length ≤ 1000000 →
    (∀ a, a ∈ as → ∀ (R : Cv → Sto → Prop) (R' : Sto → Prop), (∀ y, f a = some y → R y S0) → (f a = none → R' S0) → g (e a) ws S0 fun ws2 S2 => tt ws2 S2 fun b S3 => if b = true then te ws2 S3 R else R' S3) →
    Q (acc ++ as.filterMap f) S0 → lcL G g tt te ws Q (as.map e) acc S0 := by
  induction as with
  | nil => intro acc _ _ hq; exact ⟨hG, by simpa using hq⟩
  | cons a as ih =>
    intro acc hl hs hq
    refine ⟨hG, hs a List.mem_cons_self _ _ (fun y hy => ?_) (fun hn => ?_)⟩
    · have hl' : acc.length + (as.length + 1) ≤ 1000000 := by simpa using hl
      refine ⟨Nat.lt_of_lt_of_le (show acc.length < 1000001 by omega) (by decide), ih (acc ++ [y]) (by simp; omega) (fun a' h => hs a' (List.mem_cons_of_mem _ h)) ?_⟩
      rw [List.filterMap_cons, hy] at hq
      simpa using hq
    · have hl' : acc.length + (as.length + 1) ≤ 1000000 := by simpa using hl
      refine ih acc (by omega) (fun a' h => hs a' (List.mem_cons_of_mem _ h)) ?_
      rw [List.filterMap_cons, hn] at hq
      exact hq
/-- two clauses, pure: a list of lists laid flat -/
theorem lc2_map {g1 : CG} {tt1 : CT} {ti1 : CI} {vs1 : List Nat} (as : List α) (e : α → Cv) (f : α → List Cv) (hG : G S0) : ∀ acc : List Cv, acc.length + (as.flatMap f).length ≤ 1000000 →
    (∀ a, a ∈ as → ∀ acc (R : List Cv → Sto → Prop), acc.length + (f a).length ≤ 1000000 → R (acc ++ f a) S0 → g (e a) ws S0 fun ws2 S2 => tt ws2 S2 fun b S3 => if b = true then ti1 ws2 S3 fun ys G1 S4 => lcL G1 g1 tt1 te (cwipe ws2 vs1) R ys acc S4 else R acc S3) →
    Q (acc ++ as.flatMap f) S0 → lc2L G g tt ti1 g1 tt1 te vs1 ws Q (as.map e) acc S0 := by
  induction as with
  | nil => intro acc _ _ hq; exact ⟨hG, by simpa using hq⟩
  | cons a as ih =>
    intro acc hl hs hq
    rw [List.flatMap_cons, List.length_append] at hl
    refine ⟨hG, hs a List.mem_cons_self acc _ (by omega) (ih _ (by rw [List.length_append]; omega) (fun a' h => hs a' (List.mem_cons_of_mem _ h)) ?_)⟩
    rw [List.flatMap_cons] at hq
    simpa using hq
end
end CL

set_option Elab.async false
set_option linter.all false
set_option maxRecDepth 100000
set_option maxHeartbeats 1000000
/-! CL14: conditions and rules as data -/
namespace CL
open PySem PySem.Spec PyProof.Rows L2
inductive Cd where
  | rg (m lo hi : Int)
  | no (c : Cd)
  | al (b : Bool) (cs : List Cd)
mutual
def enc : Cd → Cv
  | .rg m lo hi => .tup [.str "in", .int m, .int lo, .int hi]
  | .no c => .tup [.str "not", enc c]
  | .al b cs => .tup [.str (if b = true then "all" else "any"), .tup (encs cs)]
def encs : List Cd → List Cv
  | [] => []
  | c :: r => enc c :: encs r
end
theorem encs_map : ∀ cs : List Cd, encs cs = cs.map enc
  | [] => rfl
  | c :: r => by rw [encs, encs_map r]; rfl
abbrev Rg := Int × Int × Int
def eIn (r : Rg) : Cv := .tup [.str "in", .int r.1, .int r.2.1, .int r.2.2]
mutual
def ins : Cd → List Rg
  | .rg m lo hi => [(m, lo, hi)]
  | .no c => ins c
  | .al _ cs => inss cs
def inss : List Cd → List Rg
  | [] => []
  | c :: r => ins c ++ inss r
end
theorem inss_map : ∀ cs : List Cd, inss cs = cs.flatMap ins
  | [] => rfl
  | c :: r => by rw [inss, inss_map r]; rfl
mutual
def dp : Cd → Nat
  | .rg _ _ _ => 0
  | .no c => dp c + 1
  | .al _ cs => dps cs + 1
def dps : List Cd → Nat
  | [] => 0
  | c :: r => max (dp c) (dps r)
end
theorem dps_mem : ∀ {cs : List Cd} {c : Cd}, c ∈ cs → dp c ≤ dps cs
  | [], _, h => by cases h
  | d :: r, c, h => by
    rcases List.mem_cons.mp h with e | e
    · rw [e, dps]; exact Nat.le_max_left _ _
    · have := dps_mem e
      rw [dps]; omega
mutual
/-- the most parts of a condition in it -/
def wd : Cd → Nat
  | .rg _ _ _ => 0
  | .no c => wd c
  | .al _ cs => max cs.length (wds cs)
def wds : List Cd → Nat
  | [] => 0
  | c :: r => max (wd c) (wds r)
end
theorem wds_mem : ∀ {cs : List Cd} {c : Cd}, c ∈ cs → wd c ≤ wds cs
  | [], _, h => by cases h
  | d :: r, c, h => by
    rcases List.mem_cons.mp h with e | e
    · rw [e, wds]; exact Nat.le_max_left _ _
    · have := wds_mem e
      rw [wds]; omega
theorem wds_le {n : Nat} : ∀ {cs : List Cd}, (∀ c ∈ cs, wd c ≤ n) → wds cs ≤ n
  | [], _ => Nat.zero_le _
  | c :: r, h => by
    have h1 := h c List.mem_cons_self
    have h2 := wds_le fun z hz => h z (List.mem_cons_of_mem _ hz)
    rw [wds]; omega
mutual
/-- does it hold of a number -/
def hold (n : Int) : Cd → Bool
  | .rg m lo hi => decide (lo ≤ if 0 < m then n % m else n) && decide ((if 0 < m then n % m else n) ≤ hi)
  | .no c => !hold n c
  | .al b cs => if b = true then holdA n cs else holdO n cs
def holdA (n : Int) : List Cd → Bool
  | [] => true
  | c :: r => hold n c && holdA n r
def holdO (n : Int) : List Cd → Bool
  | [] => false
  | c :: r => hold n c || holdO n r
end
theorem holdA_map (n : Int) : ∀ cs : List Cd, holdA n cs = (cs.map (hold n)).all fun b => b
  | [] => rfl
  | c :: r => by rw [holdA, holdA_map n r]; rfl
theorem holdO_map (n : Int) : ∀ cs : List Cd, holdO n cs = (cs.map (hold n)).any fun b => b
  | [] => rfl
  | c :: r => by rw [holdO, holdO_map n r]; rfl
/-- the numbers in it keep to a bound -/
def okRg (r : Rg) : Prop := 0 ≤ r.1 ∧ r.1 < 5000 ∧ 0 ≤ r.2.1 ∧ r.2.1 < 5000 ∧ 0 ≤ r.2.2 ∧ r.2.2 < 5000 ∧ (r.1 = 0 ∨ r.1 = 10 ∨ r.1 = 100 ∨ r.1 = 1000) ∧ r.2.1 ≤ r.2.2 ∧ (0 < r.1 → r.2.2 < r.1)
structure Rl where
  rows : List (Str × Cd)
  last : Str
def eRow (r : Str × Cd) : Cv := .tup [.str r.1, enc r.2]
def eR (r : Rl) : Cv := .tup [.tup (r.rows.map eRow), .str r.last]
def insR (r : Rl) : List Rg := r.rows.flatMap fun x => ins x.2
def spIns (d : Nat) : CSp := mkSp fun us S R => ∃ c, us = [enc c] ∧ dp c < d ∧ (ins c).length ≤ 1000000 ∧ R = fun w S' => w = .lst ((ins c).map eIn) ∧ S' = S
def spAllIns (d : Nat) : CSp := mkSp fun us S R => ∃ r, us = [eR r] ∧ (∀ x ∈ r.rows, dp x.2 < d) ∧ (insR r).length ≤ 1000000 ∧ R = fun w S' => w = .lst ((insR r).map eIn) ∧ S' = S
def bnd (l : List Rg) : Int := match l.filterMap fun r => if r.1 = 0 then some (r.2.2 + 1) else none with | [] => 0 | ns => lmax 0 ns
def prd (l : List Rg) : Int := match l.filterMap fun r => if 0 < r.1 then some r.1 else none with | [] => 1 | ns => lmax 0 ns
def spBound (d : Nat) : CSp := mkSp fun us S R => ∃ r, us = [eR r] ∧ (∀ x ∈ r.rows, dp x.2 < d) ∧ (insR r).length ≤ 1000000 ∧ R = fun w S' => w = .int (bnd (insR r)) ∧ S' = S
def spPeriod (d : Nat) : CSp := mkSp fun us S R => ∃ r, us = [eR r] ∧ (∀ x ∈ r.rows, dp x.2 < d) ∧ (insR r).length ≤ 1000000 ∧ R = fun w S' => w = .int (prd (insR r)) ∧ S' = S
def spHolds (d : Nat) : CSp := mkSp fun us S R => ∃ c n, us = [enc c, .int n] ∧ dp c < d ∧ wd c ≤ 100000 ∧ (∀ r ∈ ins c, 0 ≤ r.1) ∧ R = fun w S' => w = .bl (hold n c) ∧ S' = S
end CL

set_option Elab.async false
set_option linter.all false
set_option maxRecDepth 100000
set_option maxHeartbeats 1000000
/-! CL15: more steps: iterations, methods, aggregates -/
namespace CL
open PySem PySem.Spec PyProof.Rows L2
section
variable {D : CEnds} {ws : CL.Env} {S : Sto} {t u tb : CS} {te ta : CE} {ua : CA} {g g1 : CG} {tt tt1 : CT} {ti ti1 : CI} {i j : Int} {n : Nat} {w z : Cv} {us xs ys zs : List Cv} {p : Addr} {vs vs1 : List Nat} {rm : CM} {x : Str}
def kSeq (Q : List Cv → (Sto → Prop) → Sto → Prop) : Cv → Sto → Prop := fun w S1 => match w with
  | .tup xs => Q xs (fun _ => True) S1
  | .lst xs => Q xs (fun _ => True) S1
  | .str x => Q (signs x) (fun _ => True) S1
  | .ref a => ownL S1 a fun xs => Q xs (fun S => S a = some (.lst xs)) S1
  | _ => False
theorem x_seqI {Q} (h : te ws S (kSeq Q)) : cSeqI te ws S Q := h
theorem x_kSeqT {Q : List Cv → (Sto → Prop) → Sto → Prop} (h : Q xs (fun _ => True) S) : kSeq Q (.tup xs) S := h
theorem x_kSeqL {Q : List Cv → (Sto → Prop) → Sto → Prop} (h : Q xs (fun _ => True) S) : kSeq Q (.lst xs) S := h
theorem x_kSeqS {Q : List Cv → (Sto → Prop) → Sto → Prop} (h : Q (signs x) (fun _ => True) S) : kSeq Q (.str x) S := h
theorem x_kSeqR {Q : List Cv → (Sto → Prop) → Sto → Prop} (e : S p = some (.lst xs)) (h : Q xs (fun S => S p = some (.lst xs)) S) : kSeq Q (.ref p) S := ownL_to e h
def kRng1 (Q : List Cv → (Sto → Prop) → Sto → Prop) : List Cv → Sto → Prop := fun us S1 => match us with | [.int j] => (-(2 ^ 62) ≤ j ∧ j < 2 ^ 62) ∧ Q (iota 0 j.toNat) (fun _ => True) S1 | _ => False
def kRng2 (Q : List Cv → (Sto → Prop) → Sto → Prop) : List Cv → Sto → Prop := fun us S1 => match us with | [.int i, .int j] => (-(2 ^ 62) ≤ i ∧ i < 2 ^ 62 ∧ -(2 ^ 62) ≤ j ∧ j < 2 ^ 62) ∧ Q (iota i (j - i).toNat) (fun _ => True) S1 | _ => False
theorem x_rng1 {Q} (h : ua ws S (kRng1 Q)) : cRng1 ua ws S Q := h
theorem x_rng2 {Q} (h : ua ws S (kRng2 Q)) : cRng2 ua ws S Q := h
theorem x_kRng1 {Q : List Cv → (Sto → Prop) → Sto → Prop} (hb : -(2 ^ 62) ≤ j ∧ j < 2 ^ 62) (h : Q (iota 0 j.toNat) (fun _ => True) S) : kRng1 Q [.int j] S := ⟨hb, h⟩
theorem x_kRng2 {Q : List Cv → (Sto → Prop) → Sto → Prop} (hb : -(2 ^ 62) ≤ i ∧ i < 2 ^ 62 ∧ -(2 ^ 62) ≤ j ∧ j < 2 ^ 62) (h : Q (iota i (j - i).toNat) (fun _ => True) S) : kRng2 Q [.int i, .int j] S := ⟨hb, h⟩
theorem x_lc {Q} (h : ti ws S fun xs G S1 => lcL G g tt te (cwipe ws vs) (fun ys S2 => Q (.lst ys) S2) xs [] S1) : cLc ti g tt te vs ws S Q := h
theorem x_lcO {Q} (h : ti ws S fun xs G S1 => lcL G g tt te (cwipe ws vs) (fun ys S2 => ∀ p, S2 p = none → Q (.ref p) (S2.set p (.lst ys))) xs [] S1) : cLcO ti g tt te vs ws S Q := h
theorem x_lc2 {Q} (h : ti ws S fun xs G S1 => lc2L G g tt ti1 g1 tt1 te vs1 (cwipe ws vs) (fun ys S2 => Q (.lst ys) S2) xs [] S1) : cLc2 ti g tt ti1 g1 tt1 te vs vs1 ws S Q := h
theorem x_for (h : ti ws S fun xs G S1 => forL G g tb D xs ws S1) : cFor ti g tb D ws S := h
def kBM (T : String) (r : CM) (ta : CA) (ws : CL.Env) (Q : Cv → Sto → Prop) : Cv → Sto → Prop := fun o S1 => tyC T o S1 ∧ ta ws S1 fun us S2 => r o us S2 Q
theorem x_bmK {Q} {T : String} (h : te ws S (kBM T rm ua ws Q)) : cBM T rm te ua ws S Q := h
theorem x_kBM {Q} (e : S p = some (.lst xs)) (h : ua ws S fun us S2 => rm (.ref p) us S2 Q) : kBM "list" rm ua ws Q (.ref p) S := ⟨by simp [tyC, e], h⟩
theorem x_append {Q : Cv → Sto → Prop} (e : S p = some (.lst xs)) (hl : xs.length < sizeLine) (h : Q .non (S.set p (.lst (xs ++ [w])))) : cAppend (.ref p) [w] S Q := ownL_to e ⟨hl, h⟩
theorem x_extendL {Q : Cv → Sto → Prop} (e : S p = some (.lst xs)) (hl : xs.length + zs.length ≤ sizeLine) (h : Q .non (S.set p (.lst (xs ++ zs)))) : cExtend (.ref p) [.lst zs] S Q := ownL_to e ⟨hl, h⟩
theorem x_maxD {Q : Cv → Sto → Prop} {ns : List Int} (e : asInts xs = some ns) (h : Q (match ns with | [] => w | ns => .int (lmax 0 ns)) S) : cMaxD [.lst xs] [w] S Q := by
  have e' : intsOf (.lst xs) S = some ns := e
  show match intsOf (.lst xs) S with | some [] => Q w S | some ns => Q (.int (lmax 0 ns)) S | none => False
  rw [e']
  cases ns <;> exact h
theorem x_minD {Q : Cv → Sto → Prop} {ns : List Int} (e : asInts xs = some ns) (h : Q (match ns with | [] => w | ns => .int (lmin 0 ns)) S) : cMinD [.lst xs] [w] S Q := by
  have e' : intsOf (.lst xs) S = some ns := e
  show match intsOf (.lst xs) S with | some [] => Q w S | some ns => Q (.int (lmin 0 ns)) S | none => False
  rw [e']
  cases ns <;> exact h
theorem x_maxL {Q : Cv → Sto → Prop} {ns : List Int} (e : asInts xs = some ns) (hn : ns ≠ []) (h : Q (.int (lmax 0 ns)) S) : cMax [.lst xs] S Q := by
  have e' : intsOf (.lst xs) S = some ns := e
  show match intsOf (.lst xs) S with | some ns => ns ≠ [] ∧ Q (.int (lmax 0 ns)) S | none => False
  rw [e']
  exact ⟨hn, h⟩
theorem x_minL {Q : Cv → Sto → Prop} {ns : List Int} (e : asInts xs = some ns) (hn : ns ≠ []) (h : Q (.int (lmin 0 ns)) S) : cMin [.lst xs] S Q := by
  have e' : intsOf (.lst xs) S = some ns := e
  show match intsOf (.lst xs) S with | some ns => ns ≠ [] ∧ Q (.int (lmin 0 ns)) S | none => False
  rw [e']
  exact ⟨hn, h⟩
theorem x_allL {Q : Cv → Sto → Prop} {bs : List Bool} (e : asBools xs = some bs) (h : Q (.bl (bs.all fun b => b)) S) : cAll [.lst xs] S Q := by
  have e' : boolsOf (.lst xs) S = some bs := e
  show match boolsOf (.lst xs) S with | some ns => Q (.bl (ns.all fun b => b)) S | none => False
  rw [e']; exact h
theorem x_anyL {Q : Cv → Sto → Prop} {bs : List Bool} (e : asBools xs = some bs) (h : Q (.bl (bs.any fun b => b)) S) : cAny [.lst xs] S Q := by
  have e' : boolsOf (.lst xs) S = some bs := e
  show match boolsOf (.lst xs) S with | some ns => Q (.bl (ns.any fun b => b)) S | none => False
  rw [e']; exact h
theorem x_mk {Q : Cv → Sto → Prop} {E : Ex → Sto → Prop} {rel} (R : Cv → Sto → Prop) (h : rel us S R) (q : ∀ w S', R w S' → Q w S') : mkSp rel us S Q E := ⟨R, h, q⟩
variable {Q : Cv → Sto → Prop} {E : Ex → Sto → Prop} {d : Nat}
theorem x_ins {c : Cd} (h1 : dp c < d) (h2 : (ins c).length ≤ 1000000) (h : Q (.lst ((ins c).map eIn)) S) : spIns d [enc c] S Q E := ⟨_, ⟨c, rfl, h1, h2, rfl⟩, fun _ _ ⟨e1, e2⟩ => by rw [e1, e2]; exact h⟩
theorem x_allIns {r : Rl} (h1 : ∀ x ∈ r.rows, dp x.2 < d) (h2 : (insR r).length ≤ 1000000) (h : Q (.lst ((insR r).map eIn)) S) : spAllIns d [eR r] S Q E := ⟨_, ⟨r, rfl, h1, h2, rfl⟩, fun _ _ ⟨e1, e2⟩ => by rw [e1, e2]; exact h⟩
theorem x_bound {r : Rl} (h1 : ∀ x ∈ r.rows, dp x.2 < d) (h2 : (insR r).length ≤ 1000000) (h : Q (.int (bnd (insR r))) S) : spBound d [eR r] S Q E := ⟨_, ⟨r, rfl, h1, h2, rfl⟩, fun _ _ ⟨e1, e2⟩ => by rw [e1, e2]; exact h⟩
theorem x_period {r : Rl} (h1 : ∀ x ∈ r.rows, dp x.2 < d) (h2 : (insR r).length ≤ 1000000) (h : Q (.int (prd (insR r))) S) : spPeriod d [eR r] S Q E := ⟨_, ⟨r, rfl, h1, h2, rfl⟩, fun _ _ ⟨e1, e2⟩ => by rw [e1, e2]; exact h⟩
end
end CL
namespace CL
open PySem PySem.Spec PyProof.Rows L2
theorem x_ixScr {S : Sto} {Q : Cv → Sto → Prop} {ns : List Int} {k : Int} (h0 : 0 ≤ k) (h1 : k < ns.length) (h : ∀ c, c ∈ ns → Q (.int c) S) : cIx (.scr (ns.map Cv.int)) (.int k) S Q := by
  obtain ⟨w, m, e⟩ := atI_mem (xs := ns.map Cv.int) h0 (by simpa using h1)
  obtain ⟨c, hc, rfl⟩ := List.mem_map.mp m
  exact x_ixS e (h c hc)
theorem pot_own {c m : Int} {b : Bool} (h0 : 0 < m) (h1 : m ≤ 10 ^ 300) : 0 ≤ c % m * (if b = true then 1 else 0) ∧ c % m * (if b = true then 1 else 0) < 10 ^ 300 := by
  have a := Int.emod_nonneg c (by omega : m ≠ 0)
  have z := Int.emod_lt_of_pos c h0
  generalize c % m = y at a z
  cases b with
  | true => rw [if_pos rfl, Int.mul_one]; exact ⟨a, Int.lt_of_lt_of_le z h1⟩
  | false => rw [if_neg (by decide), Int.mul_zero]; exact ⟨by decide, Int.pow_pos (by decide)⟩
end CL
namespace CL
theorem nb60 {n : Nat} (h : 1000 ≤ n := by decide) : NB (10 ^ Int.toNat 60) n := by
  have : NB (10 ^ Int.toNat 60) 1000 := by
    show ((10 : Int) ^ 60).natAbs < 2 ^ 1000
    have e : ((10 : Int) ^ 60).natAbs < 2 ^ 200 := by decide
    exact Nat.lt_of_lt_of_le e (pow_le2 (by omega))
  exact this.mono h
theorem p300 : (0 : Int) < (10 ^ Int.toNat 60) ^ Int.toNat 5 := Int.pow_pos (Int.pow_pos (by decide))
theorem p300le : ((10 : Int) ^ Int.toNat 60) ^ Int.toNat 5 ≤ 10 ^ 300 := by
  have : ((10 : Int) ^ 60) ^ 5 = 10 ^ 300 := Int.pow_mul.symm
  exact Int.le_of_eq this
theorem nb300 {n : Nat} {c : Int} (h : 8000 ≤ n := by decide) : NB (c % (10 ^ Int.toNat 60) ^ Int.toNat 5) n := by
  refine NB.mod p300 ?_
  exact NB.mono (NB.pow1 (n := 8000) nb60) h
end CL
namespace CL
open PySem PySem.Spec PyProof.Rows L2
theorem x_yes {Q : Bool → Sto → Prop} {ws : CL.Env} {S : Sto} (h : Q true S) : cYes ws S Q := h
theorem x_iteT {A B : Prop} (h : A) : if true = true then A else B := (if_pos rfl).mpr h
theorem x_iteF {A B : Prop} (h : B) : if false = true then A else B := (if_neg (by decide)).mpr h
theorem x_iteD {a A B : Prop} [Decidable a] (h : a → A) (h' : ¬ a → B) : if decide a = true then A else B := by
  by_cases z : a
  · rw [decide_eq_true z]; exact x_iteT (h z)
  · rw [decide_eq_false z]; exact x_iteF (h' z)
theorem x_iteN {A B : Prop} {b : Bool} (h : if b = true then B else A) : if (!b) = true then A else B := by cases b <;> simpa using h
/-- a pure comprehension that keeps all -/
theorem lc_all {α : Type} {G : Sto → Prop} {g : CG} {te : CE} {ws : CL.Env} {Q : List Cv → Sto → Prop} {S0 : Sto} (as : List α) (e f : α → Cv) (hG : G S0) (acc : List Cv) (hl : acc.length + as.length ≤ 1000000)
    (hs : ∀ a, a ∈ as → ∀ (R : Cv → Sto → Prop), R (f a) S0 → g (e a) ws S0 fun ws2 S2 => te ws2 S2 R) (hm : MonG g) (hq : Q (acc ++ as.map f) S0) : lcL G g cYes te ws Q (as.map e) acc S0 := by
  refine lc_map as e (fun a => some (f a)) hG acc hl (fun a ha R R' h1 _ => ?_) (by rw [List.filterMap_eq_map' ]; exact hq)
  refine hm _ _ _ (fun ws2 S2 => te ws2 S2 R) _ (fun ws2 S2 q => ?_) (hs a ha R (h1 _ rfl))
  exact x_yes (x_iteT q)
end CL
namespace CL
open PySem PySem.Spec PyProof.Rows L2
theorem x_popAt {S : Sto} {p : Addr} {xs : List Cv} {i : Int} {Q : Cv → Sto → Prop} (e : S p = some (.lst xs)) (h0 : 0 ≤ i) (h1 : i < xs.length ∧ i < 2 ^ 63) (h : ∀ (w : Cv) (k : Nat), xs[k]? = some w → k < xs.length → Q w (S.set p (.lst (xs.eraseIdx k)))) : cPopAt (.ref p) [.int i] S Q := by
  have hl : i.toNat < xs.length := by omega
  have e2 : ixN xs.length i = some i.toNat := by unfold ixN; rw [if_pos h0, if_pos h1.1]
  have e3 : xs[i.toNat]? = some xs[i.toNat] := List.getElem?_eq_getElem hl
  refine ownL_to e ⟨⟨by omega, h1.2⟩, ?_⟩
  rw [e2]
  show match xs[i.toNat]? with | some w => _ | none => False
  rw [e3]
  exact h _ _ e3 hl
end CL
namespace CL
theorem asInts_cons {n : Int} {L : List Int} : asInts ([Cv.int n] ++ L.map Cv.int) = some (n :: L) := asInts_map (n :: L)
end CL
namespace CL
open PySem PySem.Spec PyProof.Rows L2
theorem x_holds {S : Sto} {Q : Cv → Sto → Prop} {E : Ex → Sto → Prop} {d : Nat} {c : Cd} {n : Int} (h1 : dp c < d) (h2 : wd c ≤ 100000) (h3 : ∀ r ∈ ins c, 0 ≤ r.1) (h : Q (.bl (hold n c)) S) : spHolds d [enc c, .int n] S Q E := ⟨_, ⟨c, n, rfl, h1, h2, h3, rfl⟩, fun _ _ ⟨e1, e2⟩ => by rw [e1, e2]; exact h⟩
end CL
namespace CL
theorem nb10 {j : Int} {n : Nat} (hj : j.toNat ≤ 60 := by decide) (h : 1000 ≤ n := by decide) : NB (10 ^ j.toNat) n :=
  NB.mono (NB.pow (a := 4) (i := 10) (by unfold NB; decide) (by decide) j.toNat) (by omega)
end CL

set_option Elab.async false
set_option linter.all false
set_option maxRecDepth 100000
set_option maxHeartbeats 1000000
/-! CL16: what the drawing defs promise; what is handed back -/
namespace CL
open PySem PySem.Spec PyProof.Rows L2
section
variable {S S' S1 : Sto} {p a : Addr} {b : Int} {w : Cv} {xs : List Cv} {Q : Cv → Sto → Prop}
/-- what is owned elsewhere stays -/
def Keep (S S' : Sto) (p : Addr) : Prop := ∀ a o, a ≠ p → S a = some o → S' a = some o
theorem Off.keep (h : Off S S' p) : Keep S S' p := fun a o n e => (h a n).trans e
theorem Keep.refl (S : Sto) (p : Addr) : Keep S S p := fun _ _ _ e => e
theorem Keep.trans (h : Keep S S1 p) (g : Keep S1 S' p) : Keep S S' p := fun a o n e => g a o n (h a o n e)
theorem Keep.new {o : Ob} (h : S a = none) : Keep S (S.set a o) p := fun x u _ e => by
  rw [Sto.set_ne (fun z => by subst z; rw [h] at e; cases e)]; exact e
theorem Keep.wr {S2 : Sto} {o : Ob} (k : Keep S S2 p) (h : S a = none) : Keep S (S2.set a o) p := fun x u n e => by
  rw [Sto.set_ne (fun z => by subst z; rw [h] at e; cases e)]; exact k x u n e
/-- the pot and its owner's things alone are seen -/
theorem hand_pot (hw : ∀ a, w ≠ .ref a) (k : Keep S S' p) (hp : Pot S' p b) (h : ∀ S'', Off S S'' p → Pot S'' p b → Q w S'') : Hand S w S' Q := by
  refine ⟨fun x => if x = p then S' p else S x, w, fun x o e => ?_, .inl rfl, h _ (fun x n => if_neg n) (hp.off (if_pos rfl))⟩
  by_cases z : x = p
  · subst z; simpa using e
  · simp only [if_neg z] at e; exact k x o z e
/-- a list of its own, handed back frozen -/
theorem hand_frz (n : S a = none) (h : Q (.lst xs) S) : Hand S (.ref a) (S.set a (.lst xs)) Q :=
  ⟨S, .lst xs, fun x o e => by rw [Sto.set_ne (fun z => by subst z; rw [n] at e; cases e)]; exact e, .inr ⟨a, rfl, n, .inl ⟨xs, Sto.set_same, rfl⟩⟩, h⟩
/-- a list of its own, forgotten -/
theorem hand_drop {o : Ob} (n : S a = none) (h : Q w S) : Hand S w (S.set a o) Q :=
  ⟨S, w, fun x o e => by rw [Sto.set_ne (fun z => by subst z; rw [n] at e; cases e)]; exact e, .inl rfl, h⟩
theorem Pot.some (h : Pot S p b) : ∃ o, S p = some o := by
  obtain ⟨o, s, n, e, _⟩ := h
  exact ⟨_, e⟩
theorem Pot.ne (h : Pot S p b) (n : S a = none) : a ≠ p := fun z => by
  obtain ⟨o, e⟩ := h.some
  subst z; rw [n] at e; cases e
theorem Pot.set {o : Ob} (h : Pot S p b) (n : a ≠ p) : Pot (S.set a o) p b := h.off (Sto.set_ne (fun z => n z.symm))
end
def okMs (ms : List Int) : Prop := ms ≠ [] ∧ ms.length < 1000 ∧ ∀ m ∈ ms, m = 0 ∨ m = 10 ∨ m = 100 ∨ m = 1000
def cst : Nat → Int
  | 0 => 100
  | d + 1 => 4 * cst d
theorem cst_ge : ∀ d, 100 ≤ cst d
  | 0 => by decide
  | d + 1 => by have := cst_ge d; rw [cst]; omega
def goodC (d : Nat) (c : Cd) : Prop := dp c ≤ d ∧ ((ins c).length : Int) ≤ cst d ∧ (∀ r ∈ ins c, okRg r) ∧ wd c ≤ 1000 ∧ (blk (enc c) : Int) ≤ cst d
theorem goodC.mono {d e : Nat} {c : Cd} (h : goodC d c) (l : d ≤ e) : goodC e c := by
  have : ∀ k, cst d ≤ cst (d + k) := fun k => by
    induction k with
    | zero => exact Int.le_refl _
    | succ k ih => have := cst_ge (d + k); rw [← Nat.add_assoc, cst]; omega
  have := this (e - d)
  rw [Nat.add_sub_cancel' l] at this
  exact ⟨Nat.le_trans h.1 l, Int.le_trans h.2.1 this, h.2.2.1, h.2.2.2.1, Int.le_trans h.2.2.2.2 this⟩
def spRange : CSp := mkSp fun us S R => ∃ p ms b, us = [.ref p, .lst (ms.map Cv.int)] ∧ okMs ms ∧ Pot S p b ∧ b + 10 < bMax ∧ R = fun w S' => ∃ r, w = eIn r ∧ okRg r ∧ Off S S' p ∧ Pot S' p (b + 10)
def spCond (d : Nat) : CSp := mkSp fun us S R => ∃ p ms deep b, us = [.ref p, .lst (ms.map Cv.int), .int deep] ∧ okMs ms ∧ deep ≤ d ∧ 1 ≤ d ∧ Pot S p b ∧ b + cst d < bMax ∧ R = fun w S' => ∃ c, w = enc c ∧ goodC d c ∧ Off S S' p ∧ Pot S' p (b + cst d)
/-- the names of forms that are drawn -/
abbrev forms8 : List Str := ["one", "two", "few", "many", "zero", "other", "a", "lastform"]
def goodD (c : Cd) : Prop := dp c ≤ 5 ∧ (ins c).length ≤ 6400 ∧ (∀ r ∈ ins c, okRg r) ∧ wd c ≤ 1000 ∧ blk (enc c) ≤ 6400
theorem goodC.D {c : Cd} (h : goodC 3 c) : goodD c := ⟨Nat.le_trans h.1 (by decide), by
  have := h.2.1
  have e : cst 3 = 6400 := by decide
  omega, h.2.2.1, h.2.2.2.1, by
  have := h.2.2.2.2
  have e : cst 3 = 6400 := by decide
  omega⟩
def goodR (r : Rl) : Prop := r.rows.length ≤ 20 ∧ r.last ∈ forms8 ∧ ∀ x ∈ r.rows, x.1 ∈ forms8 ∧ goodD x.2
theorem goodR.ins {r : Rl} (h : goodR r) : (insR r).length ≤ 1000000 := by
  have key : ∀ l : List (Str × Cd), (∀ x ∈ l, goodD x.2) → (l.flatMap fun x => CL.ins x.2).length ≤ 6400 * l.length := by
    intro l
    induction l with
    | nil => intro _; simp
    | cons x l ih =>
      intro hx
      have h1 := (hx x List.mem_cons_self).2.1
      have h2 := ih fun y hy => hx y (List.mem_cons_of_mem _ hy)
      rw [List.flatMap_cons, List.length_append, List.length_cons]
      omega
  have := key r.rows fun x hx => (h.2.2 x hx).2
  have := h.1
  unfold insR
  omega
theorem goodR.ok {r : Rl} (h : goodR r) : ∀ x ∈ insR r, okRg x := fun x hx => by
  obtain ⟨y, hy, hx⟩ := List.mem_flatMap.mp hx
  exact (h.2.2 y hy).2.2.2.1 x hx
theorem goodR.dp {r : Rl} (h : goodR r) : ∀ x ∈ r.rows, dp x.2 < 6 := fun x hx => by
  have := (h.2.2 x hx).2.1
  omega
def spRules : CSp := mkSp fun us S R => ∃ p b, us = [.ref p] ∧ Pot S p b ∧ b + 100000 < bMax ∧ R = fun w S' => ∃ r, w = eR r ∧ goodR r ∧ Off S S' p ∧ Pot S' p (b + 100000)
section
variable {S : Sto} {p : Addr} {b deep : Int} {ms : List Int} {d : Nat} {Q : Cv → Sto → Prop} {E : Ex → Sto → Prop}
theorem x_range (hm : okMs ms) (hp : Pot S p b) (hb : b + 10 < bMax) (h : ∀ r S', okRg r → Off S S' p → Pot S' p (b + 10) → Q (eIn r) S') : spRange [.ref p, .lst (ms.map Cv.int)] S Q E :=
  ⟨_, ⟨p, ms, b, rfl, hm, hp, hb, rfl⟩, fun w S' ⟨r, e, h1, h2, h3⟩ => by rw [e]; exact h r S' h1 h2 h3⟩
theorem x_cond (hm : okMs ms) (hd : deep ≤ d) (h1 : 1 ≤ d) (hp : Pot S p b) (hb : b + cst d < bMax) (h : ∀ c S', goodC d c → Off S S' p → Pot S' p (b + cst d) → Q (enc c) S') : spCond d [.ref p, .lst (ms.map Cv.int), .int deep] S Q E :=
  ⟨_, ⟨p, ms, deep, b, rfl, hm, hd, h1, hp, hb, rfl⟩, fun w S' ⟨r, e, h1, h2, h3⟩ => by rw [e]; exact h r S' h1 h2 h3⟩
theorem x_rules (hp : Pot S p b) (hb : b + 100000 < bMax) (h : ∀ r S', goodR r → Off S S' p → Pot S' p (b + 100000) → Q (eR r) S') : spRules [.ref p] S Q E :=
  ⟨_, ⟨p, b, rfl, hp, hb, rfl⟩, fun w S' ⟨r, e, h1, h2, h3⟩ => by rw [e]; exact h r S' h1 h2 h3⟩
theorem x_pot {ns : List Int} {k : Int} (k0 : 0 ≤ k) (k1 : k < 1000000) (h : ∀ p S', S p = none → Off S S' p → Pot S' p 0 → Q (.ref p) S') : spPot [.scr (ns.map Cv.int), .int k] S Q E :=
  ⟨_, ⟨ns, k, rfl, k0, k1, rfl⟩, fun w S' ⟨p, e, h1, h2, h3⟩ => by rw [e]; exact h p S' h1 h2 h3⟩
end
end CL
namespace CL
theorem list_of {good : Cd → Prop} : ∀ ys : List Cv, (∀ y ∈ ys, ∃ c, y = enc c ∧ good c) → ∃ cs : List Cd, ys = cs.map enc ∧ ∀ c ∈ cs, good c
  | [], _ => ⟨[], rfl, fun _ h => (by cases h)⟩
  | y :: ys, h => by
    obtain ⟨c, e, g⟩ := h y List.mem_cons_self
    obtain ⟨cs, e2, g2⟩ := list_of ys fun z hz => h z (List.mem_cons_of_mem _ hz)
    exact ⟨c :: cs, by rw [e, e2]; rfl, fun z hz => (List.mem_cons.mp hz).elim (fun e => by rw [e]; exact g) (g2 z)⟩
theorem dps_le {n : Nat} : ∀ {cs : List Cd}, (∀ c ∈ cs, dp c ≤ n) → dps cs ≤ n
  | [], _ => Nat.zero_le _
  | c :: r, h => by
    have h1 := h c List.mem_cons_self
    have h2 := dps_le fun z hz => h z (List.mem_cons_of_mem _ hz)
    rw [dps]; omega
theorem inss_le : ∀ (cs : List Cd) (C : Int), 0 ≤ C → (∀ c ∈ cs, ((ins c).length : Int) ≤ C) → ((inss cs).length : Int) ≤ C * cs.length
  | [], C, _, _ => by simp [inss]
  | c :: r, C, h0, h => by
    have h1 := h c List.mem_cons_self
    have h2 := inss_le r C h0 fun z hz => h z (List.mem_cons_of_mem _ hz)
    rw [inss, List.length_append, List.length_cons]
    have e : C * ((r.length + 1 : Nat) : Int) = C * r.length + C := by push_cast; rw [Int.mul_add, Int.mul_one]
    rw [e]; push_cast; omega
end CL
namespace CL
theorem list_of' {α : Type} {good : α → Prop} (e : α → Cv) : ∀ ys : List Cv, (∀ y ∈ ys, ∃ c, y = e c ∧ good c) → ∃ cs : List α, ys = cs.map e ∧ ∀ c ∈ cs, good c
  | [], _ => ⟨[], rfl, fun _ h => (by cases h)⟩
  | y :: ys, h => by
    obtain ⟨c, e1, g⟩ := h y List.mem_cons_self
    obtain ⟨cs, e2, g2⟩ := list_of' e ys fun z hz => h z (List.mem_cons_of_mem _ hz)
    exact ⟨c :: cs, by rw [e1, e2]; rfl, fun z hz => (List.mem_cons.mp hz).elim (fun e => by rw [e]; exact g) (g2 z)⟩
theorem list_of'' {α : Type} {good : α → Prop} (e : α → Cv) (ys : List Cv) (h : ∀ y ∈ ys, ∃ c, y = e c ∧ good c) : ∃ cs : List α, ys = cs.map e ∧ ∀ c ∈ cs, good c := list_of' e ys h
end CL
namespace CL
theorem eraseIdx_map {α β : Type} (f : α → β) : ∀ (l : List α) (k : Nat), (l.map f).eraseIdx k = (l.eraseIdx k).map f
  | [], _ => rfl
  | _ :: _, 0 => rfl
  | x :: r, k + 1 => by simp [List.eraseIdx, eraseIdx_map f r k]
end CL
namespace CL
open PySem PySem.Spec PyProof.Rows L2
/-- what the law finds by itself -/
theorem lmax_eq {d d' : Int} {xs ys : List Int} (hx : xs ≠ []) (hy : ys ≠ []) (h1 : ∀ x ∈ xs, x ∈ ys ∨ ∃ y ∈ ys, x ≤ y) (h2 : ∀ y ∈ ys, y ∈ xs ∨ ∃ x ∈ xs, y ≤ x) : lmax d xs = lmax d' ys := by
  have a := lmax_mem (d := d) hx
  have b := lmax_mem (d := d') hy
  have p : lmax d xs ≤ lmax d' ys := by
    rcases h1 _ a with z | ⟨y, hy, z⟩
    · exact lmax_ge _ z
    · exact Int.le_trans z (lmax_ge _ hy)
  have q : lmax d' ys ≤ lmax d xs := by
    rcases h2 _ b with z | ⟨y, hy, z⟩
    · exact lmax_ge _ z
    · exact Int.le_trans z (lmax_ge _ hy)
  omega
theorem bnd_edge (l : List Rg) (ok : ∀ r ∈ l, okRg r) : lmax 0 (0 :: l.filterMap fun r => if r.1 = 0 then some (r.2.2 + 1) else none) = bnd l := by
  unfold bnd
  have pos : ∀ y ∈ l.filterMap (fun r => if r.1 = 0 then some (r.2.2 + 1) else none), 0 ≤ y := fun y hy => by
    obtain ⟨r, hr, e⟩ := List.mem_filterMap.mp hy
    have := ok r hr
    split at e
    · cases e; have := this.2.2.2.2.1; omega
    · cases e
  generalize List.filterMap _ l = ns at pos ⊢
  cases ns with
  | nil => rfl
  | cons n r =>
    refine lmax_eq (by simp) (by simp) (fun x hx => ?_) (fun y hy => .inl (List.mem_cons_of_mem _ hy))
    rcases List.mem_cons.mp hx with e | e
    · exact .inr ⟨n, List.mem_cons_self, by rw [e]; exact pos n List.mem_cons_self⟩
    · exact .inl e
theorem prd_edge (l : List Rg) (ok : ∀ r ∈ l, okRg r) : lmax 0 (1 :: l.map fun r => r.1) = prd l := by
  unfold prd
  have h1 : ∀ y ∈ l.filterMap (fun r => if 0 < r.1 then some r.1 else none), 1 ≤ y ∧ y ∈ l.map fun r => r.1 := fun y hy => by
    obtain ⟨r, hr, e⟩ := List.mem_filterMap.mp hy
    split at e
    · cases e; exact ⟨by omega, List.mem_map.mpr ⟨r, hr, rfl⟩⟩
    · cases e
  have h2 : ∀ y ∈ l.map (fun r => r.1), y ≤ 0 ∨ y ∈ l.filterMap fun r => if 0 < r.1 then some r.1 else none := fun y hy => by
    obtain ⟨r, hr, e⟩ := List.mem_map.mp hy
    by_cases z : 0 < r.1
    · exact .inr (List.mem_filterMap.mpr ⟨r, hr, by rw [if_pos z, e]⟩)
    · exact .inl (by omega)
  generalize List.filterMap _ l = ns at h1 h2 ⊢
  generalize l.map (fun r => r.1) = ms at h1 h2 ⊢
  cases ns with
  | nil =>
    show lmax 0 (1 :: ms) = 1
    have a := lmax_mem (d := 0) (ns := 1 :: ms) (by simp)
    have b := lmax_ge (d := 0) (ns := 1 :: ms) 1 List.mem_cons_self
    rcases List.mem_cons.mp a with e | e
    · exact e
    · rcases h2 _ e with z | z
      · omega
      · cases z
  | cons n r =>
    refine lmax_eq (by simp) (by simp) (fun x hx => ?_) (fun y hy => .inl (List.mem_cons_of_mem _ (h1 y hy).2))
    rcases List.mem_cons.mp hx with e | e
    · exact .inr ⟨n, List.mem_cons_self, by rw [e]; exact (h1 n List.mem_cons_self).1⟩
    · rcases h2 x e with z | z
      · exact .inr ⟨n, List.mem_cons_self, by have := (h1 n List.mem_cons_self).1; omega⟩
      · exact .inl z
def spEdges (d : Nat) : CSp := mkSp fun us S R => ∃ r, us = [eR r] ∧ (∀ x ∈ r.rows, dp x.2 < d) ∧ (insR r).length ≤ 1000000 ∧ (∀ x ∈ insR r, okRg x) ∧ R = fun w S' => w = .tup [.int (bnd (insR r)), .int (prd (insR r))] ∧ S' = S
theorem x_edges {S : Sto} {d : Nat} {Q : Cv → Sto → Prop} {E : Ex → Sto → Prop} {r : Rl} (h1 : ∀ x ∈ r.rows, dp x.2 < d) (h2 : (insR r).length ≤ 1000000) (h3 : ∀ x ∈ insR r, okRg x) (h : Q (.tup [.int (bnd (insR r)), .int (prd (insR r))]) S) : spEdges d [eR r] S Q E := ⟨_, ⟨r, rfl, h1, h2, h3, rfl⟩, fun _ _ ⟨e1, e2⟩ => by rw [e1, e2]; exact h⟩
theorem bnd_le (l : List Rg) (ok : ∀ r ∈ l, okRg r) : 0 ≤ bnd l ∧ bnd l ≤ 1000000 := by
  rw [← bnd_edge l ok]
  refine ⟨lmax_ge _ List.mem_cons_self, ?_⟩
  have key := lmax_mem (d := 0) (ns := 0 :: l.filterMap fun (r : Rg) => if r.1 = 0 then some (r.2.2 + 1) else none) (by simp)
  generalize lmax 0 (0 :: l.filterMap fun (r : Rg) => if r.1 = 0 then some (r.2.2 + 1) else none) = z at key ⊢
  rcases List.mem_cons.mp key with e | e
  · omega
  · obtain ⟨r, hr, e⟩ := List.mem_filterMap.mp e
    have := ok r hr
    split at e
    · have := this.2.2.2.2.2.1; injection e with e; omega
    · cases e
theorem bnd_le5 (l : List Rg) (ok : ∀ r ∈ l, okRg r) : bnd l ≤ 5000 := by
  rw [← bnd_edge l ok]
  have key := lmax_mem (d := 0) (ns := 0 :: l.filterMap fun (r : Rg) => if r.1 = 0 then some (r.2.2 + 1) else none) (by simp)
  generalize lmax 0 (0 :: l.filterMap fun (r : Rg) => if r.1 = 0 then some (r.2.2 + 1) else none) = z at key ⊢
  rcases List.mem_cons.mp key with e | e
  · omega
  · obtain ⟨r, hr, e⟩ := List.mem_filterMap.mp e
    have := ok r hr
    split at e
    · have := this.2.2.2.2.2.1; injection e with e; omega
    · cases e
/-- r's bound is under the joint one -/
theorem bnd_ge (l : List Rg) (ok : ∀ r ∈ l, okRg r) : ∀ r ∈ l, r.1 = 0 → r.2.2 < bnd l := fun r hr e => by
  rw [← bnd_edge l ok]
  have : r.2.2 + 1 ≤ lmax 0 (0 :: l.filterMap fun (r : Rg) => if r.1 = 0 then some (r.2.2 + 1) else none) :=
    lmax_ge _ (List.mem_cons_of_mem _ (List.mem_filterMap.mpr ⟨r, hr, by rw [if_pos e]⟩))
  omega
/-- all moduli divide the greatest -/
theorem prd_dvd (l : List Rg) (ok : ∀ r ∈ l, okRg r) : ∀ r ∈ l, 0 < r.1 → r.1 ∣ prd l := fun r hr h0 => by
  rw [← prd_edge l ok]
  have ge : r.1 ≤ lmax 0 (1 :: l.map fun r => r.1) := lmax_ge _ (List.mem_cons_of_mem _ (List.mem_map.mpr ⟨r, hr, rfl⟩))
  have key := lmax_mem (d := 0) (ns := 1 :: l.map fun r => r.1) (by simp)
  generalize lmax 0 (1 :: l.map fun r => r.1) = z at key ge ⊢
  have a := (ok r hr).2.2.2.2.2.2.1
  have b : z = 1 ∨ z = 0 ∨ z = 10 ∨ z = 100 ∨ z = 1000 := by
    rcases List.mem_cons.mp key with e | e
    · exact .inl e
    · obtain ⟨r', hr', e⟩ := List.mem_map.mp e
      rw [← e]; exact .inr (ok r' hr').2.2.2.2.2.2.1
  rcases a with a | a | a | a <;> rcases b with b | b | b | b | b <;> first | (exfalso; omega) | (rw [a, b]; decide)
/-- a condition holds alike of two numbers past all bounds whose difference all moduli divide -/
theorem hold_rg {n z m lo hi low wide k : Int} (hn : low ≤ n) (hz : low ≤ z) (e : n = z + wide * k) (h1 : m = 0 → hi < low) (h2 : 0 ≤ m) (h3 : 0 < m → m ∣ wide) : hold n (.rg m lo hi) = hold z (.rg m lo hi) := by
  by_cases hm : 0 < m
  · obtain ⟨q, hq⟩ := h3 hm
    have em : n % m = z % m := by
      rw [e, hq, Int.mul_assoc, Int.add_mul_emod_self_left]
    simp only [hold, if_pos hm, em]
  · have hm0 : m = 0 := by omega
    have := h1 hm0
    simp only [hold, if_neg hm]
    rw [decide_eq_false (show ¬ n ≤ hi by omega), decide_eq_false (show ¬ z ≤ hi by omega), Bool.and_false, Bool.and_false]
section
variable {n z low wide k : Int} (hn : low ≤ n) (hz : low ≤ z) (e : n = z + wide * k)
include hn hz e
mutual
theorem hold_round : ∀ c : Cd, (∀ r ∈ ins c, (r.1 = 0 → r.2.2 < low) ∧ 0 ≤ r.1 ∧ (0 < r.1 → r.1 ∣ wide)) → hold n c = hold z c
  | .rg m lo hi, h => by
    obtain ⟨a, b, c⟩ := h (m, lo, hi) (by simp [ins])
    exact hold_rg hn hz e a b c
  | .no c, h => by rw [hold, hold, hold_round c (by simpa only [ins] using h)]
  | .al b cs, h => by
    obtain ⟨p, q⟩ := hold_rounds cs (by simpa only [ins] using h)
    rw [hold, hold, p, q]
theorem hold_rounds : ∀ cs : List Cd, (∀ r ∈ inss cs, (r.1 = 0 → r.2.2 < low) ∧ 0 ≤ r.1 ∧ (0 < r.1 → r.1 ∣ wide)) → holdA n cs = holdA z cs ∧ holdO n cs = holdO z cs
  | [], _ => ⟨rfl, rfl⟩
  | c :: r, h => by
    rw [inss] at h
    have a := hold_round c fun x hx => h x (List.mem_append_left _ hx)
    obtain ⟨p, q⟩ := hold_rounds r fun x hx => h x (List.mem_append_right _ hx)
    exact ⟨by rw [holdA, holdA, a, p], by rw [holdO, holdO, a, q]⟩
end
end
theorem prd_le (l : List Rg) (ok : ∀ r ∈ l, okRg r) : 1 ≤ prd l ∧ prd l ≤ 1000000 := by
  rw [← prd_edge l ok]
  refine ⟨lmax_ge _ List.mem_cons_self, ?_⟩
  rcases List.mem_cons.mp (lmax_mem (d := 0) (ns := 1 :: l.map fun r => r.1) (by simp)) with e | e
  · omega
  · obtain ⟨r, hr, e⟩ := List.mem_map.mp e
    have := (ok r hr).2.1
    omega
end CL
namespace CL
open PySem PySem.Spec PyProof.Rows L2
section
variable {P : Program} {w : World} {K : Fg} {mg : Str → Option Value} {base : Heap} {k : Nat} {f : Addr} {fd : FuncData} {ps : List Str}
theorem spIns_zero : FnG P w K mg base L2.CX0 k f fd ps (spIns 0) := fn_no.imp mkSp_mono fun us S Q E ⟨R, ⟨c, _, h, _⟩, _⟩ => absurd h (Nat.not_lt_zero _)
theorem spHolds_zero : FnG P w K mg base L2.CX0 k f fd ps (spHolds 0) := fn_no.imp mkSp_mono fun us S Q E ⟨R, ⟨c, _, _, h, _⟩, _⟩ => absurd h (Nat.not_lt_zero _)
theorem spCond_zero : FnG P w K mg base L2.CX0 k f fd ps (spCond 0) := fn_no.imp mkSp_mono fun us S Q E ⟨R, ⟨_, _, _, _, _, _, _, h, _⟩, _⟩ => absurd h (by decide)
end
end CL
namespace CL
open PySem PySem.Spec PyProof.Rows L2
theorem small_int {i : Int} (h0 : 0 ≤ i) (h1 : i < 10000000) : smallV (.int i) = true := by
  show decide _ = true
  exact decide_eq_true (by omega)
theorem smallVs_map {α : Type} (e : α → Cv) : ∀ l : List α, (∀ a ∈ l, smallV (e a) = true) → smallVs (l.map e) = true
  | [], _ => rfl
  | a :: r, h => by
    show (smallV (e a) && smallVs (r.map e)) = true
    rw [h a List.mem_cons_self, smallVs_map e r fun b hb => h b (List.mem_cons_of_mem _ hb)]; rfl
mutual
theorem smallV_enc : ∀ c : Cd, (∀ r ∈ ins c, okRg r) → smallV (enc c) = true ∧ dep (enc c) ≤ 2 * dp c + 1
  | .rg m lo hi, h => by
    obtain ⟨a, b, c, d, e, f⟩ := h (m, lo, hi) (by simp [ins])
    refine ⟨?_, by rw [enc, dp]; exact Nat.le_of_ble_eq_true rfl⟩
    rw [enc]
    show (smallV (.str "in") && (smallV (.int m) && (smallV (.int lo) && (smallV (.int hi) && true)))) = true
    have e1 : smallV (.int m) = true := small_int a (by have : m < 5000 := b; omega)
    have e2 : smallV (.int lo) = true := small_int c (by have : lo < 5000 := d; omega)
    have e3 : smallV (.int hi) = true := small_int e (by have : hi < 5000 := f.1; omega)
    rw [e1, e2, e3]; decide +kernel
  | .no c, h => by
    obtain ⟨a, b⟩ := smallV_enc c (by simpa only [ins] using h)
    refine ⟨?_, ?_⟩
    · rw [enc]
      show (smallV (.str "not") && (smallV (enc c) && true)) = true
      rw [a]; decide +kernel
    · rw [enc, dp]
      show max (dep (.str "not")) (max (dep (enc c)) 0) + 1 ≤ _
      have : dep (.str "not") = 0 := rfl
      omega
  | .al b cs, h => by
    obtain ⟨a, z⟩ := smallV_encs cs (by simpa only [ins] using h)
    refine ⟨?_, ?_⟩
    · rw [enc]
      show (smallV (.str (if b = true then "all" else "any")) && (smallVs (encs cs) && true)) = true
      rw [a]; cases b <;> decide +kernel
    · rw [enc, dp]
      show max (dep (.str (if b = true then "all" else "any"))) (max (deps (encs cs) + 1) 0) + 1 ≤ _
      have : dep (.str (if b = true then "all" else "any")) = 0 := rfl
      omega
theorem smallV_encs : ∀ cs : List Cd, (∀ r ∈ inss cs, okRg r) → smallVs (encs cs) = true ∧ deps (encs cs) ≤ 2 * dps cs + 1
  | [], _ => ⟨rfl, Nat.zero_le _⟩
  | c :: r, h => by
    rw [inss] at h
    obtain ⟨a, b⟩ := smallV_enc c fun x hx => h x (List.mem_append_left _ hx)
    obtain ⟨a2, b2⟩ := smallV_encs r fun x hx => h x (List.mem_append_right _ hx)
    refine ⟨?_, ?_⟩
    · rw [encs]
      show (smallV (enc c) && smallVs (encs r)) = true
      rw [a, a2]; rfl
    · rw [encs, dps]
      show max (dep (enc c)) (deps (encs r)) ≤ _
      omega
end
theorem forms8_small {x : Str} (h : x ∈ forms8) : smallV (.str x) = true ∧ blk (.str x) ≤ 8 := by
  simp only [forms8, List.mem_cons, List.not_mem_nil, or_false] at h
  rcases h with h | h | h | h | h | h | h | h <;> subst h <;> exact ⟨by decide +kernel, by decide +kernel⟩
theorem okR_rules {r : Rl} (h : goodR r) : okR (eR r) := by
  obtain ⟨h1, h2, h3⟩ := h
  obtain ⟨l1, l2⟩ := forms8_small h2
  have row : ∀ x ∈ r.rows, smallV (eRow x) = true ∧ dep (eRow x) ≤ 12 ∧ blk (eRow x) ≤ 6420 := fun x hx => by
    obtain ⟨a, b⟩ := h3 x hx
    obtain ⟨f1, f2⟩ := forms8_small a
    obtain ⟨c1, c2⟩ := smallV_enc x.2 b.2.2.1
    have c3 := b.1
    have c4 := b.2.2.2.2
    refine ⟨?_, ?_, ?_⟩
    · show (smallV (.str x.1) && (smallV (enc x.2) && true)) = true
      rw [f1, c1]; rfl
    · show max (dep (.str x.1)) (max (dep (enc x.2)) 0) + 1 ≤ 12
      have : dep (.str x.1) = 0 := rfl
      omega
    · show blk (.str x.1) + 1 + (blk (enc x.2) + 1 + 0) ≤ 6420
      omega
  have dl : ∀ l : List (Str × Cd), (∀ x ∈ l, dep (eRow x) ≤ 12) → deps (l.map eRow) ≤ 12 := fun l => by
    induction l with
    | nil => intro _; exact Nat.zero_le _
    | cons x l ih =>
      intro hx
      have a := hx x List.mem_cons_self
      have b := ih fun y hy => hx y (List.mem_cons_of_mem _ hy)
      show max (dep (eRow x)) (deps (l.map eRow)) ≤ 12
      omega
  have bl : ∀ l : List (Str × Cd), (∀ x ∈ l, blk (eRow x) ≤ 6420) → blks (l.map eRow) ≤ 6421 * l.length := fun l => by
    induction l with
    | nil => intro _; exact Nat.zero_le _
    | cons x l ih =>
      intro hx
      have a := hx x List.mem_cons_self
      have b := ih fun y hy => hx y (List.mem_cons_of_mem _ hy)
      show blk (eRow x) + 1 + blks (l.map eRow) ≤ _
      rw [List.length_cons]
      omega
  refine okR_small ?_ ?_ ?_
  · show (smallVs (r.rows.map eRow) && (smallV (.str r.last) && true)) = true
    rw [smallVs_map eRow _ fun x hx => (row x hx).1, l1]; rfl
  · show max (deps (r.rows.map eRow) + 1) (max (dep (.str r.last)) 0) + 1 ≤ 64
    have := dl r.rows fun x hx => (row x hx).2.1
    have e : dep (.str r.last) = 0 := rfl
    omega
  · show blks (r.rows.map eRow) + 1 + (blk (.str r.last) + 1 + 0) ≤ 500000
    have := bl r.rows fun x hx => (row x hx).2.2
    omega
end CL
namespace CL
theorem blks_le : ∀ (cs : List Cd) (C : Int), 0 ≤ C → (∀ c ∈ cs, (blk (enc c) : Int) ≤ C) → (blks (cs.map enc) : Int) ≤ (C + 1) * cs.length
  | [], C, _, _ => by simp [blks]
  | c :: r, C, h0, h => by
    have h1 := h c List.mem_cons_self
    have h2 := blks_le r C h0 fun z hz => h z (List.mem_cons_of_mem _ hz)
    have e : (C + 1) * ((r.length + 1 : Nat) : Int) = (C + 1) * r.length + (C + 1) := by push_cast; rw [Int.mul_add, Int.mul_one]
    rw [List.length_cons, e]
    show ((blk (enc c) + 1 + blks (r.map enc) : Nat) : Int) ≤ _
    push_cast; omega
end CL

set_option Elab.async false
set_option linter.all false
set_option maxRecDepth 100000
set_option maxHeartbeats 1000000
/-! CL17: readings are monotone -/
namespace CL
open PySem PySem.Spec PyProof.Rows L2
section
variable {ta tb tc te to : CE} {ua ub : CA} {r r' : C2} {rc : CC} {rk : CCK} {rm : CM} {r1 : C1} {c c' : CT} {t u : CS} {g g1 : CG} {gs : CGs} {ti ti1 : CI} {vs vs1 : List Nat} {n m : Nat} {w : Cv} {f : Bool → Bool} {sp : CSp} {E : Ex → Sto → Prop} {T : String}
theorem mo_var : MonE (cVar n) := fun ws S Q Q' f h => by
  unfold cVar at h ⊢
  split at h <;> first | exact f _ _ h | exact h
theorem mo_c : MonE (cC w) := fun ws S Q Q' f h => f _ _ h
theorem mo_un (h : Mon1 r1) (ha : MonE ta) : MonE (cUn r1 ta) := fun ws S Q Q' f q => ha _ _ _ _ (fun x S1 q1 => h _ _ _ _ f q1) q
theorem mo_neg : Mon1 cNeg := fun a S Q Q' f h => by
  unfold cNeg at h ⊢
  split at h
  · exact f _ _ h
  · exact h
theorem mo_not (h : MonT c) : MonT (cNot c) := fun ws S Q Q' f q => h _ _ _ _ (fun b S1 h1 => f _ _ h1) q
theorem mo_andV (ha : MonE ta) (hb : MonE tb) : MonE (cAndV ta tb) := fun ws S Q Q' f h => ha _ _ _ _ (fun w S1 h1 => by
  cases w with
  | bl k => cases k with
    | true => exact hb _ _ _ _ f h1
    | false => exact f _ _ h1
  | _ => exact h1) h
theorem mo_orV (ha : MonE ta) (hb : MonE tb) : MonE (cOrV ta tb) := fun ws S Q Q' f h => ha _ _ _ _ (fun w S1 h1 => by
  cases w with
  | bl k => cases k with
    | false => exact hb _ _ _ _ f h1
    | true => exact f _ _ h1
  | _ => exact h1) h
theorem mo_if (hc : MonT c) (ha : MonE ta) (hb : MonE tb) : MonE (cIf c ta tb) := fun ws S Q Q' f h => hc _ _ _ _ (fun k S1 h1 => by
  cases k with
  | true => exact ha _ _ _ _ f h1
  | false => exact hb _ _ _ _ f h1) h
theorem mo_chain (hr : Mon2 r) (hr' : Mon2 r') (ha : MonE ta) (hb : MonE tb) (hc : MonE tc) : MonE (cChain r r' ta tb tc) := fun ws S Q Q' f h => ha _ _ _ _ (fun x S1 q1 => hb _ _ _ _ (fun y S2 q2 => hr _ _ _ _ _ (fun z S3 q3 => by
  split at q3
  · exact hc _ _ _ _ (fun u S4 q4 => hr' _ _ _ _ _ f q4) q3
  · exact f _ _ q3
  · exact q3.elim) q2) q1) h
theorem mo_nil : MonA cNil := fun ws S Q Q' f h => f _ _ h
theorem mo_cons (ha : MonE ta) (hu : MonA ua) : MonA (cCons ta ua) := fun ws S Q Q' f h => ha _ _ _ _ (fun w S1 h1 => hu _ _ _ _ (fun r S2 h2 => f _ _ h2) h1) h
theorem mo_tup (h : MonA ua) : MonE (cTup ua) := fun ws S Q Q' f q => h _ _ _ _ (fun r S1 h1 => ⟨h1.1, f _ _ h1.2⟩) q
theorem mo_lst (h : MonA ua) : MonE (cLst ua) := fun ws S Q Q' f q => h _ _ _ _ (fun r S1 h1 => ⟨h1.1, f _ _ h1.2⟩) q
theorem mo_lstO (h : MonA ua) : MonE (cLstO ua) := fun ws S Q Q' f q => h _ _ _ _ (fun r S1 h1 => ⟨h1.1, fun p hp => f _ _ (h1.2 p hp)⟩) q
theorem mo_seqI (h : MonE ta) : MonI (cSeqI ta) := fun ws S Q Q' f q => h _ _ _ _ (fun w S1 q => by
  cases w with
  | tup xs => exact f _ _ _ q
  | lst xs => exact f _ _ _ q
  | str xs => exact f _ _ _ q
  | ref a => exact ownL_imp (fun xs q => f _ _ _ q) q
  | _ => exact q) q
theorem mo_rng1 (h : MonA ua) : MonI (cRng1 ua) := fun ws S Q Q' f q => h _ _ _ _ (fun us S1 q => by
  split at q
  · exact ⟨q.1, f _ _ _ q.2⟩
  · exact q) q
theorem mo_rng2 (h : MonA ua) : MonI (cRng2 ua) := fun ws S Q Q' f q => h _ _ _ _ (fun us S1 q => by
  split at q
  · exact ⟨q.1, f _ _ _ q.2⟩
  · exact q) q
theorem mo_lc (hi : MonI ti) (hg : MonG g) (ht : MonT c) (he : MonE te) : MonE (cLc ti g c te vs) := fun ws S Q Q' f h => hi _ _ _ _ (fun xs G S1 q => lcL_mono hg ht he (fun a b q => f _ _ q) xs [] S1 q) h
theorem mo_lcO (hi : MonI ti) (hg : MonG g) (ht : MonT c) (he : MonE te) : MonE (cLcO ti g c te vs) := fun ws S Q Q' f h => hi _ _ _ _ (fun xs G S1 q => lcL_mono hg ht he (fun a b q p hp => f _ _ (q p hp)) xs [] S1 q) h
theorem mo_lc2 (hi : MonI ti) (hg : MonG g) (ht : MonT c) (hi1 : MonI ti1) (hg1 : MonG g1) (ht1 : MonT c') (he : MonE te) : MonE (cLc2 ti g c ti1 g1 c' te vs vs1) := fun ws S Q Q' f h => hi _ _ _ _ (fun xs G S1 q => lc2L_mono hg ht hi1 hg1 ht1 he (fun a b q => f _ _ q) xs [] S1 q) h
theorem mo_gname : MonG (cgName n) := fun w ws S Q Q' f h => f _ _ h
theorem mo_gnil : MonGs cgNil := fun w ws S Q Q' f h => ⟨h.1, f _ _ h.2⟩
theorem mo_gcons (h : MonG g) (hs : MonGs gs) : MonGs (cgCons g gs) := fun us ws S Q Q' f q => by
  cases us with
  | nil => exact q
  | cons w r => exact h _ _ _ _ _ (fun ws1 S1 q1 => hs _ _ _ _ _ f q1) q
theorem mo_gtup (hs : MonGs gs) : MonG (cgTup n gs) := fun w ws S Q Q' f q => by
  cases w with
  | tup us => exact ⟨q.1, hs _ _ _ _ _ f q.2⟩
  | _ => exact q
theorem mo_next : MonS cNext := fun D D' ws S l h => l.nx _ _ h
theorem mo_ret (h : MonE te) : MonS (cRet te) := fun D D' ws S l q => h _ _ _ _ l.rt q
theorem mo_retN : MonS cRetN := fun D D' ws S l q => l.rt _ _ q
theorem mo_drop (h : MonE te) : MonS (cDrop te) := fun D D' ws S l q => h _ _ _ _ (fun _ S1 q => l.nx _ _ q) q
theorem mo_ifS (hc : MonT c) (ht : MonS t) (hu : MonS u) : MonS (cIfS c t u) := fun D D' ws S l q => hc _ _ _ _ (fun b S1 h => by
  cases b with
  | true => exact ht _ _ _ _ l h
  | false => exact hu _ _ _ _ l h) q
theorem mo_for (hi : MonI ti) (hg : MonG g) (hb : MonS t) : MonS (cFor ti g t) := fun D D' ws S l q => hi _ _ _ _ (fun xs G S1 q => forL_mono hg hb l xs ws S1 q) q
theorem mo_break : MonS cBreak := fun D D' ws S l h => l.bk _ _ h
theorem mo_cont : MonS cCont := fun D D' ws S l h => l.ct _ _ h
theorem mo_aug (hr : Mon2 r) (he : MonE te) : MonS (cAug n te r) := fun D D' ws S l h => by
  unfold cAug at h ⊢
  split at h
  · exact he _ _ _ _ (fun y S1 q => hr _ _ _ _ _ (fun z S2 q2 => l.nx _ _ q2) q) h
  · exact h
theorem mo_setL (he : MonE te) (ho : MonE to) (hi : MonE ta) : MonS (cSetL to ta te) := fun D D' ws S l h => he _ _ _ _ (fun w S1 h1 => ho _ _ _ _ (fun x S2 h2 => hi _ _ _ _ (fun y S3 h3 => by
  split at h3
  · refine ownL_imp (fun xs q => ?_) h3
    split at q
    · exact l.nx _ _ q
    · exact q.elim
  · exact h3.elim) h2) h1) h
theorem mo_par (h : MonA ua) : MonS (cPar n m ua) := fun D D' ws S l q => h _ _ _ _ (fun us S1 q => by
  split at q
  · exact l.nx _ _ q
  · exact q) q
theorem mo_len : MonC cLen := fun us S Q Q' f h => by
  unfold cLen at h ⊢
  repeat' split at h
  all_goals first | exact h.elim | exact f _ _ h | exact ⟨h.1, f _ _ h.2⟩
theorem mo_abs : MonC cAbs := fun us S Q Q' f h => by
  unfold cAbs at h ⊢
  repeat' split at h
  all_goals first | exact h.elim | exact f _ _ h
theorem mo_int : MonC cInt := fun us S Q Q' f h => by
  unfold cInt at h ⊢
  split at h
  all_goals first | exact h.elim | exact f _ _ h
theorem mo_sum : MonC cSum := fun us S Q Q' f h => by
  unfold cSum at h ⊢
  repeat' split at h
  all_goals first | exact h.elim | exact f _ _ h
theorem mo_tuple : MonC cTupleOf := fun us S Q Q' f h => by
  unfold cTupleOf at h ⊢
  repeat' split at h
  all_goals first | exact h.elim | exact f _ _ h
theorem mo_repr : MonC cRepr := fun us S Q Q' f h => by
  unfold cRepr at h ⊢
  repeat' split at h
  all_goals first | exact h.elim | exact ⟨h.1, f _ _ h.2⟩
theorem mo_ckw (hr : MonCK rk) (ha : MonA ua) (hb : MonA ub) : MonE (cCKw rk ua ub) := fun ws S Q Q' f h => ha _ _ _ _ (fun us S1 h1 => hb _ _ _ _ (fun zs S2 h2 => hr _ _ _ _ _ f h2) h1) h
theorem mo_append : MonM cAppend := fun o us S Q Q' f h => by
  unfold cAppend at h ⊢
  split at h
  · exact ownL_imp (fun xs q => ⟨q.1, f _ _ q.2⟩) h
  · exact h.elim
theorem mo_extend : MonM cExtend := fun o us S Q Q' f h => by
  unfold cExtend at h ⊢
  split at h
  · refine ownL_imp (fun xs q => ?_) h
    split at q
    · exact ⟨q.1, f _ _ q.2⟩
    · exact q.elim
  · exact h.elim
theorem mo_popAt : MonM cPopAt := fun o us S Q Q' f h => by
  unfold cPopAt at h ⊢
  split at h
  · refine ownL_imp (fun xs q => ⟨q.1, ?_⟩) h
    have q2 := q.2
    split at q2
    · split at q2
      · exact f _ _ q2
      · exact q2.elim
    · exact q2.elim
  · exact h.elim
theorem mo_call (hs : MonSp sp) (ha : MonA ua) : MonE (cCall sp E ua) := fun ws S Q Q' f h => ha _ _ _ _ (fun us S1 q => hs _ _ _ _ _ _ f (fun _ _ z => z) q) h
end
end CL

set_option Elab.async false
set_option linter.all false
set_option maxRecDepth 100000
set_option maxHeartbeats 2000000
/-! CL18: enumerate over a tuple or a list; in, not in -/
namespace CL
open PySem PySem.Spec PyProof.Rows L2
open Sem (wp)

theorem meets_enum1 {v : Value} {o : Obj} {H : Heap → Prop} (B : Begins v o H) :
    Meets (Builtin.«enumerate.__new__» ⟨[.type "enumerate", v], []⟩) (fun _ R s => H s.heap ∧
      R (.ok (.ret (.ref (s.heap.push o).objs.size))) { s with heap := (s.heap.push o).push { cls := .type "enumerate", data := .fields #[.none, .bool false, .ref s.heap.objs.size, rawInt 0, .none, .none] } }) :=
  .of_wp fun prog w A R s h => by
    obtain ⟨hp, gg, d, tk, os⟩ := s; obtain ⟨h1, h⟩ := h
    have hsub := sub_enumerate
    have q1 : ∀ {A' : Around} {E : Value → Shared → Prop} {Q : Value → Shared → Prop}, Q (.ref hp.objs.size) ⟨hp.push o, gg, d, tk, os⟩ → wpAny (model prog w) A' (pyIter v) Q E ⟨hp, gg, d, tk, os⟩ :=
      fun q => B.iter prog w _ _ ⟨hp, gg, d, tk, os⟩ _ h1 q
    wp_walk using q1
    refine wpAny_stack_any fun st => wpAny_pure ?_
    split
    · rename_i c _ _ _ _ _
      cases (c == Value.type "enumerate")
      · wp_walk using q1
        exact ⟨_, rfl, h⟩
      · wp_walk using q1
        exact ⟨_, rfl, h⟩
    · wp_walk using q1
      exact ⟨_, rfl, h⟩
section
variable {prog : Program} {w : World} {A : Around} {E : Value → Shared → Prop} {s : Shared}
theorem enum1_begins {v : Value} {o : Obj} {H : Heap → Prop} {Q : Value → Shared → Prop} (B : Begins v o H) (h1 : H s.heap)
    (h : ∀ h', IsEnum h' (s.heap.objs.size + 1) s.heap.objs.size 0 .none → h'.get? s.heap.objs.size = some o → h'.objs.size = s.heap.objs.size + 2 →
      (∀ b o, s.heap.get? b = some o → h'.get? b = some o) → Q (.ref (s.heap.objs.size + 1)) { s with heap := h' }) :
    wpAny (model prog w) A (call (.type "enumerate") [v]) Q E s := by
  refine callType_new F.called_enumerate (by decide) (F.typeCall_enumerate_1 _) (F.newCall_enumerate_1 _) (fun obj => F.args_object_init_2 obj _) F.entry_enumerate_new
    (meets_enum1 B) ⟨h1, ?_⟩
  have hz : (s.heap.push o).objs.size = s.heap.objs.size + 1 := Heap.size_push ..
  show _ ∧ _
  rw [hz]
  have he : IsEnum ((s.heap.push o).push { cls := .type "enumerate", data := .fields #[.none, .bool false, .ref s.heap.objs.size, rawInt 0, .none, .none] }) (s.heap.objs.size + 1) s.heap.objs.size 0 .none := by
    have := Heap.get?_push_size (s.heap.push o) (o := { cls := .type "enumerate", data := .fields #[.none, .bool false, .ref s.heap.objs.size, rawInt 0, .none, .none] }) rfl
    rw [hz] at this; exact this
  refine ⟨⟨_, he, rfl⟩, h _ he (Heap.get?_push_of_some _ (Heap.get?_push_size _ B.free)) (by rw [Heap.size_push, hz]) fun b o x => Heap.get?_push_of_some _ (Heap.get?_push_of_some _ x)⟩
end
/-- the tuple at a, each item in a new pair -/
def IteT (K : Fg) (a : Addr) : It :=
  ⟨fun i H => ∃ (xs : List V) (x : V), SqT K H a xs ∧ xs[i]? = some x, fun i H v H' => ∃ T x, v = .ref T ∧ H T = none ∧ H' = upd H T (.tup [.int (i : Nat), x]) ∧ ∀ xs, SqT K H a xs → xs[i]? = some x, fun i H => ∃ xs : List V, SqT K H a xs ∧ xs.length ≤ i⟩
theorem turn_enumT {P : Program} {w : World} {K : Fg} {elts : List Expr} {kk : Nat} {tpos : Pos} (a e it : Addr) :
    Turn P w K (.Tuple elts kk tpos) (IteT K a) [e, it] e (fun i h => (∃ old, IsEnum h e it ((i : Nat) : Int) old) ∧ h.IsTupleIter it a i ∧ e ≠ it ∧ a ≠ it ∧ a ≠ e) where
  mem := by simp
  obj := fun i h st b hb => by
    obtain ⟨⟨old, he⟩, ⟨o, ho, hc, hd⟩, _⟩ := st
    have e' : b = e ∨ b = it := by simpa using hb
    rcases e' with z | z
    · rw [z]; exact ⟨_, he, fun v q => nomatch q⟩
    · rw [z]; exact ⟨o, ho, fun v q => by rw [hd] at q; cases q⟩
  keep := fun i h h' st k => let ⟨⟨old, he⟩, hi, hne⟩ := st; ⟨⟨old, k e (by simp) _ he⟩, hi.at fun o q => k it (by simp) o q, hne⟩
  item := by
    intro X hP hw hK hc i pins s σ H E I hf st hg
    subst hP hw hK
    obtain ⟨⟨old, he⟩, hit, hne, ha1, ha2⟩ := st
    obtain ⟨xs, x, hq, hx⟩ := hg
    obtain ⟨its, rv, p, hz⟩ := I.tuple hq
    obtain ⟨u, hu, ru⟩ := rv.get hx
    have hel : e < s.heap.objs.size := Heap.lt_size he
    have hil : it < s.heap.objs.size := by obtain ⟨_, q, _⟩ := hit; exact Heap.lt_size q
    have D : Draws X.prog X.w X.A.in1 it [it, a] its.toArray.size (fun i v => its.toArray[i]? = some v) (fun i h => h.IsTupleIter it a i ∧ h.IsTuple a its.toArray) := Draws.tuple (show X.A.in1.handled = none from I.ok.hd hc) it a ha1 its.toArray
    have hlt : i < its.toArray.size := by
      rw [List.size_toArray]
      exact (List.getElem?_eq_some_iff.mp hu).1
    refine wpAny_pyNext_enum_itemD D he ⟨hit, p⟩ hlt hne (by simp; exact ⟨hne, fun z => ha2 z.symm⟩) fun v h' tk hv ho hit' hT hsz hk => ?_
    have ev : v = u := by
      rw [List.getElem?_toArray, hu] at hv
      exact (Option.some.inj hv).symm
    subst ev
    refine ⟨_, rfl, wpAny_letOwnedTupleGo_enum (s := { s with heap := h', toks := tk + 1 }) ho fun h'' he' sb => ?_⟩
    have hT2 : h''.get? s.heap.objs.size = some { cls := .type "tuple", data := .seq #[.int i tk, v] } := (sb.2 _ (Nat.ne_of_gt hel)).trans hT
    have new : ObjOk X.prog X.w (upd H s.heap.objs.size (.tup [.int (i : Nat), x])) h'' s.heap.objs.size (.tup [.int (i : Nat), x]) :=
      ⟨by show 2 ≤ sizeLine; decide, [.int i tk, v], .cons ⟨_, rfl⟩ (.cons ru .nil), ⟨_, hT2, rfl, _, rfl⟩⟩
    have I1 : Inv X pins σ (upd H s.heap.objs.size (.tup [.int (i : Nat), x])) { s with heap := h'', toks := tk + 1 } :=
      I.turnedNew (ch := [e, it]) (fun b ob hb q => (sb.2 b (fun z => hb (by simp [z]))).trans (hk b ob (fun z => hb (by simp [z])) (fun z => hb (by simp [z])) q)) hf (Nat.le_refl _) new
    refine ⟨.ref s.heap.objs.size, _, I1, rfl, ⟨_, x, rfl, I.hok.fresh (Nat.le_refl _), rfl, fun ys hy => by rw [I.tuple_inj hy hq]; exact hx⟩, ⟨⟨v, ?_⟩, hit'.1.at fun o q => (sb.2 it (Ne.symm hne)).trans q, hne, ha1, ha2⟩, fun b hb => ?_⟩
    · have e1 : ((i + 1 : Nat) : Int) = (i : Int) + 1 := by omega
      rw [e1]; exact he'
    · have hb' : b < s.heap.objs.size := by
        have e' : b = e ∨ b = it := by simpa using hb
        rcases e' with z | z
        · rw [z]; exact hel
        · rw [z]; exact hil
      rw [upd_ne (Nat.ne_of_lt hb')]
      exact (hf b hb).1
  done := by
    intro X hP hw hK hc i pins s σ H E I hf st hg
    subst hP hw hK
    obtain ⟨⟨old, he⟩, hit, hne, ha1, ha2⟩ := st
    obtain ⟨xs, hq, hx⟩ := hg
    obtain ⟨its, rv, p, hz⟩ := I.tuple hq
    obtain ⟨f0, f1, f2, f3, f4, f5⟩ := hf it (by simp)
    have hl := rv.length
    have D : Draws X.prog X.w X.A.in1 it [it, a] i (fun _ _ => True) (fun j h => (h.IsTupleIter it a j ∧ h.IsTuple a its.toArray) ∧ j = i) :=
      ⟨fun _ _ st => let ⟨o, ho, _⟩ := st.1.1; ⟨o, ho⟩, fun _ _ _ st hk => ⟨⟨st.1.1.at fun o e => hk it (by simp) o e, st.1.2.at fun o e => hk a (by simp) o e⟩, st.2⟩, fun j s Q E hj st hQ => absurd st.2 (Nat.ne_of_lt hj),
        fun s Q E st hE => wpAny_nextOf_tuple_end (show X.A.in1.handled = none from I.ok.hd hc) st.1.1 st.1.2 (by simp; omega) hE⟩
    exact wpAny_pyNext_enum_endD D he ⟨⟨hit, p⟩, rfl⟩ fun h' eb => ⟨rfl, I.turned (t' := s.toks) (fun b o hb q => eb b o hb q) f0 f1 f3 f4 f5⟩
  self := fun A i s Q E st h => let ⟨⟨_, he⟩, _⟩ := st; wpAny_pyIter_enum he h

/-- enumerate(x), x a list or a tuple: the pairs -/
def pairsFrom : Nat → List Cv → List Cv
  | _, [] => []
  | i, x :: r => .tup [.int (i : Nat), x] :: pairsFrom (i + 1) r
theorem pairsFrom_length : ∀ (i : Nat) (xs : List Cv), (pairsFrom i xs).length = xs.length
  | _, [] => rfl
  | i, x :: r => by rw [pairsFrom, List.length_cons, pairsFrom_length (i + 1) r, List.length_cons]
theorem pairsFrom_get : ∀ (i k : Nat) (xs : List Cv), (pairsFrom i xs)[k]? = (xs[k]?).map fun x => .tup [.int ((i + k : Nat) : Int), x]
  | _, _, [] => rfl
  | i, 0, x :: r => rfl
  | i, k + 1, x :: r => by
    rw [pairsFrom, List.getElem?_cons_succ, List.getElem?_cons_succ, pairsFrom_get (i + 1) k r]
    rw [show i + 1 + k = i + (k + 1) by omega]
def cEnumI (ta : CA) : CI := fun ws S Q => ta ws S fun us S1 => match us with
  | [.tup xs] => Q (pairsFrom 0 xs) (fun _ => True) S1
  | [.lst xs] => Q (pairsFrom 0 xs) (fun _ => True) S1
  | [.ref a] => ownL S1 a fun xs => Q (pairsFrom 0 xs) (fun S => S a = some (.lst xs)) S1
  | _ => False
section
variable {K : Fg} {Z Z' : List Addr} {S S' : Sto} {H H' : Hp}
theorem pair_ok (ok : StOk K Z S H) {T : Addr} (hT : H T = none) {i : Nat} {x : V} {w : Cv} (r : Rep K Z S H w x) : Fr S H S (upd H T (.tup [.int (i : Nat), x])) ∧ StOk K Z S (upd H T (.tup [.int (i : Nat), x])) ∧ Rep K Z S (upd H T (.tup [.int (i : Nat), x])) (.tup [.int (i : Nat), w]) (.ref T) :=
  ⟨Fr.new hT, ok.new hT, .tup (.inl upd_same) (ok.free hT) (.cons (.int _) (.cons (r.fr (Fr.new hT)) .nil))⟩
theorem walk_enumL {a : Addr} {vs : List V} {ws : List Cv} (sq : ∀ S1 H1, FrZ Z S H S1 H1 → SqL K H1 a vs) (ok : StOk K Z S H) (r : Reps K Z S H ws vs) : WalkOk K Z (Ite K a) (pairsFrom 0 ws) (fun _ => True) S H := by
  intro Z' S1 H1 _ hz f ok1 _ i
  have sq := sq S1 H1 f
  have r1 := r.frz ok f hz
  rw [pairsFrom_length]
  refine ⟨fun hi => ?_, fun hi => ⟨vs, sq, by rw [← r.length]; exact hi⟩⟩
  obtain ⟨v, hv, _⟩ := r1.get (List.getElem?_eq_getElem hi)
  refine ⟨⟨vs, v, sq, hv⟩, fun x H' hy => ?_⟩
  obtain ⟨T, y, rfl, hT, rfl, hx⟩ := hy
  obtain ⟨w, hw, rw'⟩ := r1.getV (hx vs sq)
  obtain ⟨h1, h2, h3⟩ := pair_ok ok1 hT (i := i) rw'
  exact ⟨_, by rw [pairsFrom_get, hw, Nat.zero_add]; rfl, h1, h2, h3⟩
theorem walk_enumO {a : Addr} {ws : List Cv} : WalkOk K Z (Ite K a) (pairsFrom 0 ws) (fun S => S a = some (.lst ws)) S H := by
  intro Z' S1 H1 _ hz f ok1 g i
  obtain ⟨vs, e, r1⟩ := ok1.ob a _ g
  have sq : SqL K H1 a vs := .inl (.inl e)
  rw [pairsFrom_length]
  refine ⟨fun hi => ?_, fun hi => ⟨vs, sq, by rw [← r1.length]; exact hi⟩⟩
  obtain ⟨v, hv, _⟩ := r1.get (List.getElem?_eq_getElem hi)
  refine ⟨⟨vs, v, sq, hv⟩, fun x H' hy => ?_⟩
  obtain ⟨T, y, rfl, hT, rfl, hx⟩ := hy
  obtain ⟨w, hw, rw'⟩ := r1.getV (hx vs sq)
  obtain ⟨h1, h2, h3⟩ := pair_ok ok1 hT (i := i) rw'
  exact ⟨_, by rw [pairsFrom_get, hw, Nat.zero_add]; rfl, h1, h2, h3⟩
theorem walk_enumT {a : Addr} {vs : List V} {ws : List Cv} (sq : ∀ S1 H1, FrZ Z S H S1 H1 → SqT K H1 a vs) (ok : StOk K Z S H) (r : Reps K Z S H ws vs) : WalkOk K Z (IteT K a) (pairsFrom 0 ws) (fun _ => True) S H := by
  intro Z' S1 H1 _ hz f ok1 _ i
  have sq := sq S1 H1 f
  have r1 := r.frz ok f hz
  rw [pairsFrom_length]
  refine ⟨fun hi => ?_, fun hi => ⟨vs, sq, by rw [← r.length]; exact hi⟩⟩
  obtain ⟨v, hv, _⟩ := r1.get (List.getElem?_eq_getElem hi)
  refine ⟨⟨vs, v, sq, hv⟩, fun x H' hy => ?_⟩
  obtain ⟨T, y, rfl, hT, rfl, hx⟩ := hy
  obtain ⟨w, hw, rw'⟩ := r1.getV (hx vs sq)
  obtain ⟨h1, h2, h3⟩ := pair_ok ok1 hT (i := i) rw'
  exact ⟨_, by rw [pairsFrom_get, hw, Nat.zero_add]; rfl, h1, h2, h3⟩
end
section
variable {X : Cx} {e : Expr} {p pos tpos : Pos} {elts : List Expr} {kk : Nat}
theorem pi_enum2 {ta : TA} (hg : Gl X "enumerate") (hm : X.mg "enumerate" = none) (ha : PA X [e] ta) (hs : starEach [e] X.env = [(false, eval e X.env)] := by rfl) :
    PI X (.Tuple elts kk tpos) (.Call (.Name "enumerate" p) [e] [] pos) (fun σ H R => ta σ H fun vs H1 => (∃ a xs, vs = [.ref a] ∧ SqL X.K H1 a xs ∧ R (Ite X.K a) H1) ∨ ∃ a xs, vs = [.ref a] ∧ SqT X.K H1 a xs ∧ R (IteT X.K a) H1) := by
  refine ⟨fun pins s σ H R I h => ?_⟩
  refine Call_ (ld_blt I hg hm boot_enumerate (PyProof.Rows.callWith_type1 (thn (ha.run pos pins s σ H _ I h) fun us s1 ⟨vs, H1, I1, r1, q1⟩ => ?_) hs rfl))
  rcases q1 with ⟨a, xs, ex, hq, q⟩ | ⟨a, xs, ex, hq, q⟩
  · subst ex
    cases r1 with
    | cons r rr =>
      cases rr
      cases r
      obtain ⟨its, rv, p', hz⟩ := I1.list hq
      refine call_enumerate_list p'.isList fun h' he hit hsz hk => wpAny_pyIter_enum he ?_
      have I2 : Inv X pins σ H1 { s1 with heap := h' } := I1.kept (t' := s1.toks) hk
      refine ⟨s1.heap.objs.size + 1, [s1.heap.objs.size + 1, s1.heap.objs.size], _, _, H1, rfl, I2, turn_enum a (s1.heap.objs.size + 1) s1.heap.objs.size, ⟨⟨.none, he⟩, hit, Nat.succ_ne_self _⟩, fun b hb => ?_, q⟩
      have e' : b = s1.heap.objs.size + 1 ∨ b = s1.heap.objs.size := by simpa using hb
      have hle : s1.heap.objs.size ≤ b := by
        rcases e' with z | z
        · rw [z]; exact Nat.le_add_right _ _
        · rw [z]; exact Nat.le_refl _
      exact I1.fpOk hle (I1.hok.fresh hle)
  · subst ex
    cases r1 with
    | cons r rr =>
      cases rr
      cases r
      obtain ⟨its, rv, p', hz⟩ := I1.tuple hq
      have hal : a < s1.heap.objs.size := by obtain ⟨_, q, _⟩ := id p'; exact Heap.lt_size q
      refine enum1_begins (begins_tuple a its.toArray) p' fun h' he hit hsz hk => wpAny_pyIter_enum he ?_
      have I2 : Inv X pins σ H1 { s1 with heap := h' } := I1.kept (t' := s1.toks) hk
      refine ⟨s1.heap.objs.size + 1, [s1.heap.objs.size + 1, s1.heap.objs.size], _, _, H1, rfl, I2, turn_enumT a (s1.heap.objs.size + 1) s1.heap.objs.size, ⟨⟨.none, he⟩, ⟨_, hit, rfl, rfl⟩, Nat.succ_ne_self _, Nat.ne_of_lt hal, Nat.ne_of_lt (Nat.lt_succ_of_lt hal)⟩, fun b hb => ?_, q⟩
      have e' : b = s1.heap.objs.size + 1 ∨ b = s1.heap.objs.size := by simpa using hb
      have hle : s1.heap.objs.size ≤ b := by
        rcases e' with z | z
        · rw [z]; exact Nat.le_add_right _ _
        · rw [z]; exact Nat.le_refl _
      exact I1.fpOk hle (I1.hok.fresh hle)
theorem mo_enumI {ta : CA} (h : MonA ta) : MonI (cEnumI ta) := fun ws S Q Q' f q => h _ _ _ _ (fun us S1 q => by
  split at q
  · exact f _ _ _ q
  · exact f _ _ _ q
  · exact ownL_imp (fun xs q => f _ _ _ q) q
  · exact q) q
theorem si_enum {ta : CA} (hg : Gl X "enumerate") (hm : X.mg "enumerate" = none) (ha : SA X [e] ta) (hs : starEach [e] X.env = [(false, eval e X.env)] := by rfl) : SI X (.Tuple elts kk tpos) (.Call (.Name "enumerate" p) [e] [] pos) (cEnumI ta) := by
  refine ⟨mo_enumI ha.mono, (pi_enum2 hg hm ha.ok hs).imp fun σ H R h => ?_⟩
  obtain ⟨Z, S, ws, ok, re, h⟩ := h
  refine liftA_of ha.mono ok re h fun us S1 vs H1 f1 ok1 r1 q1 => ?_
  split at q1
  · rename_i xs
    cases r1 with
    | cons r1 rr =>
      cases rr
      cases r1 with
      | tup hr n rr => exact .inr ⟨_, _, rfl, .inl hr, q1 _ H1 f1 ok1 (walk_enumT (fun S2 H2 f => .inl (Rd.frz ok1 f rfl hr n).1) ok1 rr)⟩
      | tupK hr rr => exact .inr ⟨_, _, rfl, hr H1, q1 _ H1 f1 ok1 (walk_enumT (fun S2 H2 f => hr H2) ok1 rr)⟩
  · rename_i xs
    cases r1 with
    | cons r1 rr =>
      cases rr
      cases r1 with
      | lst hh n z rr => exact .inl ⟨_, _, rfl, .inl (.inl hh), q1 _ H1 f1 ok1 (walk_enumL (fun S2 H2 f => .inl (.inl (f.keep _ _ z hh n).1)) ok1 rr)⟩
  · rename_i a
    cases r1 with
    | cons r1 rr =>
      cases rr
      cases r1
      obtain ⟨xs, e, q1⟩ := ownL_of q1
      obtain ⟨vs, hh, rr⟩ := ok1.ob _ _ e
      exact .inl ⟨_, _, rfl, .inl (.inl hh), q1 _ H1 f1 ok1 walk_enumO⟩
  · exact q1.elim
end
end CL
namespace CL
open PySem PySem.Spec PyProof.Rows L2
/-! ### in, not in: flat values -/
def flatC : Cv → Bool
  | .non | .bl _ | .int _ | .str _ => true
  | _ => false
theorem rep_flat {K : Fg} {Z : List Addr} {S : Sto} {H : Hp} {w : Cv} {v : V} (r : Rep K Z S H w v) (f : flatC w = true) : flatV v = true := by
  cases r <;> first | rfl | (simp [flatC] at f)
theorem reps_flat {K : Fg} {Z : List Addr} {S : Sto} {H : Hp} : ∀ {ws : List Cv} {vs : List V}, Reps K Z S H ws vs → ws.all flatC = true → vs.all flatV = true
  | _, _, .nil, _ => rfl
  | _, _, .cons a r, f => by
    rw [List.all_cons, Bool.and_eq_true] at f ⊢
    exact ⟨rep_flat a f.1, reps_flat r f.2⟩
theorem rep_eqV {K : Fg} {Z : List Addr} {S : Sto} {H : Hp} {w u : Cv} {v x : V} (r : Rep K Z S H w v) (q : Rep K Z S H u x) (f : flatC w = true) (g : flatC u = true) : eqV v x = ceq w u := by
  cases r <;> first | (simp [flatC] at f; done) | (cases q <;> first | (simp [flatC] at g; done) | rfl)
theorem reps_inV {K : Fg} {Z : List Addr} {S : Sto} {H : Hp} {u : Cv} {x : V} (q : Rep K Z S H u x) (g : flatC u = true) : ∀ {ws : List Cv} {vs : List V}, Reps K Z S H ws vs → ws.all flatC = true → inV x vs = ws.any fun y => ceq y u
  | _, _, .nil, _ => rfl
  | _, _, .cons a r, f => by
    rw [List.all_cons, Bool.and_eq_true] at f
    have := reps_inV q g r f.2
    unfold inV at this ⊢
    rw [List.any_cons, List.any_cons, this, rep_eqV a q f.1 g]
def cInB (ng : Bool) : C2 := fun a b S Q => match deref b S with
  | some b => (match seqOf b with
    | some xs => (flatC a = true ∧ xs.all flatC = true) ∧ Q (.bl (if ng = true then !(xs.any fun y => ceq y a) else xs.any fun y => ceq y a)) S
    | none => False)
  | none => False
abbrev cIn : C2 := cInB false
abbrev cNotIn : C2 := cInB true
theorem cInB_mono {ng : Bool} : Mon2 (cInB ng) := fun a b S Q Q' f h => by
  unfold cInB at h ⊢
  split at h
  · split at h
    · exact ⟨h.1, f _ _ h.2⟩
    · exact h
  · exact h
section
variable {X : Cx}
theorem in_ok {f : Value → Value → Sem Value} {ng : Bool} (h1 : OpR X f (rIn X.K ng)) : S2 X f (cInB ng) := by
  refine ⟨fun a b S Q Q' f h => ?_, fun pins s σ H x y v u Q I rx ry q => ?_⟩
  · unfold cInB at h ⊢
    split at h
    · split at h
      · exact ⟨h.1, f _ _ h.2⟩
      · exact h
    · exact h
  · obtain ⟨Z, S, a, b, ok, ra, rb, q⟩ := q
    unfold cInB at q
    split at q
    · rename_i b' eb
      split at q
      · rename_i xs ex
        obtain ⟨p, vs, rfl, hs, rr⟩ := (deref_ok ok rb eb).seq ex
        refine h1 pins s σ H _ _ v u Q I rx ry ⟨p, vs, rfl, hs, rep_flat ra q.1.1, reps_flat rr q.1.2, ?_⟩
        rw [reps_inV ra q.1.1 rr q.1.2]
        exact q.2 _ H (Fr.refl S H) ok (.bl _)
      · exact q.elim
    · exact q.elim
theorem o_in : S2 X (compareOp .In) cIn := in_ok op_in_seq
theorem o_notIn : S2 X (compareOp .NotIn) cNotIn := in_ok op_notIn_seq
end
section
variable {S : Sto} {a : Cv} {xs : List Cv} {ng : Bool} {Q : Cv → Sto → Prop} {ws : CL.Env} {ua : CA}
theorem x_inL (h1 : flatC a = true) (h2 : xs.all flatC = true) (h : Q (.bl (if ng = true then !(xs.any fun y => ceq y a) else xs.any fun y => ceq y a)) S) : cInB ng a (.lst xs) S Q := ⟨⟨h1, h2⟩, h⟩
theorem x_inT (h1 : flatC a = true) (h2 : xs.all flatC = true) (h : Q (.bl (if ng = true then !(xs.any fun y => ceq y a) else xs.any fun y => ceq y a)) S) : cInB ng a (.tup xs) S Q := ⟨⟨h1, h2⟩, h⟩
def kEnum (Q : List Cv → (Sto → Prop) → Sto → Prop) : List Cv → Sto → Prop := fun us S1 => match us with
  | [.tup xs] => Q (pairsFrom 0 xs) (fun _ => True) S1
  | [.lst xs] => Q (pairsFrom 0 xs) (fun _ => True) S1
  | [.ref a] => ownL S1 a fun xs => Q (pairsFrom 0 xs) (fun S => S a = some (.lst xs)) S1
  | _ => False
theorem x_enumI {Q} (h : ua ws S (kEnum Q)) : cEnumI ua ws S Q := h
theorem x_kEnumT {Q : List Cv → (Sto → Prop) → Sto → Prop} (h : Q (pairsFrom 0 xs) (fun _ => True) S) : kEnum Q [.tup xs] S := h
theorem x_kEnumL {Q : List Cv → (Sto → Prop) → Sto → Prop} (h : Q (pairsFrom 0 xs) (fun _ => True) S) : kEnum Q [.lst xs] S := h
theorem x_notV {te : CE} {Q} (h : te ws S (kB fun b S1 => Q (.bl (!b)) S1)) : cNotV te ws S Q := by
  have e : (kB fun b S1 => Q (.bl (!b)) S1) = fun w S1 => match w with | .bl b => Q (.bl (!b)) S1 | _ => False := rfl
  rw [e] at h; exact h
theorem mo_notV {te : CE} (h : MonE te) : MonE (cNotV te) := fun ws S Q Q' f q => h _ _ _ _ (fun w S1 h1 => by
  cases w with
  | bl b => exact f _ _ h1
  | _ => exact h1) q
end
end CL

set_option Elab.async false
set_option linter.all false
set_option maxRecDepth 100000
set_option maxHeartbeats 1000000
/-! CL19: slices -/
namespace CL
open PySem PySem.Spec PyProof.Rows L2
abbrev CO := CL.Env → Sto → (Option Int → Sto → Prop) → Prop
def MonO (t : CO) : Prop := ∀ ws S (Q Q' : Option Int → Sto → Prop), (∀ o S', Q o S' → Q' o S') → t ws S Q → t ws S Q'
def liftO (K : Fg) (t : CO) : TO := fun σ H Q => ∃ Z S ws, StOk K Z S H ∧ RepSt K Z S H σ ws ∧ t ws S fun o S' => ∀ H', Fr S H S' H' → StOk K Z S' H' → Q o H'
structure SO (X : Cx) (e : Option Expr) (t : CO) : Prop where
  mono : MonO t
  ok : PO X e (liftO X.K t)
theorem _root_.L2.PO.imp {X : Cx} {e : Option Expr} {t t' : TO} (h : PO X e t) (f : ∀ σ H Q, t' σ H Q → t σ H Q) : PO X e t' := ⟨fun pins s σ H Q I q => h.run pins s σ H Q I (f σ H Q q)⟩
def cNoPart : CO := fun _ S Q => Q none S
def cPart (t : CE) : CO := fun ws S Q => t ws S fun w S1 => match w with | .int i => Q (some i) S1 | _ => False
theorem mo_noPart : MonO cNoPart := fun _ _ _ _ f h => f _ _ h
theorem mo_part {t : CE} (h : MonE t) : MonO (cPart t) := fun ws S Q Q' f q => h _ _ _ _ (fun w S1 q1 => by
  cases w with
  | int i => exact f _ _ q1
  | _ => exact q1) q
section
variable {X : Cx} {e : Expr} {te : CE} {lo hi : Option Expr} {tl th : CO} {pos p2 : Pos}
theorem so_none : SO X none cNoPart := ⟨mo_noPart, po_none.imp fun σ H Q h => by
  obtain ⟨Z, S, ws, ok, re, h⟩ := h
  exact h H (Fr.refl S H) ok⟩
theorem so_some (he : SE X e te) : SO X (some e) (cPart te) := ⟨mo_part he.mono, (po_some he.ok).imp fun σ H Q h => by
  obtain ⟨Z, S, ws, ok, re, h⟩ := h
  refine liftE_of he.mono ok re h fun w S1 v H1 f1 ok1 r1 q1 => ?_
  cases w with
  | int i => cases r1; exact ⟨i, rfl, q1 H1 f1 ok1⟩
  | _ => exact q1.elim⟩
/-- the items of xs[lo:hi] -/
def cutC (xs : List Cv) (lo hi : Option Int) : List Cv := (xs.drop (HT.sIx xs.length 0 lo)).take (HT.sIx xs.length xs.length hi - HT.sIx xs.length 0 lo)
theorem reps_cut {K : Fg} {Z : List Addr} {S : Sto} {H : Hp} {ws : List Cv} {vs : List V} (r : Reps K Z S H ws vs) (lo hi : Option Int) : Reps K Z S H (cutC ws lo hi) (cutV vs lo hi) := by
  unfold cutC cutV
  rw [r.length]
  exact (r.drop _).take _
abbrev CSl := Cv → Option Int → Option Int → Sto → (Cv → Sto → Prop) → Prop
def cCut : CSl := fun a lo hi S Q => match a with
  | .str z => z.length ≤ sizeLine ∧ Q (.str (cutS z lo hi)) S
  | .tup xs => Q (.tup (cutC xs lo hi)) S
  | .lst xs => Q (.lst (cutC xs lo hi)) S
  | .ref p => ownL S p fun xs => Q (.lst (cutC xs lo hi)) S
  | _ => False
def MonSl (r : CSl) : Prop := ∀ a lo hi S (Q Q' : Cv → Sto → Prop), (∀ w S', Q w S' → Q' w S') → r a lo hi S Q → r a lo hi S Q'
theorem cCut_mono : MonSl cCut := fun a lo hi S Q Q' f h => by
  unfold cCut at h ⊢
  split at h
  · exact ⟨h.1, f _ _ h.2⟩
  · exact f _ _ h
  · exact f _ _ h
  · exact ownL_imp (fun xs q => f _ _ q) h
  · exact h
def cSl (r : CSl) (te : CE) (tl th : CO) : CE := fun ws S Q => te ws S fun x S1 => tl ws S1 fun l S2 => th ws S2 fun u S3 => r x l u S3 Q
theorem mo_sl {r : CSl} (hr : MonSl r) (he : MonE te) (hl : MonO tl) (hu : MonO th) : MonE (cSl r te tl th) := fun ws S Q Q' f h => he _ _ _ _ (fun x S1 q1 => hl _ _ _ _ (fun l S2 q2 => hu _ _ _ _ (fun u S3 q3 => hr _ _ _ _ _ _ f q3) q2) q1) h
theorem liftO_of {K : Fg} {t : CO} (m : MonO t) {Z : List Addr} {S : Sto} {H : Hp} {σ : L2.St} {ws : CL.Env} {Q : Option Int → Hp → Prop} {R : Option Int → Sto → Prop} (ok : StOk K Z S H) (re : RepSt K Z S H σ ws) (h : t ws S R)
    (q : ∀ o S' H', Fr S H S' H' → StOk K Z S' H' → R o S' → Q o H') : liftO K t σ H Q := ⟨Z, S, ws, ok, re, m _ _ _ _ (fun o S' r H' f ok' => q o S' H' f ok' r) h⟩
theorem cut_whole {xs : List Cv} {lo hi : Option Int} (h : HT.sIx xs.length 0 lo = 0 ∧ HT.sIx xs.length xs.length hi = xs.length) : cutC xs lo hi = xs := by
  unfold cutC
  rw [h.1, h.2]; simp
theorem cCut_ok : SlR X (fun x lo hi H Q => ∃ Z S a, StOk X.K Z S H ∧ Rep X.K Z S H a x ∧ cCut a lo hi S fun w S' => ∀ v H', Fr S H S' H' → StOk X.K Z S' H' → Rep X.K Z S' H' w v → Q v H') := by
  intro pins s σ H x v vl vu lo hi sl Q I rx hs pl pu h
  obtain ⟨Z, S, a, ok, ra, q⟩ := h
  unfold cCut at q
  have tup : ∀ {p : Addr} {vs : List V} {xs : List Cv}, x = .ref p → SqT X.K H p vs → Rep X.K Z S H (.tup xs) (.ref p) → Reps X.K Z S H xs vs → (∀ v H', Fr S H S H' → StOk X.K Z S H' → Rep X.K Z S H' (.tup (cutC xs lo hi)) v → Q v H') →
      ∃ T id, typeLookup (.type T) "__getitem__" = pure (some (.builtin id)) ∧ s.TypeIs v T ∧ wpAny (model X.prog X.w) X.A (getItem v (.ref sl)) (EP X pins σ Q) X.xe s := by
    rintro p vs xs rfl hT rT rr q
    refine sl_tupA pins s σ H _ v vl vu lo hi sl Q I rx hs pl pu ⟨p, vs, rfl, hT, fun hw => ?_, fun hw p' hp => ?_⟩
    · rw [← rr.length] at hw
      refine q _ H (Fr.refl S H) ok ?_
      rw [cut_whole hw]; exact rT
    · exact q _ _ (Fr.new hp) (ok.new hp) (.tup (.inl upd_same) (ok.free hp) ((reps_cut rr lo hi).fr (Fr.new hp)))
  have lst : ∀ {p : Addr} {vs : List V} {xs : List Cv}, x = .ref p → SqL X.K H p vs → Reps X.K Z S H xs vs → (∀ v H', Fr S H S H' → StOk X.K Z S H' → Rep X.K Z S H' (.lst (cutC xs lo hi)) v → Q v H') →
      ∃ T id, typeLookup (.type T) "__getitem__" = pure (some (.builtin id)) ∧ s.TypeIs v T ∧ wpAny (model X.prog X.w) X.A (getItem v (.ref sl)) (EP X pins σ Q) X.xe s := by
    rintro p vs xs rfl hL rr q
    exact sl_list pins s σ H _ v vl vu lo hi sl Q I rx hs pl pu ⟨p, vs, rfl, hL, fun p' hp => q _ _ (Fr.new hp) (ok.new hp) (.lst upd_same (ok.free hp) (ok.notZ hp) ((reps_cut rr lo hi).fr (Fr.new hp)))⟩
  split at q
  · cases ra
    exact sl_str pins s σ H _ v vl vu lo hi sl Q I rx hs pl pu ⟨_, rfl, q.1, q.2 _ H (Fr.refl S H) ok (.str _)⟩
  · cases ra with
    | tup hr n rr => exact tup rfl (.inl hr) (.tup hr n rr) rr (fun v H' => q v H')
    | tupK hr rr => exact tup rfl (hr H) (.tupK hr rr) rr (fun v H' => q v H')
  · cases ra with
    | lst hh n z rr => exact lst rfl (.inl (.inl hh)) rr (fun v H' => q v H')
  · cases ra
    obtain ⟨xs, e, q⟩ := ownL_of q
    obtain ⟨vs, hh, rr⟩ := ok.ob _ _ e
    exact lst rfl (.inl (.inl hh)) rr (fun v H' => q v H')
  · exact q.elim
/-- e[lo:hi] -/
theorem s_slice (he : SE X e te) (hl : SO X lo tl) (hu : SO X hi th) : SE X (.Subscript e (.Slice lo hi none p2) pos) (cSl cCut te tl th) :=
  ⟨mo_sl cCut_mono he.mono hl.mono hu.mono, (pe_slice cCut_ok he.ok hl.ok hu.ok).imp fun σ H Q h => by
    obtain ⟨Z, S, ws, ok, re, h⟩ := h
    refine liftE_of he.mono ok re h fun x S1 v1 H1 f1 ok1 r1 q1 => ?_
    refine liftO_of hl.mono ok1 (re.fr f1) q1 fun l S2 H2 f2 ok2 q2 => ?_
    refine liftO_of hu.mono ok2 ((re.fr f1).fr f2) q2 fun u S3 H3 f3 ok3 q3 => ?_
    exact ⟨Z, S3, x, ok3, (r1.fr f2).fr f3, cCut_mono _ _ _ _ _ _ (fun w S' g v H' a b c => g v H' (((f1.trans f2).trans f3).trans a) b c) q3⟩⟩
end
section
variable {S : Sto} {ws : CL.Env} {te : CE} {tl th : CO} {xs : List Cv} {lo hi : Option Int} {i : Int} {Q : Cv → Sto → Prop} {p : Addr}
theorem x_slice (h : te ws S fun x S1 => tl ws S1 fun l S2 => th ws S2 fun u S3 => cCut x l u S3 Q) : cSl cCut te tl th ws S Q := h
theorem x_noPart {Q : Option Int → Sto → Prop} (h : Q none S) : cNoPart ws S Q := h
def kPart (Q : Option Int → Sto → Prop) : Cv → Sto → Prop := fun w S1 => match w with | .int i => Q (some i) S1 | _ => False
theorem x_part {Q} (h : te ws S (kPart Q)) : cPart te ws S Q := h
theorem x_kPart {Q : Option Int → Sto → Prop} (h : Q (some i) S) : kPart Q (.int i) S := h
theorem x_cutT (h : Q (.tup (cutC xs lo hi)) S) : cCut (.tup xs) lo hi S Q := h
theorem x_cutL (h : Q (.lst (cutC xs lo hi)) S) : cCut (.lst xs) lo hi S Q := h
theorem x_cutR (e : S p = some (.lst xs)) (h : Q (.lst (cutC xs lo hi)) S) : cCut (.ref p) lo hi S Q := ownL_to e h
end
end CL

set_option Elab.async false
set_option linter.all false
set_option maxRecDepth 100000
set_option maxHeartbeats 1000000
/-! CL20: a list times an int; list(x) -/
namespace CL
open PySem PySem.Spec PyProof.Rows L2
section
variable {X : Cx}
/-- list(x), a new list that nobody writes -/
def cListOf : CC := fun us S Q => match us with
  | [w] => (match deref w S with | some w => (match seqOf w with | some xs => Q (.lst xs) S | none => False) | none => False)
  | _ => False
theorem mo_listOf : MonC cListOf := fun us S Q Q' f h => by
  unfold cListOf at h ⊢
  repeat' split at h
  all_goals first | exact h.elim | exact f _ _ h
theorem b_list : SC X (.type "list") cListOf := sc_of mo_listOf fun pins s σ H xs us Q Z S ws I rv ok re q => by
  unfold cListOf at q
  split at q
  · cases re with
    | cons a b =>
      cases b
      split at q
      · rename_i w ew
        split at q
        · rename_i ys ey
          obtain ⟨p, vs, rfl, hs, rr⟩ := (deref_ok ok a ew).seq ey
          exact call_list_of pins s σ H _ us Q I rv ⟨p, vs, rfl, hs, fun l hl => q _ _ (Fr.new hl) (ok.new hl) (.lst upd_same (ok.free hl) (ok.notZ hl) (rr.fr (Fr.new hl)))⟩
        · exact q.elim
      · exact q.elim
  · exact q.elim
theorem x_listL {S : Sto} {xs : List Cv} {Q : Cv → Sto → Prop} (h : Q (.lst xs) S) : cListOf [.lst xs] S Q := h
theorem x_listT {S : Sto} {xs : List Cv} {Q : Cv → Sto → Prop} (h : Q (.lst xs) S) : cListOf [.tup xs] S Q := h
end
end CL
namespace CL
open PySem PySem.Spec PyProof.Rows L2
section
variable {X : Cx}
/-- a list (not a tuple) times an int -/
def cRepL : C2 := fun a b S Q => match b with
  | .int k => (match deref a S with
    | some (.lst xs) => (-(2 ^ 63) ≤ k ∧ k < 2 ^ 63 ∧ xs.length * k.toNat ≤ sizeLine) ∧ Q (.lst (List.replicate k.toNat xs).flatten) S
    | _ => False)
  | _ => False
theorem cRepL_mono : Mon2 cRepL := fun a b S Q Q' f h => by
  unfold cRepL at h ⊢
  split at h
  · split at h
    · exact ⟨h.1, f _ _ h.2⟩
    · exact h
  · exact h
theorem reps_rep {K : Fg} {Z : List Addr} {S : Sto} {H : Hp} {ws : List Cv} {vs : List V} (r : Reps K Z S H ws vs) : ∀ n : Nat, Reps K Z S H (List.replicate n ws).flatten (List.replicate n vs).flatten
  | 0 => .nil
  | n + 1 => by rw [List.replicate_succ, List.replicate_succ, List.flatten_cons, List.flatten_cons]; exact r.app (reps_rep r n)
theorem o_repL : S2 X (binaryOp .Mult) cRepL := ⟨cRepL_mono, fun pins s σ H x y v u Q I rx ry q => by
  obtain ⟨Z, S, a, b, ok, ra, rb, q⟩ := q
  unfold cRepL at q
  split at q
  · rename_i k
    cases rb
    split at q
    · rename_i xs ea
      obtain ⟨p, vs, rfl, hh, rr⟩ := RepD.lstH (deref_ok ok ra ea)
      refine op_rep pins s σ H _ _ v u Q I rx ry ⟨p, k, vs, rfl, rfl, hh, q.1.1, q.1.2.1, by rw [← rr.length]; exact q.1.2.2, fun p' hp => ?_⟩
      exact q.2 _ _ (Fr.new hp) (ok.new hp) (.lst upd_same (ok.free hp) (ok.notZ hp) ((reps_rep rr _).fr (Fr.new hp)))
    · exact q.elim
  · exact q.elim⟩
end
end CL

set_option Elab.async false
set_option linter.all false
set_option maxRecDepth 100000
set_option maxHeartbeats 1000000
/-! ML1: readings that compute: from slots to an answer -/
namespace CL
open PySem PySem.Spec PyProof.Rows L2

/-- a slot: nothing, a value, an object of the def's own -/
inductive Sl where
  | no | pl (v : Cv) | ow (v : Cv)
abbrev MEnv := List Sl
abbrev ME := MEnv → Option Cv
abbrev MT := MEnv → Option Bool
abbrev MA := MEnv → Option (List Cv)
abbrev MG := Cv → MEnv → Option MEnv
abbrev MGs := List Cv → MEnv → Option MEnv
abbrev MO := MEnv → Option (Option Int)
inductive Rz where
  | nx (gs : MEnv) | rt (v : Cv) | bk (gs : MEnv) | ct (gs : MEnv)
abbrev MS := MEnv → Option Rz
def obv : Ob → Option Cv
  | .lst xs => some (.lst xs)
  | .dK xs => some (.dK xs)
  | .dT xs => some (.dT xs)
  | .ins _ _ _ => none
structure View (S0 S : Sto) (gs : MEnv) (ws : CL.Env) : Prop where
  len : ws.length = gs.length
  pl : ∀ (i : Nat) (v : Cv), gs[i]? = some (.pl v) → ws[i]? = some (some v)
  ow : ∀ (i : Nat) (v : Cv), gs[i]? = some (.ow v) → ∃ p o, ws[i]? = some (some (.ref p)) ∧ S p = some o ∧ obv o = some v ∧ S0 p = none
  dj : ∀ (i j : Nat) (u v : Cv) (p : Addr), i ≠ j → gs[i]? = some (.ow u) → gs[j]? = some (.ow v) → ws[i]? = some (some (.ref p)) → ws[j]? = some (some (.ref p)) → False
  base : ∀ a o, S0 a = some o → S a = some o
theorem View.upd {S0 S : Sto} {gs gs' : MEnv} {ws ws' : CL.Env} (h : View S0 S gs ws) (hl : ws'.length = gs'.length)
    (hh : ∀ (i : Nat) (s : Sl), gs'[i]? = some s → s = .no ∨ (∃ v, s = .pl v ∧ ws'[i]? = some (some v)) ∨ (gs[i]? = some s ∧ ws'[i]? = ws[i]?)) : View S0 S gs' ws' where
  len := hl
  pl := fun i v e => by
    rcases hh i _ e with z | ⟨u, z, y⟩ | ⟨z, y⟩
    · cases z
    · cases z; exact y
    · rw [y]; exact h.pl i v z
  ow := fun i v e => by
    rcases hh i _ e with z | ⟨u, z, y⟩ | ⟨z, y⟩
    · cases z
    · cases z
    · rw [y]; exact h.ow i v z
  dj := fun i j u v p n e1 e2 a b => by
    rcases hh i _ e1 with z | ⟨u, z, y⟩ | ⟨z, y⟩
    · cases z
    · cases z
    · rcases hh j _ e2 with z' | ⟨u', z', y'⟩ | ⟨z', y'⟩
      · cases z'
      · cases z'
      · exact h.dj i j u v p n z z' (by rw [← y]; exact a) (by rw [← y']; exact b)
  base := h.base
theorem View.set {S0 S : Sto} {gs : MEnv} {ws : CL.Env} (h : View S0 S gs ws) (i : Nat) (v : Cv) : View S0 S (gs.set i (.pl v)) (ws.set i (some v)) := by
  refine h.upd (by simp [h.len]) fun j s e => ?_
  by_cases q : i = j
  · subst q
    have hi : i < gs.length := by
      have := (List.getElem?_eq_some_iff.mp e).1
      simpa using this
    rw [List.getElem?_set_self hi] at e
    cases e
    exact .inr (.inl ⟨v, rfl, by rw [List.getElem?_set_self (by rw [h.len]; exact hi)]⟩)
  · rw [List.getElem?_set_ne q] at e
    exact .inr (.inr ⟨e, List.getElem?_set_ne q⟩)
theorem View.no {S0 S : Sto} {gs : MEnv} {ws : CL.Env} (h : View S0 S gs ws) (i : Nat) (o : Option Cv) : View S0 S (gs.set i .no) (ws.set i o) := by
  refine h.upd (by simp [h.len]) fun j s e => ?_
  by_cases q : i = j
  · subst q
    have hi : i < gs.length := by
      have := (List.getElem?_eq_some_iff.mp e).1
      simpa using this
    rw [List.getElem?_set_self hi] at e
    cases e
    exact .inl rfl
  · rw [List.getElem?_set_ne q] at e
    exact .inr (.inr ⟨e, List.getElem?_set_ne q⟩)
theorem View.no1 {S0 S : Sto} {gs : MEnv} {ws : CL.Env} (h : View S0 S gs ws) (i : Nat) : View S0 S (gs.set i .no) ws := by
  refine h.upd (by simp [h.len]) fun j s e => ?_
  by_cases q : i = j
  · subst q
    have hi : i < gs.length := by
      have := (List.getElem?_eq_some_iff.mp e).1
      simpa using this
    rw [List.getElem?_set_self hi] at e
    cases e
    exact .inl rfl
  · rw [List.getElem?_set_ne q] at e
    exact .inr (.inr ⟨e, rfl⟩)
def mwipe (gs : MEnv) : List Nat → MEnv
  | [] => gs
  | v :: vs => (mwipe gs vs).set v .no
theorem View.wipe {S0 S : Sto} {gs : MEnv} {ws : CL.Env} (h : View S0 S gs ws) : ∀ vs, View S0 S (mwipe gs vs) (cwipe ws vs)
  | [] => h
  | v :: vs => (h.wipe vs).no v none
theorem View.wipe1 {S0 S : Sto} {gs : MEnv} {ws : CL.Env} (h : View S0 S gs ws) : ∀ vs, View S0 S (mwipe gs vs) ws
  | [] => h
  | v :: vs => (h.wipe1 vs).no1 v

/-! ### expressions -/
structure Ev (te : CE) (φ : ME) : Prop where
  mono : MonE te
  ok : ∀ {S0 S gs ws Q v}, View S0 S gs ws → φ gs = some v → Q v S → te ws S Q
structure EvT (te : CT) (φ : MT) : Prop where
  mono : MonT te
  ok : ∀ {S0 S gs ws Q v}, View S0 S gs ws → φ gs = some v → Q v S → te ws S Q
structure EvA (te : CA) (φ : MA) : Prop where
  mono : MonA te
  ok : ∀ {S0 S gs ws Q v}, View S0 S gs ws → φ gs = some v → Q v S → te ws S Q
structure EvO (te : CO) (φ : MO) : Prop where
  mono : MonO te
  ok : ∀ {S0 S gs ws Q v}, View S0 S gs ws → φ gs = some v → Q v S → te ws S Q
structure EvI (te : CI) (φ : MA) : Prop where
  mono : MonI te
  ok : ∀ {S0 S gs ws Q v}, View S0 S gs ws → φ gs = some v → Q v (fun _ => True) S → te ws S Q
structure EvG (g : CG) (γ : MG) : Prop where
  mono : MonG g
  ok : ∀ {S0 S gs ws Q gs' w}, View S0 S gs ws → γ w gs = some gs' → (∀ ws', View S0 S gs' ws' → Q ws' S) → g w ws S Q
structure EvGs (g : CGs) (γ : MGs) : Prop where
  mono : MonGs g
  ok : ∀ {S0 S gs ws Q gs' w}, View S0 S gs ws → γ w gs = some gs' → (∀ ws', View S0 S gs' ws' → Q ws' S) → g w ws S Q
structure E1 (r : C1) (f : Cv → Option Cv) : Prop where
  mono : Mon1 r
  ok : ∀ {a S Q v}, f a = some v → Q v S → r a S Q
structure E2 (r : C2) (f : Cv → Cv → Option Cv) : Prop where
  mono : Mon2 r
  ok : ∀ {a b S Q v}, f a b = some v → Q v S → r a b S Q
structure EC (r : CC) (f : List Cv → Option Cv) : Prop where
  mono : MonC r
  ok : ∀ {us S Q v}, f us = some v → Q v S → r us S Q
structure ECK (r : CCK) (f : List Cv → List Cv → Option Cv) : Prop where
  mono : MonCK r
  ok : ∀ {us zs S Q v}, f us zs = some v → Q v S → r us zs S Q
structure ESl (r : CSl) (f : Cv → Option Int → Option Int → Option Cv) : Prop where
  mono : MonSl r
  ok : ∀ {a l h S Q v}, f a l h = some v → Q v S → r a l h S Q

def mVar (i : Nat) : ME := fun gs => match gs[i]? with | some (.pl v) => some v | _ => none
def mC (v : Cv) : ME := fun _ => some v
def mOp (f : Cv → Cv → Option Cv) (a b : ME) : ME := fun gs => (a gs).bind fun x => (b gs).bind fun y => f x y
def mUn (f : Cv → Option Cv) (a : ME) : ME := fun gs => (a gs).bind f
def fB : Cv → Option Bool
  | .bl b => some b
  | _ => none
def mB (a : ME) : MT := fun gs => (a gs).bind fB
def mAnd (a b : MT) : MT := fun gs => (a gs).bind fun x => if x = true then b gs else some false
def mOr (a b : MT) : MT := fun gs => (a gs).bind fun x => if x = true then some true else b gs
def mNot (a : MT) : MT := fun gs => (a gs).map fun b => !b
def mAndV (a b : ME) : ME := fun gs => ((a gs).bind fB).bind fun x => if x = true then b gs else some (.bl false)
def mOrV (a b : ME) : ME := fun gs => ((a gs).bind fB).bind fun x => if x = true then some (.bl true) else b gs
def mNotV (a : ME) : ME := fun gs => ((a gs).bind fB).map fun b => .bl (!b)
def mIf (c : MT) (a b : ME) : ME := fun gs => (c gs).bind fun x => if x = true then a gs else b gs
def mChain (f g : Cv → Cv → Option Cv) (a b c : ME) : ME := fun gs => (a gs).bind fun x => (b gs).bind fun y => ((f x y).bind fB).bind fun z => if z = true then (c gs).bind fun u => g y u else some (.bl false)
def mNil : MA := fun _ => some []
def mCons (a : ME) (u : MA) : MA := fun gs => (a gs).bind fun x => (u gs).map fun r => x :: r
abbrev lenOk (n : Nat) : Bool := decide (n ≤ 1000000)
def fTup (r : List Cv) : Option Cv := if lenOk r.length = true then some (.tup r) else none
def fLst (r : List Cv) : Option Cv := if lenOk r.length = true then some (.lst r) else none
def mTup (u : MA) : ME := fun gs => (u gs).bind fTup
def mLst (u : MA) : ME := fun gs => (u gs).bind fLst
def mCB (f : List Cv → Option Cv) (u : MA) : ME := fun gs => (u gs).bind f
def mCKw (f : List Cv → List Cv → Option Cv) (u z : MA) : ME := fun gs => (u gs).bind fun x => (z gs).bind fun y => f x y
def mNoPart : MO := fun _ => some none
def mPart (a : ME) : MO := fun gs => (a gs).bind fun | .int i => some (some i) | _ => none
def mSl (f : Cv → Option Int → Option Int → Option Cv) (a : ME) (l h : MO) : ME := fun gs => (a gs).bind fun x => (l gs).bind fun y => (h gs).bind fun z => f x y z
def mgName (i : Nat) : MG := fun w gs => some (gs.set i (.pl w))
def mgNil : MGs := fun us gs => match us with | [] => some gs | _ => none
def mgCons (g : MG) (gr : MGs) : MGs := fun us gs => match us with | [] => none | w :: r => (g w gs).bind fun gs1 => gr r gs1
def mgTup (n : Nat) (g : MGs) : MG := fun w gs => match w with | .tup us => if us.length = n then g us gs else none | _ => none

theorem bind_some {α β : Type} {x : Option α} {f : α → Option β} {v : β} (h : x.bind f = some v) : ∃ a, x = some a ∧ f a = some v := by
  cases x with
  | none => cases h
  | some a => exact ⟨a, rfl, h⟩
theorem map_some' {α β : Type} {x : Option α} {f : α → β} {v : β} (h : x.map f = some v) : ∃ a, x = some a ∧ f a = v := by
  cases x with
  | none => cases h
  | some a => exact ⟨a, rfl, Option.some.inj h⟩
theorem ite_some {α : Type} {c : Prop} [Decidable c] {x : α} {v : α} (h : (if c then some x else none) = some v) : c ∧ x = v := by
  by_cases q : c
  · rw [if_pos q] at h; exact ⟨q, Option.some.inj h⟩
  · rw [if_neg q] at h; cases h
theorem fB_some {v : Cv} {b : Bool} (h : fB v = some b) : v = .bl b := by
  cases v <;> simp [fB] at h
  subst h; rfl
theorem sz_of {n : Nat} (h : lenOk n = true) : n ≤ sizeLine := Nat.le_trans (of_decide_eq_true h) (by decide)

section
variable {ta tb tc te : CE} {ua ub : CA} {c c' : CT} {a b d : ME} {u z : MA} {x y : MT} {r r' : C2} {f f' : Cv → Cv → Option Cv}
theorem ev_var {i : Nat} : Ev (cVar i) (mVar i) := ⟨mo_var, fun V e q => by
  unfold mVar at e
  split at e
  · rename_i v h
    cases e
    unfold cVar
    rw [V.pl _ _ h]; exact q
  · cases e⟩
theorem ev_c {w : Cv} : Ev (cC w) (mC w) := ⟨mo_c, fun V e q => by cases e; exact q⟩
theorem ev_op (h : E2 r f) (ha : Ev ta a) (hb : Ev tb b) : Ev (cOp r ta tb) (mOp f a b) := ⟨cOp_mono h.mono ha.mono hb.mono, fun V e q => by
  obtain ⟨v1, e1, e⟩ := bind_some e
  obtain ⟨v2, e2, e⟩ := bind_some e
  exact ha.ok V e1 (hb.ok V e2 (h.ok e q))⟩
theorem ev_un {r : C1} {f : Cv → Option Cv} (h : E1 r f) (ha : Ev ta a) : Ev (cUn r ta) (mUn f a) := ⟨mo_un h.mono ha.mono, fun V e q => by
  obtain ⟨v1, e1, e⟩ := bind_some e
  exact ha.ok V e1 (h.ok e q)⟩
theorem et_b (ha : Ev ta a) : EvT (cB ta) (mB a) := ⟨cB_mono ha.mono, fun V e q => by
  obtain ⟨v1, e1, e⟩ := bind_some e
  cases fB_some e
  exact ha.ok V e1 q⟩
theorem et_and (ha : EvT c x) (hb : EvT c' y) : EvT (cAnd c c') (mAnd x y) := ⟨cAnd_mono ha.mono hb.mono, fun V e q => by
  obtain ⟨v1, e1, e⟩ := bind_some e
  refine ha.ok V e1 ?_
  cases v1 with
  | true => rw [if_pos rfl] at e ⊢; exact hb.ok V e q
  | false => rw [if_neg (by decide)] at e ⊢; cases e; exact q⟩
theorem et_or (ha : EvT c x) (hb : EvT c' y) : EvT (cOr c c') (mOr x y) := ⟨cOr_mono ha.mono hb.mono, fun V e q => by
  obtain ⟨v1, e1, e⟩ := bind_some e
  refine ha.ok V e1 ?_
  cases v1 with
  | true => rw [if_pos rfl] at e ⊢; cases e; exact q
  | false => rw [if_neg (by decide)] at e ⊢; exact hb.ok V e q⟩
theorem et_not (ha : EvT c x) : EvT (cNot c) (mNot x) := ⟨mo_not ha.mono, fun V e q => by
  obtain ⟨v1, e1, e⟩ := map_some' e
  subst e
  exact ha.ok V e1 q⟩
theorem ev_andV (ha : Ev ta a) (hb : Ev tb b) : Ev (cAndV ta tb) (mAndV a b) := ⟨mo_andV ha.mono hb.mono, fun V e q => by
  obtain ⟨v1, e1, e⟩ := bind_some e
  obtain ⟨v0, e0, e1⟩ := bind_some e1
  cases fB_some e1
  refine ha.ok V e0 ?_
  cases v1 with
  | true => rw [if_pos rfl] at e; exact hb.ok V e q
  | false => rw [if_neg (by decide)] at e; cases e; exact q⟩
theorem ev_orV (ha : Ev ta a) (hb : Ev tb b) : Ev (cOrV ta tb) (mOrV a b) := ⟨mo_orV ha.mono hb.mono, fun V e q => by
  obtain ⟨v1, e1, e⟩ := bind_some e
  obtain ⟨v0, e0, e1⟩ := bind_some e1
  cases fB_some e1
  refine ha.ok V e0 ?_
  cases v1 with
  | true => rw [if_pos rfl] at e; cases e; exact q
  | false => rw [if_neg (by decide)] at e; exact hb.ok V e q⟩
theorem ev_notV (ha : Ev ta a) : Ev (cNotV ta) (mNotV a) := ⟨mo_notV ha.mono, fun V e q => by
  obtain ⟨v1, e1, e⟩ := map_some' e
  obtain ⟨v0, e0, e1⟩ := bind_some e1
  cases fB_some e1
  subst e
  exact ha.ok V e0 q⟩
theorem ev_if (hc : EvT c x) (ha : Ev ta a) (hb : Ev tb b) : Ev (cIf c ta tb) (mIf x a b) := ⟨mo_if hc.mono ha.mono hb.mono, fun V e q => by
  obtain ⟨v1, e1, e⟩ := bind_some e
  refine hc.ok V e1 ?_
  cases v1 with
  | true => rw [if_pos rfl] at e ⊢; exact ha.ok V e q
  | false => rw [if_neg (by decide)] at e ⊢; exact hb.ok V e q⟩
theorem ev_chain (h : E2 r f) (h' : E2 r' f') (ha : Ev ta a) (hb : Ev tb b) (hc : Ev tc d) : Ev (cChain r r' ta tb tc) (mChain f f' a b d) := ⟨mo_chain h.mono h'.mono ha.mono hb.mono hc.mono, fun V e q => by
  obtain ⟨v1, e1, e⟩ := bind_some e
  obtain ⟨v2, e2, e⟩ := bind_some e
  obtain ⟨k, e3, e⟩ := bind_some e
  obtain ⟨v3, e3, e4⟩ := bind_some e3
  cases fB_some e4
  refine ha.ok V e1 (hb.ok V e2 (h.ok e3 ?_))
  cases k with
  | true =>
    rw [if_pos rfl] at e
    obtain ⟨v4, e4, e⟩ := bind_some e
    exact hc.ok V e4 (h'.ok e q)
  | false => rw [if_neg (by decide)] at e; cases e; exact q⟩
theorem ea_nil : EvA cNil mNil := ⟨mo_nil, fun V e q => by cases e; exact q⟩
theorem ea_cons (ha : Ev ta a) (hu : EvA ua u) : EvA (cCons ta ua) (mCons a u) := ⟨mo_cons ha.mono hu.mono, fun V e q => by
  obtain ⟨v1, e1, e⟩ := bind_some e
  obtain ⟨v2, e2, e⟩ := map_some' e
  subst e
  exact ha.ok V e1 (hu.ok V e2 q)⟩
theorem ev_tup (hu : EvA ua u) : Ev (cTup ua) (mTup u) := ⟨mo_tup hu.mono, fun V e q => by
  obtain ⟨v1, e1, e⟩ := bind_some e
  obtain ⟨h1, e⟩ := ite_some e
  subst e
  exact hu.ok V e1 ⟨sz_of h1, q⟩⟩
theorem ev_lst (hu : EvA ua u) : Ev (cLst ua) (mLst u) := ⟨mo_lst hu.mono, fun V e q => by
  obtain ⟨v1, e1, e⟩ := bind_some e
  obtain ⟨h1, e⟩ := ite_some e
  subst e
  exact hu.ok V e1 ⟨sz_of h1, q⟩⟩
theorem ev_cb {rc : CC} {f : List Cv → Option Cv} (h : EC rc f) (hu : EvA ua u) : Ev (cCB rc ua) (mCB f u) := ⟨cCB_mono h.mono hu.mono, fun V e q => by
  obtain ⟨v1, e1, e⟩ := bind_some e
  exact hu.ok V e1 (h.ok e q)⟩
theorem ev_ckw {rk : CCK} {f : List Cv → List Cv → Option Cv} (h : ECK rk f) (hu : EvA ua u) (hz : EvA ub z) : Ev (cCKw rk ua ub) (mCKw f u z) := ⟨mo_ckw h.mono hu.mono hz.mono, fun V e q => by
  obtain ⟨v1, e1, e⟩ := bind_some e
  obtain ⟨v2, e2, e⟩ := bind_some e
  exact hu.ok V e1 (hz.ok V e2 (h.ok e q))⟩
theorem eo_none : EvO cNoPart mNoPart := ⟨mo_noPart, fun V e q => by cases e; exact q⟩
theorem eo_some (ha : Ev ta a) : EvO (cPart ta) (mPart a) := ⟨mo_part ha.mono, fun V e q => by
  obtain ⟨v1, e1, e⟩ := bind_some e
  cases v1 <;> first | (cases e; exact ha.ok V e1 q) | cases e⟩
theorem ev_sl {rs : CSl} {f : Cv → Option Int → Option Int → Option Cv} {tl th : CO} {l h : MO} (hs : ESl rs f) (ha : Ev ta a) (hl : EvO tl l) (hh : EvO th h) : Ev (cSl rs ta tl th) (mSl f a l h) := ⟨mo_sl hs.mono ha.mono hl.mono hh.mono, fun V e q => by
  obtain ⟨v1, e1, e⟩ := bind_some e
  obtain ⟨v2, e2, e⟩ := bind_some e
  obtain ⟨v3, e3, e⟩ := bind_some e
  exact ha.ok V e1 (hl.ok V e2 (hh.ok V e3 (hs.ok e q)))⟩
theorem eg_name {i : Nat} : EvG (cgName i) (mgName i) := ⟨mo_gname, fun V e q => by
  cases e
  exact q _ (V.set _ _)⟩
theorem eg_nil : EvGs cgNil mgNil := ⟨mo_gnil, fun V e q => by
  unfold mgNil at e
  split at e
  · cases e; exact ⟨rfl, q _ V⟩
  · cases e⟩
theorem eg_cons {g : CG} {gr : CGs} {m : MG} {mr : MGs} (hg : EvG g m) (hr : EvGs gr mr) : EvGs (cgCons g gr) (mgCons m mr) := ⟨mo_gcons hg.mono hr.mono, fun V e q => by
  unfold mgCons at e
  split at e
  · cases e
  · obtain ⟨v1, e1, e⟩ := bind_some e
    exact hg.ok V e1 fun ws' V' => hr.ok V' e q⟩
theorem eg_tup {g : CGs} {m : MGs} {n : Nat} (hg : EvGs g m) : EvG (cgTup n g) (mgTup n m) := ⟨mo_gtup hg.mono, fun V e q => by
  unfold mgTup at e
  split at e
  · split at e
    · exact ⟨by assumption, hg.ok V e q⟩
    · cases e
  · cases e⟩
end

/-! ### what is walked, comprehensions -/
def fSeq : Cv → Option (List Cv)
  | .tup xs => some xs
  | .lst xs => some xs
  | .str x => some (signs x)
  | _ => none
def mSeqI (a : ME) : MA := fun gs => (a gs).bind fSeq
def rngOk (j : Int) : Bool := decide (-1000000000000000 ≤ j ∧ j ≤ 1000000000000000)
def fRng1 : List Cv → Option (List Cv)
  | [.int j] => if rngOk j = true then some (iota 0 j.toNat) else none
  | _ => none
def fRng2 : List Cv → Option (List Cv)
  | [.int i, .int j] => if rngOk i = true ∧ rngOk j = true then some (iota i (j - i).toNat) else none
  | _ => none
def mRng1 (u : MA) : MA := fun gs => (u gs).bind fRng1
def mRng2 (u : MA) : MA := fun gs => (u gs).bind fRng2
def fEnum : List Cv → Option (List Cv)
  | [.tup xs] => some (pairsFrom 0 xs)
  | [.lst xs] => some (pairsFrom 0 xs)
  | _ => none
def mEnumI (u : MA) : MA := fun gs => (u gs).bind fEnum
def mYes : MT := fun _ => some true
def mLcL (g : MG) (tt : MT) (te : ME) (gs : MEnv) : List Cv → Option (List Cv)
  | [] => some []
  | x :: r => (g x gs).bind fun gs1 => (tt gs1).bind fun b => if b = true then (te gs1).bind fun y => (mLcL g tt te gs r).map fun ys => y :: ys else mLcL g tt te gs r
def mLc (ti : MA) (g : MG) (tt : MT) (te : ME) (vs : List Nat) : ME := fun gs => (ti gs).bind fun xs => (mLcL g tt te (mwipe gs vs) xs).bind fLst
def mLc2L (g : MG) (tt : MT) (ti1 : MA) (g1 : MG) (tt1 : MT) (te : ME) (vs1 : List Nat) (gs : MEnv) : List Cv → Option (List Cv)
  | [] => some []
  | x :: r => (g x gs).bind fun gs1 => (tt gs1).bind fun b => if b = true then
      (ti1 gs1).bind fun ys => (mLcL g1 tt1 te (mwipe gs1 vs1) ys).bind fun zs => (mLc2L g tt ti1 g1 tt1 te vs1 gs r).map fun rs => zs ++ rs
    else mLc2L g tt ti1 g1 tt1 te vs1 gs r
def mLc2 (ti : MA) (g : MG) (tt : MT) (ti1 : MA) (g1 : MG) (tt1 : MT) (te : ME) (vs vs1 : List Nat) : ME := fun gs => (ti gs).bind fun xs => (mLc2L g tt ti1 g1 tt1 te vs1 (mwipe gs vs) xs).bind fLst
section
variable {ti ti1 : CI} {g g1 : CG} {tt tt1 : CT} {te : CE} {mi mi1 : MA} {mg mg1 : MG} {mt mt1 : MT} {me : ME} {ua : CA} {u : MA} {vs vs1 : List Nat}
theorem ei_seq {a : ME} (h : Ev te a) : EvI (cSeqI te) (mSeqI a) := ⟨mo_seqI h.mono, fun V e q => by
  obtain ⟨v1, e1, e⟩ := bind_some e
  refine h.ok V e1 ?_
  cases v1 <;> first | (cases e; exact q) | cases e⟩
theorem rng_of {j : Int} (h : rngOk j = true) : -(2 ^ 62) ≤ j ∧ j < 2 ^ 62 := by
  have := of_decide_eq_true h
  omega
theorem ei_rng1 (h : EvA ua u) : EvI (cRng1 ua) (mRng1 u) := ⟨mo_rng1 h.mono, fun V e q => by
  obtain ⟨v1, e1, e⟩ := bind_some e
  refine h.ok V e1 ?_
  unfold fRng1 at e
  split at e
  · obtain ⟨h1, e⟩ := ite_some e
    subst e
    exact ⟨rng_of h1, q⟩
  · cases e⟩
theorem ei_rng2 (h : EvA ua u) : EvI (cRng2 ua) (mRng2 u) := ⟨mo_rng2 h.mono, fun V e q => by
  obtain ⟨v1, e1, e⟩ := bind_some e
  refine h.ok V e1 ?_
  unfold fRng2 at e
  split at e
  · obtain ⟨⟨h1, h2⟩, e⟩ := ite_some e
    subst e
    have a := rng_of h1
    have b := rng_of h2
    exact ⟨⟨a.1, a.2, b.1, b.2⟩, q⟩
  · cases e⟩
theorem ei_enum (h : EvA ua u) : EvI (cEnumI ua) (mEnumI u) := ⟨mo_enumI h.mono, fun V e q => by
  obtain ⟨v1, e1, e⟩ := bind_some e
  refine h.ok V e1 ?_
  unfold fEnum at e
  split at e <;> first | (cases e; exact q) | cases e⟩
theorem et_yes : EvT cYes mYes := ⟨cYes_mono, fun V e q => by cases e; exact q⟩
theorem lcL_m (hg : EvG g mg) (ht : EvT tt mt) (he : Ev te me) {S0 S : Sto} {gs : MEnv} {ws : CL.Env} (V : View S0 S gs ws) {Q : List Cv → Sto → Prop} : ∀ {xs ys acc : List Cv}, mLcL mg mt me gs xs = some ys → acc.length + ys.length ≤ sizeLine → Q (acc ++ ys) S →
    lcL (fun _ => True) g tt te ws Q xs acc S
  | [], ys, acc, e, hl, q => by
    cases e
    rw [List.append_nil] at q
    exact ⟨True.intro, q⟩
  | x :: r, ys, acc, e, hl, q => by
    obtain ⟨gs1, e1, e⟩ := bind_some e
    obtain ⟨b, e2, e⟩ := bind_some e
    refine ⟨True.intro, hg.ok V e1 fun ws1 V1 => ht.ok V1 e2 ?_⟩
    cases b with
    | true =>
      rw [if_pos rfl] at e ⊢
      obtain ⟨y, e3, e⟩ := bind_some e
      obtain ⟨zs, e4, e⟩ := map_some' e
      subst e
      rw [List.length_cons] at hl
      exact he.ok V1 e3 ⟨by omega, lcL_m hg ht he V e4 (by rw [List.length_append, List.length_singleton]; omega) (by rw [List.append_assoc]; exact q)⟩
    | false =>
      rw [if_neg (by decide)] at e ⊢
      exact lcL_m hg ht he V e hl q
theorem ev_lc (hi : EvI ti mi) (hg : EvG g mg) (ht : EvT tt mt) (he : Ev te me) : Ev (cLc ti g tt te vs) (mLc mi mg mt me vs) := ⟨mo_lc hi.mono hg.mono ht.mono he.mono, fun V e q => by
  obtain ⟨xs, e1, e⟩ := bind_some e
  obtain ⟨ys, e2, e⟩ := bind_some e
  obtain ⟨h1, e⟩ := ite_some e
  subst e
  exact hi.ok V e1 (lcL_m hg ht he (V.wipe vs) e2 (by simpa using sz_of h1) q)⟩
theorem lc2L_m (hg : EvG g mg) (ht : EvT tt mt) (hi1 : EvI ti1 mi1) (hg1 : EvG g1 mg1) (ht1 : EvT tt1 mt1) (he : Ev te me) {S0 S : Sto} {gs : MEnv} {ws : CL.Env} (V : View S0 S gs ws) {Q : List Cv → Sto → Prop} : ∀ {xs ys acc : List Cv}, mLc2L mg mt mi1 mg1 mt1 me vs1 gs xs = some ys → acc.length + ys.length ≤ sizeLine → Q (acc ++ ys) S →
    lc2L (fun _ => True) g tt ti1 g1 tt1 te vs1 ws Q xs acc S
  | [], ys, acc, e, hl, q => by
    cases e
    rw [List.append_nil] at q
    exact ⟨True.intro, q⟩
  | x :: r, ys, acc, e, hl, q => by
    obtain ⟨gs1, e1, e⟩ := bind_some e
    obtain ⟨b, e2, e⟩ := bind_some e
    refine ⟨True.intro, hg.ok V e1 fun ws1 V1 => ht.ok V1 e2 ?_⟩
    cases b with
    | true =>
      rw [if_pos rfl] at e ⊢
      obtain ⟨y, e3, e⟩ := bind_some e
      obtain ⟨zs, e4, e⟩ := bind_some e
      obtain ⟨rs, e5, e⟩ := map_some' e
      subst e
      rw [List.length_append] at hl
      refine hi1.ok V1 e3 (lcL_m hg1 ht1 he (V1.wipe vs1) e4 (by omega) ?_)
      exact lc2L_m hg ht hi1 hg1 ht1 he V e5 (by rw [List.length_append]; omega) (by rw [List.append_assoc]; exact q)
    | false =>
      rw [if_neg (by decide)] at e ⊢
      exact lc2L_m hg ht hi1 hg1 ht1 he V e hl q
theorem ev_lc2 (hi : EvI ti mi) (hg : EvG g mg) (ht : EvT tt mt) (hi1 : EvI ti1 mi1) (hg1 : EvG g1 mg1) (ht1 : EvT tt1 mt1) (he : Ev te me) : Ev (cLc2 ti g tt ti1 g1 tt1 te vs vs1) (mLc2 mi mg mt mi1 mg1 mt1 me vs vs1) := ⟨mo_lc2 hi.mono hg.mono ht.mono hi1.mono hg1.mono ht1.mono he.mono, fun V e q => by
  obtain ⟨xs, e1, e⟩ := bind_some e
  obtain ⟨ys, e2, e⟩ := bind_some e
  obtain ⟨h1, e⟩ := ite_some e
  subst e
  exact hi.ok V e1 (lc2L_m hg ht hi1 hg1 ht1 he (V.wipe vs) e2 (by simpa using sz_of h1) q)⟩
end

/-! ### calls of defs that compute -/
def spM (n : Nat) (m : List Cv → Option Cv) : CSp := fun us S Q _ => us.length = n ∧ ∃ v, m us = some v ∧ Q v S
theorem spM_mono {n : Nat} {m : List Cv → Option Cv} : MonSp (spM n m) := fun us S Q Q' E E' f g ⟨l, v, e, q⟩ => ⟨l, v, e, f _ _ q⟩
theorem x_m {n : Nat} {m : List Cv → Option Cv} {us : List Cv} {v : Cv} {S : Sto} {Q : Cv → Sto → Prop} {E : Ex → Sto → Prop} (e : m us = some v) (h : Q v S) (l : us.length = n := by rfl) : spM n m us S Q E := ⟨l, v, e, h⟩
def arg (n : Nat) (m : List Cv → Option Cv) (us : List Cv) : Option Cv := if us.length = n then m us else none
theorem ev_call {n : Nat} {m : List Cv → Option Cv} {ua : CA} {u : MA} {E} (hu : EvA ua u) : Ev (cCall (spM n m) E ua) (mCB (arg n m) u) := ⟨mo_call spM_mono hu.mono, fun V e q => by
  obtain ⟨us, e1, e⟩ := bind_some e
  unfold arg at e
  split at e
  · exact hu.ok V e1 ⟨by assumption, _, e, q⟩
  · cases e⟩

/-! ### statements -/
def OutC (S0 : Sto) (D : CEnds) : Rz → Prop
  | .nx gs => ∀ S ws, View S0 S gs ws → D.nx ws S
  | .rt v => ∀ S, (∀ a o, S0 a = some o → S a = some o) → D.rt v S
  | .bk gs => ∀ S ws, View S0 S gs ws → D.bk ws S
  | .ct gs => ∀ S ws, View S0 S gs ws → D.ct ws S
structure EvS (t : CS) (φ : MS) : Prop where
  mono : MonS t
  ok : ∀ {S0 S gs ws D r}, View S0 S gs ws → φ gs = some r → OutC S0 D r → t D ws S
def mNext : MS := fun gs => some (.nx gs)
def mSeq (a b : MS) : MS := fun gs => (a gs).bind fun | .nx gs' => b gs' | r => some r
def mAsg (a : ME) (g : MG) : MS := fun gs => (a gs).bind fun v => (g v gs).map .nx
def mDrop (a : ME) : MS := fun gs => (a gs).map fun _ => .nx gs
def mRet (a : ME) : MS := fun gs => (a gs).map .rt
def mRetN : MS := fun _ => some (.rt .non)
def mIfS (c : MT) (a b : MS) : MS := fun gs => (c gs).bind fun x => if x = true then a gs else b gs
def mBreak : MS := fun gs => some (.bk gs)
def mCont : MS := fun gs => some (.ct gs)
def mForL (g : MG) (b : MS) (vs : List Nat) : List Cv → MEnv → Option Rz
  | [], gs => some (.nx gs)
  | x :: r, gs => (g x gs).bind fun gs1 => (b gs1).bind fun
    | .nx gs2 => mForL g b vs r (mwipe gs2 vs)
    | .ct gs2 => mForL g b vs r (mwipe gs2 vs)
    | .bk gs2 => some (.nx (mwipe gs2 vs))
    | .rt v => some (.rt v)
def mFor (ti : MA) (g : MG) (b : MS) (vs : List Nat) : MS := fun gs => (ti gs).bind fun xs => mForL g b vs xs (mwipe gs vs)
def mWhile (c : MT) (b : MS) (vs : List Nat) : Nat → MS
  | 0, _ => none
  | n + 1, gs => (c gs).bind fun x => if x = true then (b gs).bind fun
      | .nx gs2 => mWhile c b vs n (mwipe gs2 vs)
      | .ct gs2 => mWhile c b vs n (mwipe gs2 vs)
      | .bk gs2 => some (.nx (mwipe gs2 vs))
      | .rt v => some (.rt v)
    else some (.nx gs)
def mAug (i : Nat) (a : ME) (f : Cv → Cv → Option Cv) : MS := fun gs => match gs[i]? with
  | some (.pl x) => (a gs).bind fun y => (f x y).map fun z => .nx (gs.set i (.pl z))
  | _ => none
def mPar (i j : Nat) (u : MA) : MS := fun gs => (u gs).bind fun | [x, y] => some (.nx ((gs.set i (.pl x)).set j (.pl y))) | _ => none
def mPar3 (i j l : Nat) (u : MA) : MS := fun gs => (u gs).bind fun | [x, y, z] => some (.nx (((gs.set i (.pl x)).set j (.pl y)).set l (.pl z))) | _ => none
section
variable {t t' : CS} {m m' : MS} {te : CE} {a : ME} {g : CG} {mg : MG} {c : CT} {mc : MT} {ti : CI} {mi : MA} {vs : List Nat}
theorem es_next : EvS cNext mNext := ⟨mo_next, fun V e q => by cases e; exact q _ _ V⟩
theorem es_seq (h : EvS t m) (h' : EvS t' m') : EvS (cSeq t t') (mSeq m m') := ⟨cSeq_mono h.mono h'.mono, fun {S0 S gs ws D r} V e q => by
  obtain ⟨r1, e1, e⟩ := bind_some e
  refine h.ok (D := { D with nx := t' D }) V e1 ?_
  cases r1 with
  | nx gs1 => exact fun S1 ws1 V1 => h'.ok V1 e q
  | rt v => cases e; exact q
  | bk gs1 => cases e; exact q
  | ct gs1 => cases e; exact q⟩
theorem es_asg (h : Ev te a) (hg : EvG g mg) : EvS (cAsg te g) (mAsg a mg) := ⟨cAsg_mono h.mono hg.mono, fun V e q => by
  obtain ⟨v, e1, e⟩ := bind_some e
  obtain ⟨gs1, e2, e⟩ := map_some' e
  subst e
  exact h.ok V e1 (hg.ok V e2 fun ws' V' => q _ _ V')⟩
theorem es_drop (h : Ev te a) : EvS (cDrop te) (mDrop a) := ⟨mo_drop h.mono, fun V e q => by
  obtain ⟨v, e1, e⟩ := map_some' e
  subst e
  exact h.ok V e1 (q _ _ V)⟩
theorem es_ret (h : Ev te a) : EvS (cRet te) (mRet a) := ⟨mo_ret h.mono, fun V e q => by
  obtain ⟨v, e1, e⟩ := map_some' e
  subst e
  exact h.ok V e1 (q _ V.base)⟩
theorem es_retN : EvS cRetN mRetN := ⟨mo_retN, fun V e q => by
  cases e
  exact q _ V.base⟩
theorem es_if (hc : EvT c mc) (h : EvS t m) (h' : EvS t' m') : EvS (cIfS c t t') (mIfS mc m m') := ⟨mo_ifS hc.mono h.mono h'.mono, fun V e q => by
  obtain ⟨b, e1, e⟩ := bind_some e
  refine hc.ok V e1 ?_
  cases b with
  | true => rw [if_pos rfl] at e ⊢; exact h.ok V e q
  | false => rw [if_neg (by decide)] at e ⊢; exact h'.ok V e q⟩
theorem es_break : EvS cBreak mBreak := ⟨mo_break, fun V e q => by cases e; exact q _ _ V⟩
theorem es_cont : EvS cCont mCont := ⟨mo_cont, fun V e q => by cases e; exact q _ _ V⟩
theorem forL_m (hg : EvG g mg) (h : EvS t m) {D : CEnds} {S0 : Sto} : ∀ {xs : List Cv} {S gs ws r}, View S0 S gs ws → mForL mg m vs xs gs = some r → OutC S0 D r → forL (fun _ => True) g t D xs ws S
  | [], S, gs, ws, r, V, e, q => by
    cases e
    exact ⟨True.intro, q _ _ V⟩
  | x :: xs, S, gs, ws, r, V, e, q => by
    obtain ⟨gs1, e1, e⟩ := bind_some e
    obtain ⟨r1, e2, e⟩ := bind_some e
    refine ⟨True.intro, hg.ok V e1 fun ws1 V1 => h.ok (D := { D with nx := fun ws2 S2 => forL (fun _ => True) g t D xs ws2 S2, ct := fun ws2 S2 => forL (fun _ => True) g t D xs ws2 S2, bk := D.nx }) V1 e2 ?_⟩
    cases r1 with
    | nx gs2 => exact fun S2 ws2 V2 => forL_m hg h (V2.wipe1 vs) e q
    | ct gs2 => exact fun S2 ws2 V2 => forL_m hg h (V2.wipe1 vs) e q
    | bk gs2 => cases e; exact fun S2 ws2 V2 => q _ _ (V2.wipe1 vs)
    | rt v => cases e; exact q
theorem es_for (hi : EvI ti mi) (hg : EvG g mg) (h : EvS t m) : EvS (cFor ti g t) (mFor mi mg m vs) := ⟨mo_for hi.mono hg.mono h.mono, fun V e q => by
  obtain ⟨xs, e1, e⟩ := bind_some e
  exact hi.ok V e1 (forL_m hg h (V.wipe1 vs) e q)⟩
theorem mo_while (hc : MonT c) (hb : MonS t) : MonS (cWhile c t) := fun D D' ws S l h => by
  obtain ⟨I, h0, h⟩ := h
  refine ⟨I, h0, fun m ws S hI => hc _ _ _ _ (fun b S1 q => ?_) (h m ws S hI)⟩
  cases b with
  | true => exact hb { D with nx := fun ws' S' => ∃ m', m' < m ∧ I m' ws' S', ct := fun ws' S' => ∃ m', m' < m ∧ I m' ws' S', bk := D.nx } _ _ _ ⟨fun _ _ z => z, l.rt, l.nx, fun _ _ z => z⟩ q
  | false => exact l.nx _ _ q
theorem es_while {n : Nat} (hc : EvT c mc) (h : EvS t m) : EvS (cWhile c t) (mWhile mc m vs n) := ⟨mo_while hc.mono h.mono, fun {S0 S gs ws D r} V e q => by
  refine ⟨fun n ws S => ∃ gs r, View S0 S gs ws ∧ mWhile mc m vs n gs = some r ∧ OutC S0 D r, ⟨n, gs, r, V, e, q⟩, ?_⟩
  rintro n ws S ⟨gs, r, V, e, q⟩
  cases n with
  | zero => cases e
  | succ n =>
    obtain ⟨b, e1, e⟩ := bind_some e
    refine hc.ok V e1 ?_
    cases b with
    | false => rw [if_neg (by decide)] at e ⊢; cases e; exact q _ _ V
    | true =>
      rw [if_pos rfl] at e ⊢
      obtain ⟨r1, e2, e⟩ := bind_some e
      refine h.ok V e2 ?_
      cases r1 with
      | nx gs2 => exact fun S2 ws2 V2 => ⟨n, Nat.lt_succ_self n, _, _, V2.wipe1 vs, e, q⟩
      | ct gs2 => exact fun S2 ws2 V2 => ⟨n, Nat.lt_succ_self n, _, _, V2.wipe1 vs, e, q⟩
      | bk gs2 => cases e; exact fun S2 ws2 V2 => q _ _ (V2.wipe1 vs)
      | rt v => cases e; exact q⟩
theorem es_aug {i : Nat} {r : C2} {f : Cv → Cv → Option Cv} (hr : E2 r f) (h : Ev te a) : EvS (cAug i te r) (mAug i a f) := ⟨mo_aug hr.mono h.mono, fun V e q => by
  unfold mAug at e
  split at e
  · rename_i x hx
    obtain ⟨y, e1, e⟩ := bind_some e
    obtain ⟨z, e2, e⟩ := map_some' e
    subst e
    unfold cAug
    rw [V.pl _ _ hx]
    exact h.ok V e1 (hr.ok e2 (q _ _ (V.set _ _)))
  · cases e⟩
theorem es_par {i j : Nat} {ua : CA} {u : MA} (h : EvA ua u) : EvS (cPar i j ua) (mPar i j u) := ⟨mo_par h.mono, fun V e q => by
  obtain ⟨us, e1, e⟩ := bind_some e
  refine h.ok V e1 ?_
  split at e
  · cases e; exact q _ _ ((V.set _ _).set _ _)
  · cases e⟩
theorem mo_par3 {i j l : Nat} {ua : CA} (h : MonA ua) : MonS (cPar3 i j l ua) := fun D D' ws S le q => h _ _ _ _ (fun us S1 q => by
  split at q
  · exact le.nx _ _ q
  · exact q) q
theorem es_par3 {i j l : Nat} {ua : CA} {u : MA} (h : EvA ua u) : EvS (cPar3 i j l ua) (mPar3 i j l u) := ⟨mo_par3 h.mono, fun V e q => by
  obtain ⟨us, e1, e⟩ := bind_some e
  refine h.ok V e1 ?_
  split at e
  · cases e; exact q _ _ (((V.set _ _).set _ _).set _ _)
  · cases e⟩
end
def mstart (N : List Str) (us : List Cv) : MEnv := us.map Sl.pl ++ List.replicate (N.length - us.length) .no
def outM (φ : MS) (gs : MEnv) : Option Cv := (φ gs).bind fun | .rt v => some v | .nx _ => some .non | _ => none
theorem view_start {S : Sto} {N : List Str} {us : List Cv} : View S S (mstart N us) (cstart N us) := by
  have key : ∀ (i : Nat) (s : Sl), (mstart N us)[i]? = some s → (∃ v, s = .pl v ∧ (cstart N us)[i]? = some (some v)) ∨ s = .no := fun i s e => by
    unfold mstart at e
    by_cases h : i < us.length
    · rw [List.getElem?_append_left (by simpa using h), List.getElem?_map, List.getElem?_eq_getElem h] at e
      cases e
      refine .inl ⟨_, rfl, ?_⟩
      unfold cstart
      rw [List.getElem?_append_left (by simpa using h), List.getElem?_map, List.getElem?_eq_getElem h]; rfl
    · rw [List.getElem?_append_right (by simpa using h), List.getElem?_replicate] at e
      split at e
      · cases e; exact .inr rfl
      · cases e
  refine ⟨by unfold mstart cstart; simp, fun i v e => ?_, fun i v e => ?_, fun i j u v p _ e => ?_, fun _ _ h => h⟩
  · rcases key i _ e with ⟨u, z, y⟩ | z
    · cases z; exact y
    · cases z
  · rcases key i _ e with ⟨u, z, y⟩ | z <;> cases z
  · rcases key i _ e with ⟨u, z, y⟩ | z <;> cases z
theorem PL.ofEv {N ps : List Str} {t : CS} {φ : MS} (h : EvS t φ) : PL N ps (spM ps.length fun us => outM φ (mstart N us)) t :=
  ⟨spM_mono, fun us S Q E ⟨l, _⟩ => l, fun us S Q E ⟨l, v, e, q⟩ => by
    obtain ⟨r, e1, e⟩ := bind_some e
    refine h.ok view_start e1 ?_
    cases r with
    | nx gs => cases e; exact fun S' ws' V => ⟨S, _, V.base, .inl rfl, q⟩
    | rt v => cases e; exact fun S' b => ⟨S, _, b, .inl rfl, q⟩
    | bk gs => cases e
    | ct gs => cases e⟩
end CL

set_option Elab.async false
set_option linter.all false
set_option maxRecDepth 100000
set_option maxHeartbeats 1000000
/-! ML2: the operations by functions -/
namespace CL
open PySem PySem.Spec PyProof.Rows L2
/-- modest numbers: below 2 ** 8000 -/
def bigN : Nat := 2 ^ 8000
def mdOk (i : Int) : Bool := decide (i.natAbs < bigN)
theorem md_of {i : Int} (h : mdOk i = true) : i.natAbs < 2 ^ 8000 := of_decide_eq_true h
theorem mdOk_nb {i : Int} (h : NB i 8000) : mdOk i = true := decide_eq_true h
theorem mdOk_of {i : Int} (h : -1000000000000000000000000000000 ≤ i ∧ i ≤ 1000000000000000000000000000000) : mdOk i = true := by
  refine mdOk_nb (NB.mono (a := 100) ?_ (by decide))
  unfold NB
  have e : (2 : Nat) ^ 100 = 1267650600228229401496703205376 := by decide
  rw [e]; omega
def fI (g : Int → Int → Cv) : Cv → Cv → Option Cv
  | .int i, .int j => some (g i j)
  | _, _ => none
theorem e2_i {g : Int → Int → Cv} : E2 (cI2 (fun _ _ => True) g) (fI g) := ⟨cI2_mono, fun {a b S Q v} e q => by
  unfold fI at e
  split at e
  · cases e; exact ⟨True.intro, q⟩
  · cases e⟩
def fIC (C : Int → Int → Bool) (g : Int → Int → Cv) : Cv → Cv → Option Cv
  | .int i, .int j => if C i j = true then some (g i j) else none
  | _, _ => none
theorem e2_ic {P : Int → Int → Prop} {C : Int → Int → Bool} {g : Int → Int → Cv} (h : ∀ i j, C i j = true → P i j) : E2 (cI2 P g) (fIC C g) := ⟨cI2_mono, fun {a b S Q v} e q => by
  unfold fIC at e
  split at e
  · obtain ⟨h1, e⟩ := ite_some e
    subst e; exact ⟨h _ _ h1, q⟩
  · cases e⟩
abbrev fSub := fI fun i j => .int (i - j)
abbrev fIadd := fI fun i j => .int (i + j)
abbrev fLt := fI fun i j => .bl (decide (i < j))
abbrev fLe := fI fun i j => .bl (decide (i ≤ j))
abbrev fGt := fI fun i j => .bl (decide (j < i))
abbrev fGe := fI fun i j => .bl (decide (j ≤ i))
def mulC (i j : Int) : Bool := mdOk i && mdOk j
def divC (_ j : Int) : Bool := decide (0 < j) && mdOk j
def modC (_ j : Int) : Bool := decide (0 < j)
def powC (i j : Int) : Bool := mdOk i && decide (0 ≤ j ∧ j ≤ 60)
abbrev fMul := fIC mulC fun i j => .int (i * j)
abbrev fFd := fIC divC fun i j => .int (i / j)
abbrev fMod := fIC modC fun i j => .int (i % j)
abbrev fPow := fIC powC fun i j => .int (i ^ j.toNat)
theorem e2_sub : E2 cSub fSub := e2_i
theorem e2_iadd : E2 cIadd fIadd := e2_i
theorem e2_isub : E2 cIsub fSub := e2_i
theorem e2_lt : E2 cLt fLt := e2_i
theorem e2_le : E2 cLe fLe := e2_i
theorem e2_gt : E2 cGt fGt := e2_i
theorem e2_ge : E2 cGe fGe := e2_i
theorem e2_mul : E2 cMul fMul := e2_ic fun i j h => by
  obtain ⟨a, b⟩ := Bool.and_eq_true_iff.mp h
  exact mulW_of 8000 8000 (md_of a) (md_of b)
theorem e2_fd : E2 cFd fFd := e2_ic fun i j h => by
  obtain ⟨a, b⟩ := Bool.and_eq_true_iff.mp h
  exact divW_nb (a := 8000) (md_of b) (of_decide_eq_true a) (by decide)
theorem e2_mod : E2 cMod fMod := e2_ic fun i j h => of_decide_eq_true h
theorem e2_pow : E2 cPow fPow := e2_ic fun i j h => by
  obtain ⟨a, b⟩ := Bool.and_eq_true_iff.mp h
  have b := of_decide_eq_true b
  exact cpw_of 8000 (md_of a) (by decide) b.1 (by omega)
def fAdd : Cv → Cv → Option Cv
  | .int i, .int j => some (.int (i + j))
  | .str x, .str y => if lenOk (x.length + y.length) = true then some (.str (x ++ y)) else none
  | .tup xs, .tup ys => if lenOk (xs.length + ys.length) = true then some (.tup (xs ++ ys)) else none
  | .lst xs, .lst ys => if lenOk (xs.length + ys.length) = true then some (.lst (xs ++ ys)) else none
  | _, _ => none
theorem e2_add : E2 cAdd fAdd := ⟨cAdd_mono, fun {a b S Q v} e q => by
  unfold fAdd at e
  split at e
  · cases e; exact q
  · obtain ⟨h1, e⟩ := ite_some e; subst e; exact ⟨sz_of h1, q⟩
  · obtain ⟨h1, e⟩ := ite_some e; subst e; exact ⟨sz_of h1, q⟩
  · obtain ⟨h1, e⟩ := ite_some e; subst e; exact ⟨sz_of h1, q⟩
  · cases e⟩
/-- data that == compares -/
def fEqB (g : Bool → Bool) : Cv → Cv → Option Cv
  | .str x, .str y => some (.bl (g (decide (x = y))))
  | .int i, .int j => some (.bl (g (decide (i = j))))
  | a, b => if okD a = true ∧ okD b = true then some (.bl (g (ceq a b))) else none
theorem okD_der {a : Cv} {S : Sto} (h : okD a = true) : deref a S = some a := by
  cases a <;> first | rfl | (exact absurd h (by simp [okD, isD]))
theorem e2_eqB {g : Bool → Bool} : E2 (cEqB g) (fEqB g) := ⟨cEqB_mono, fun {a b S Q v} e q => by
  unfold fEqB at e
  split at e
  · cases e; exact q
  · cases e; exact q
  · rename_i n1 n2
    obtain ⟨⟨h1, h2⟩, e⟩ := ite_some e
    subst e
    unfold cEqB
    split
    · exact absurd rfl (n1 _ _ rfl)
    · exact absurd rfl (n2 _ _ rfl)
    · rw [okD_der h1, okD_der h2]
      exact ⟨⟨h1, h2⟩, q⟩⟩
abbrev fEq := fEqB fun b => b
abbrev fNe := fEqB fun b => !b
def fIsN (g : Bool → Bool) : Cv → Cv → Option Cv
  | .opq _, _ => none
  | .non, .non => some (.bl (g true))
  | _, .non => some (.bl (g false))
  | _, _ => none
theorem e2_isN {g : Bool → Bool} : E2 (cIsN g) (fIsN g) := ⟨cIsN_mono, fun {a b S Q v} e q => by
  unfold fIsN at e
  unfold cIsN
  cases b <;> cases a <;> first | (cases e; exact q) | cases e⟩
abbrev fIs := fIsN fun b => b
abbrev fIsNot := fIsN fun b => !b
def fIx : Cv → Cv → Option Cv
  | .str z, .int i => if lenOk z.length = true then (atI z.cps.toList i).map fun c => .str ⟨#[c]⟩ else none
  | .tup xs, .int i => atI xs i
  | .lst xs, .int i => atI xs i
  | .scr xs, .int i => atI xs i
  | _, _ => none
theorem e2_ix : E2 cIx fIx := ⟨cIx_mono, fun {a b S Q v} e q => by
  unfold fIx at e
  split at e
  · rename_i z i
    split at e
    · obtain ⟨c, h1, e⟩ := map_some' e
      subst e
      refine ⟨sz_of (by assumption), ?_⟩
      show match atI z.cps.toList i with | some c => Q (.str ⟨#[c]⟩) S | none => False
      rw [h1]; exact q
    · cases e
  · exact x_ixT e q
  · exact x_ixL e q
  · exact x_ixS e q
  · cases e⟩
def fInB (ng : Bool) (a b : Cv) : Option Cv := match b with
  | .lst xs => if flatC a = true ∧ xs.all flatC = true then some (.bl (if ng = true then !(xs.any fun y => ceq y a) else xs.any fun y => ceq y a)) else none
  | .tup xs => if flatC a = true ∧ xs.all flatC = true then some (.bl (if ng = true then !(xs.any fun y => ceq y a) else xs.any fun y => ceq y a)) else none
  | _ => none
theorem e2_inB {ng : Bool} : E2 (cInB ng) (fInB ng) := ⟨cInB_mono, fun {a b S Q v} e q => by
  unfold fInB at e
  split at e
  · obtain ⟨h, e⟩ := ite_some e; subst e; exact ⟨h, q⟩
  · obtain ⟨h, e⟩ := ite_some e; subst e; exact ⟨h, q⟩
  · cases e⟩
abbrev fIn := fInB false
abbrev fNotIn := fInB true
def fNeg : Cv → Option Cv
  | .int i => some (.int (-i))
  | _ => none
theorem e1_neg : E1 cNeg fNeg := ⟨mo_neg, fun {a S Q v} e q => by
  unfold fNeg at e
  split at e
  · cases e; exact q
  · cases e⟩
def fCut : Cv → Option Int → Option Int → Option Cv
  | .str z, lo, hi => if lenOk z.length = true then some (.str (cutS z lo hi)) else none
  | .tup xs, lo, hi => some (.tup (cutC xs lo hi))
  | .lst xs, lo, hi => some (.lst (cutC xs lo hi))
  | _, _, _ => none
theorem esl_cut : ESl cCut fCut := ⟨cCut_mono, fun {a l h S Q v} e q => by
  unfold fCut at e
  split at e
  · obtain ⟨h1, e⟩ := ite_some e; subst e; exact ⟨sz_of h1, q⟩
  · cases e; exact q
  · cases e; exact q
  · cases e⟩
/-! ### built-ins -/
def fLen : List Cv → Option Cv
  | [.str z] => if lenOk z.length = true then some (.int z.length) else none
  | [.tup xs] => some (.int xs.length)
  | [.lst xs] => some (.int xs.length)
  | [.scr xs] => some (.int xs.length)
  | _ => none
theorem ec_len : EC cLen fLen := ⟨mo_len, fun {us S Q v} e q => by
  unfold fLen at e
  split at e
  · obtain ⟨h1, e⟩ := ite_some e; subst e; exact ⟨sz_of h1, q⟩
  · cases e; exact q
  · cases e; exact q
  · cases e; exact q
  · cases e⟩
def fAbs : List Cv → Option Cv
  | [.int i] => some (.int i.natAbs)
  | _ => none
theorem ec_abs : EC cAbs fAbs := ⟨mo_abs, fun {us S Q v} e q => by
  unfold fAbs at e
  split at e
  · cases e; exact q
  · cases e⟩
def fInt : List Cv → Option Cv
  | [.int i] => some (.int i)
  | [.bl b] => some (.int (if b = true then 1 else 0))
  | _ => none
theorem ec_int : EC cInt fInt := ⟨mo_int, fun {us S Q v} e q => by
  unfold fInt at e
  split at e
  · cases e; exact q
  · cases e; exact q
  · cases e⟩
def fMaxL (g : List Int → Int) : List Cv → Option Cv
  | xs => (asInts xs).bind fun ns => if ns = [] then none else some (.int (g ns))
def fMax : List Cv → Option Cv
  | [.int i, .int j] => some (.int (max i j))
  | [.lst xs] => fMaxL (lmax 0) xs
  | _ => none
def fMin : List Cv → Option Cv
  | [.int i, .int j] => some (.int (min i j))
  | [.lst xs] => fMaxL (lmin 0) xs
  | _ => none
theorem maxL_some {g : List Int → Int} {xs : List Cv} {v : Cv} (e : fMaxL g xs = some v) : ∃ ns, asInts xs = some ns ∧ ns ≠ [] ∧ v = .int (g ns) := by
  obtain ⟨ns, h, e⟩ := bind_some e
  by_cases z : ns = []
  · rw [if_pos z] at e; cases e
  · rw [if_neg z] at e; cases e; exact ⟨ns, h, z, rfl⟩
theorem ec_max : EC cMax fMax := ⟨cMax_mono, fun {us S Q v} e q => by
  unfold fMax at e
  split at e
  · cases e; exact q
  · obtain ⟨ns, h, n, rfl⟩ := maxL_some e
    exact x_maxL h n q
  · cases e⟩
theorem ec_min : EC cMin fMin := ⟨cMin_mono, fun {us S Q v} e q => by
  unfold fMin at e
  split at e
  · cases e; exact q
  · obtain ⟨ns, h, n, rfl⟩ := maxL_some e
    exact x_minL h n q
  · cases e⟩
def fMaxD (us zs : List Cv) : Option Cv := match us, zs with
  | [.lst xs], [d] => (asInts xs).map fun ns => match ns with | [] => d | ns => .int (lmax 0 ns)
  | _, _ => none
def fMinD (us zs : List Cv) : Option Cv := match us, zs with
  | [.lst xs], [d] => (asInts xs).map fun ns => match ns with | [] => d | ns => .int (lmin 0 ns)
  | _, _ => none
theorem eck_max : ECK cMaxD fMaxD := ⟨cMaxD_mono, fun {us zs S Q v} e q => by
  unfold fMaxD at e
  split at e
  · obtain ⟨ns, h, e⟩ := map_some' e
    subst e
    cases ns with
    | nil => exact x_maxD h q
    | cons n ns => exact x_maxD h q
  · cases e⟩
theorem eck_min : ECK cMinD fMinD := ⟨cMinD_mono, fun {us zs S Q v} e q => by
  unfold fMinD at e
  split at e
  · obtain ⟨ns, h, e⟩ := map_some' e
    subst e
    cases ns with
    | nil => exact x_minD h q
    | cons n ns => exact x_minD h q
  · cases e⟩
def fSum : List Cv → Option Cv
  | [.lst xs] => (asInts xs).map fun ns => .int ns.sum
  | _ => none
theorem ec_sum : EC cSum fSum := ⟨mo_sum, fun {us S Q v} e q => by
  unfold fSum at e
  split at e
  · rename_i xs
    obtain ⟨ns, h, e⟩ := map_some' e
    subst e
    have e' : intsOf (.lst xs) S = some ns := h
    show match intsOf (.lst xs) S with | some ns => Q (.int ns.sum) S | none => False
    rw [e']; exact q
  · cases e⟩
def fBools (g : List Bool → Bool) : List Cv → Option Cv
  | [.lst xs] => (asBools xs).map fun bs => .bl (g bs)
  | _ => none
theorem ec_bools {g : List Bool → Bool} : EC (cBools g) (fBools g) := ⟨cBools_mono, fun {us S Q v} e q => by
  unfold fBools at e
  split at e
  · rename_i xs
    obtain ⟨ns, h, e⟩ := map_some' e
    subst e
    have e' : boolsOf (.lst xs) S = some ns := h
    show match boolsOf (.lst xs) S with | some ns => Q (.bl (g ns)) S | none => False
    rw [e']; exact q
  · cases e⟩
abbrev fAll := fBools fun bs => bs.all fun b => b
abbrev fAny := fBools fun bs => bs.any fun b => b
def fTupleOf : List Cv → Option Cv
  | [.lst xs] => some (.tup xs)
  | [.tup xs] => some (.tup xs)
  | _ => none
theorem ec_tuple : EC cTupleOf fTupleOf := ⟨mo_tuple, fun {us S Q v} e q => by
  unfold fTupleOf at e
  split at e
  · cases e; exact q
  · cases e; exact q
  · cases e⟩
def fListOf : List Cv → Option Cv
  | [.lst xs] => some (.lst xs)
  | [.tup xs] => some (.lst xs)
  | _ => none
theorem ec_list : EC cListOf fListOf := ⟨mo_listOf, fun {us S Q v} e q => by
  unfold fListOf at e
  split at e
  · cases e; exact q
  · cases e; exact q
  · cases e⟩
/-- what repr is asked of: shallow, small data -/
def rOk (w : Cv) : Bool := smallV w && decide (dep w ≤ 64) && decide (blk w ≤ 500000)
def fRepr : List Cv → Option Cv
  | [w] => if rOk w = true then some (.str (rp w)) else none
  | _ => none
theorem rOk_ref {w : Cv} (h : rOk w = true) : ∀ a, w ≠ .ref a := fun a e => by
  subst e
  simp [rOk, smallV] at h
theorem ec_repr : EC cRepr fRepr := ⟨mo_repr, fun {us S Q v} e q => by
  unfold fRepr at e
  split at e
  · obtain ⟨h1, e⟩ := ite_some e
    subst e
    have h2 := h1
    unfold rOk at h1
    rw [Bool.and_eq_true, Bool.and_eq_true] at h1
    exact x_repr (rOk_ref h2) (okR_small h1.1.1 (of_decide_eq_true h1.1.2) (of_decide_eq_true h1.2)) q
  · cases e⟩
def fRepL : Cv → Cv → Option Cv
  | .lst xs, .int k => if (decide (-1000000 ≤ k ∧ k ≤ 1000000) && lenOk (xs.length * k.toNat)) = true then some (.lst (List.replicate k.toNat xs).flatten) else none
  | _, _ => none
theorem e2_repL : E2 cRepL fRepL := ⟨cRepL_mono, fun {a b S Q v} e q => by
  unfold fRepL at e
  split at e
  · obtain ⟨h1, e⟩ := ite_some e
    subst e
    rw [Bool.and_eq_true] at h1
    have := of_decide_eq_true h1.1
    exact ⟨⟨by omega, by omega, sz_of h1.2⟩, q⟩
  · cases e⟩
end CL

set_option Elab.async false
set_option linter.all false
set_option maxRecDepth 100000
set_option maxHeartbeats 1000000
/-! ML3: objects of the def's own: made, filled, frozen, read -/
namespace CL
open PySem PySem.Spec PyProof.Rows L2

def Sto.del (S : Sto) (p : Addr) : Sto := fun b => if b = p then none else S b
theorem Sto.del_same {S : Sto} {p : Addr} : S.del p p = none := by simp [Sto.del]
theorem Sto.del_ne {S : Sto} {p b : Addr} (h : b ≠ p) : S.del p b = S b := by simp [Sto.del, h]
theorem Sto.del_sub {S : Sto} {p : Addr} : ∀ a o, S.del p a = some o → S a = some o := fun a o e => by
  by_cases h : a = p
  · subst h; rw [Sto.del_same] at e; cases e
  · rwa [Sto.del_ne h] at e
mutual
/-- trees of tuples: no list, no dict in them -/
def ttv : Cv → Bool
  | .non | .bl _ | .int _ | .str _ => true
  | .tup xs => ttvs xs
  | _ => false
def ttvs : List Cv → Bool
  | [] => true
  | x :: r => ttv x && ttvs r
end
section
variable {K : Fg} {Z : List Addr} {S : Sto} {H : Hp}
theorem RepOb.noTup {a : Addr} {o : Ob} {vs : List V} (h : RepOb K Z S H a o) (r : Rd H a (.tup vs)) : False := by
  have key : ∀ u, H a = some u → plainO u = true → False := fun u e p => by
    rcases r with r | ⟨x, r⟩ <;> (rw [r] at e; cases e; cases p)
  cases o with
  | lst ws => obtain ⟨vs, h1, _⟩ := h; exact key _ h1 rfl
  | dK ws => obtain ⟨vs, h1, _⟩ := h; exact key _ h1 rfl
  | dT ws => obtain ⟨vs, h1, _⟩ := h; exact key _ h1 rfl
  | ins C dx fs => obtain ⟨vs, h1, _⟩ := h; exact key _ h1 rfl
mutual
theorem Rep.tt {S' : Sto} (ok : StOk K Z S' H) : ∀ {w : Cv} {v : V}, ttv w = true → Rep K Z S H w v → Rep K Z S' H w v
  | _, _, _, .non => .non
  | _, _, _, .bl b => .bl b
  | _, _, _, .int i => .int i
  | _, _, _, .str x => .str x
  | _, _, h, .tup (a := a) hr n r => .tup hr (by
      cases e : S' a with
      | none => rfl
      | some o => exact ((ok.ob a o e).noTup hr).elim) (Reps.tt ok h r)
  | _, _, h, .tupK hr r => .tupK hr (Reps.tt ok h r)
  | _, _, h, .lst _ _ _ _ => by cases h
  | _, _, h, .scr _ _ _ => by cases h
  | _, _, h, .tupF _ _ _ _ => by cases h
  | _, _, h, .scrK _ _ => by cases h
  | _, _, h, .dK _ _ _ _ _ => by cases h
  | _, _, h, .dT _ _ _ _ _ => by cases h
  | _, _, h, .ref _ => by cases h
  | _, _, h, .opq _ => by cases h
theorem Reps.tt {S' : Sto} (ok : StOk K Z S' H) : ∀ {ws : List Cv} {vs : List V}, ttvs ws = true → Reps K Z S H ws vs → Reps K Z S' H ws vs
  | _, _, _, .nil => .nil
  | _, _, h, .cons a r => .cons (Rep.tt ok (Bool.and_eq_true_iff.mp h).1 a) (Reps.tt ok (Bool.and_eq_true_iff.mp h).2 r)
end
/-- an owned object as a frozen value -/
theorem RepOb.frz {p : Addr} {o : Ob} {v : Cv} {S' : Sto} (ok : StOk K Z S H) (e : S p = some o) (ev : obv o = some v) (hs : ∀ a o, S' a = some o → S a = some o) (n : S' p = none) : Rep K Z S' H v (.ref p) := by
  have nz : p ∉ Z := fun z => by rw [(ok.hid p z).1] at e; cases e
  have h := ok.ob p o e
  cases o with
  | lst ws => cases ev; obtain ⟨vs, h1, h2⟩ := h; exact .lst h1 n nz (h2.less hs)
  | dK ws => cases ev; obtain ⟨vs, h1, h3, h2⟩ := h; exact .dK h1 n nz h3 (h2.less hs)
  | dT ws => cases ev; obtain ⟨vs, h1, h3, h2⟩ := h; exact .dT h1 n nz h3 (h2.less hs)
  | ins C dx fs => cases ev
end
/-- from here on the object in slot i is only read -/
def cFrz (i : Nat) (u : CS) : CS := fun D ws S => ∃ p o v, ws[i]? = some (some (.ref p)) ∧ S p = some o ∧ obv o = some v ∧ u D (ws.set i (some v)) (S.del p)
theorem mo_frz {i : Nat} {u : CS} (h : MonS u) : MonS (cFrz i u) := fun D D' ws S l ⟨p, o, v, a, b, c, q⟩ => ⟨p, o, v, a, b, c, h _ _ _ _ l q⟩
theorem RepSt.less {K : Fg} {Z : List Addr} {S S' : Sto} {H : Hp} {σ : L2.St} {ws : CL.Env} (hs : ∀ a o, S' a = some o → S a = some o) (r : RepSt K Z S H σ ws) : RepSt K Z S' H σ ws :=
  ⟨r.1, fun i w e => let ⟨v, a, b⟩ := r.2 i w e; ⟨v, a, b.less hs⟩⟩
theorem ss_frz {X : Cx} {rest : List Stmt} {u : CS} (i : Nat) (h : SSs X rest u) : SSs X rest (cFrz i u) := ⟨mo_frz h.mono, h.ok.imp fun D σ H q => by
  obtain ⟨Z, S, ws, ok, re, p, o, v, e1, e2, e3, q⟩ := q
  have fr : ∀ {S' H'}, Fr (S.del p) H S' H' → Fr S H S' H' := fun f => ⟨fun a o h n => f.keep a o h (by
    by_cases z : a = p
    · rw [z]; exact Sto.del_same
    · rw [Sto.del_ne z]; exact n), f.dom⟩
  refine ⟨Z, S.del p, ws.set i (some v), ok.less Sto.del_sub, ?_, h.mono (liftD X.K Z S H D) (liftD X.K Z (S.del p) H D) _ _ ⟨fun _ _ h σ' H' a b c => h σ' H' (fr a) b c, fun _ _ h σ' H' a b c => h σ' H' (fr a) b c, fun _ _ h σ' H' a b c => h σ' H' (fr a) b c, fun _ _ h σ' H' a b c => h σ' H' (fr a) b c⟩ q⟩
  obtain ⟨x, h1, h2⟩ := re.2 i _ e1
  cases h2
  have r1 := re.less (Sto.del_sub (S := S) (p := p))
  have r2 := RepOb.frz ok e2 e3 (Sto.del_sub (p := p)) Sto.del_same
  refine ⟨by rw [List.length_set]; exact r1.1, fun j w ew => ?_⟩
  by_cases z : i = j
  · subst z
    have hl : i < ws.length := (List.getElem?_eq_some_iff.mp e1).1
    rw [List.getElem?_set_self hl] at ew
    cases ew
    exact ⟨_, h1, r2⟩
  · rw [List.getElem?_set_ne z] at ew
    exact r1.2 j w ew⟩
def FrzE (S : Sto) (ws ws' : CL.Env) : Prop := ws'.length = ws.length ∧ ∀ (i : Nat) (w : Cv), ws'[i]? = some (some w) → ws[i]? = some (some w) ∨ ∃ p o, ws[i]? = some (some (.ref p)) ∧ S p = some o ∧ obv o = some w
/-- an expression that reads objects of the def's own: they are frozen while it runs -/
def cRead (te : CE) : CE := fun ws S Q => ∃ ws', FrzE S ws ws' ∧ te ws' S0 fun w S1 => S1 = S0 ∧ ttv w = true ∧ Q w S
def cReadT (te : CT) : CT := fun ws S Q => ∃ ws', FrzE S ws ws' ∧ te ws' S0 fun b S1 => S1 = S0 ∧ Q b S
theorem mo_bor {te : CE} (h : MonE te) : MonE (cRead te) := fun ws S Q Q' f ⟨ws', a, q⟩ => ⟨ws', a, h _ _ _ _ (fun w S1 ⟨x, y, z⟩ => ⟨x, y, f _ _ z⟩) q⟩
theorem mo_borT {te : CT} (h : MonT te) : MonT (cReadT te) := fun ws S Q Q' f ⟨ws', a, q⟩ => ⟨ws', a, h _ _ _ _ (fun w S1 ⟨x, z⟩ => ⟨x, f _ _ z⟩) q⟩
section
variable {K : Fg} {Z : List Addr} {S : Sto} {H H' : Hp} {σ : L2.St} {ws ws' : CL.Env}
theorem s0_sub : ∀ a o, S0 a = some o → S a = some o := fun a o e => by cases e
theorem FrzE.rep (ok : StOk K Z S H) (re : RepSt K Z S H σ ws) (f : FrzE S ws ws') : RepSt K Z S0 H σ ws' := by
  refine ⟨re.1.trans f.1.symm, fun i w e => ?_⟩
  rcases f.2 i w e with h | ⟨p, o, e1, e2, e3⟩
  · obtain ⟨v, h1, h2⟩ := re.2 i w h
    exact ⟨v, h1, h2.less s0_sub⟩
  · obtain ⟨v, h1, h2⟩ := re.2 i _ e1
    cases h2
    exact ⟨_, h1, RepOb.frz ok e2 e3 s0_sub rfl⟩
theorem Fr.bor (f : Fr S0 H S0 H') : Fr S H S H' := ⟨fun a o h n => ⟨(f.keep a o h rfl).1, n⟩, f.dom⟩
theorem StOk.bor (ok : StOk K Z S H) (f : Fr S0 H S0 H') : StOk K Z S H' := ⟨fun a o e => by
  obtain ⟨u, hu⟩ := (ok.ob a o e).there
  exact (ok.ob a o e).fr f.bor ((f.keep a u hu rfl).1.trans hu.symm), fun a z => by
  obtain ⟨n, u, e, p⟩ := ok.hid a z
  exact ⟨n, u, (f.keep a u e rfl).1, p⟩⟩
end
theorem s_bor {X : Cx} {e : Expr} {te : CE} (h : SE X e te) : SE X e (cRead te) := ⟨mo_bor h.mono, h.ok.imp fun σ H Q q => by
  obtain ⟨Z, S, ws, ok, re, ws', fz, q⟩ := q
  refine ⟨Z, S0, ws', ok.less s0_sub, fz.rep ok re, h.mono _ _ _ _ (fun w S1 ⟨e1, e2, q⟩ v H' f ok' r => ?_) q⟩
  subst e1
  exact q v H' f.bor (ok.bor f) (Rep.tt (ok.bor f) e2 r)⟩
theorem st_bor {X : Cx} {e : Expr} {te : CT} (h : ST X e te) : ST X e (cReadT te) := ⟨mo_borT h.mono, h.ok.imp fun σ H Q q => by
  obtain ⟨Z, S, ws, ok, re, ws', fz, q⟩ := q
  refine ⟨Z, S0, ws', ok.less s0_sub, fz.rep ok re, h.mono _ _ _ _ (fun w S1 ⟨e1, q⟩ H' f ok' => ?_) q⟩
  subst e1
  exact q H' f.bor (ok.bor f)⟩

/-! ### computed -/
def thaw : Sl → Sl
  | .ow v => .pl v
  | s => s
def mBor (a : ME) : ME := fun gs => (a (gs.map thaw)).bind fun v => if ttv v = true then some v else none
def mBorT (a : MT) : MT := fun gs => a (gs.map thaw)
def unsl : Sl → Option Cv
  | .no => none
  | .pl v => some v
  | .ow v => some v
theorem view_bor {B S : Sto} {gs : MEnv} {ws : CL.Env} (V : View B S gs ws) : FrzE S ws (gs.map unsl) ∧ View S0 S0 (gs.map thaw) (gs.map unsl) := by
  refine ⟨⟨by rw [List.length_map, V.len], fun i w e => ?_⟩, ⟨by rw [List.length_map, List.length_map], fun i v e => ?_, fun i v e => ?_, fun i j u v p _ e => ?_, fun _ _ h => h⟩⟩
  · rw [List.getElem?_map] at e
    cases h : gs[i]? with
    | none => rw [h] at e; cases e
    | some s =>
      rw [h] at e
      cases s with
      | no => cases e
      | pl v => cases e; exact .inl (V.pl _ _ h)
      | ow v =>
        cases e
        obtain ⟨p, o, e1, e2, e3, _⟩ := V.ow _ _ h
        exact .inr ⟨p, o, e1, e2, e3⟩
  · rw [List.getElem?_map] at e ⊢
    cases h : gs[i]? with
    | none => rw [h] at e; cases e
    | some s =>
      rw [h] at e
      cases s <;> cases e <;> rfl
  · rw [List.getElem?_map] at e
    cases h : gs[i]? with
    | none => rw [h] at e; cases e
    | some s => rw [h] at e; cases s <;> cases e
  · rw [List.getElem?_map] at e
    cases h : gs[i]? with
    | none => rw [h] at e; cases e
    | some s => rw [h] at e; cases s <;> cases e
theorem ev_bor {te : CE} {a : ME} (h : Ev te a) : Ev (cRead te) (mBor a) := ⟨mo_bor h.mono, fun V e q => by
  obtain ⟨v, e1, e⟩ := bind_some e
  obtain ⟨h1, e⟩ := ite_some e
  subst e
  obtain ⟨f, V'⟩ := view_bor V
  exact ⟨_, f, h.ok V' e1 ⟨rfl, h1, q⟩⟩⟩
theorem et_bor {te : CT} {a : MT} (h : EvT te a) : EvT (cReadT te) (mBorT a) := ⟨mo_borT h.mono, fun V e q => by
  obtain ⟨f, V'⟩ := view_bor V
  exact ⟨_, f, h.ok V' e ⟨rfl, q⟩⟩⟩
def mFrz (i : Nat) (b : MS) : MS := fun gs => match gs[i]? with | some (.ow v) => b (gs.set i (.pl v)) | _ => none
theorem es_frz {i : Nat} {t : CS} {m : MS} (h : EvS t m) : EvS (cFrz i t) (mFrz i m) := ⟨mo_frz h.mono, fun {B S gs ws D r} V e q => by
  unfold mFrz at e
  split at e
  · rename_i v hv
    obtain ⟨p, o, e1, e2, e3, e4⟩ := V.ow _ _ hv
    refine ⟨p, o, v, e1, e2, e3, h.ok ?_ e q⟩
    have hi : i < gs.length := (List.getElem?_eq_some_iff.mp hv).1
    refine ⟨by simp [V.len], fun j u eu => ?_, fun j u eu => ?_, fun j k u u' x n eu eu' a b => ?_, fun a o ea => ?_⟩
    · by_cases z : i = j
      · subst z
        rw [List.getElem?_set_self hi] at eu; cases eu
        rw [List.getElem?_set_self (by rw [V.len]; exact hi)]
      · rw [List.getElem?_set_ne z] at eu ⊢; exact V.pl _ _ eu
    · by_cases z : i = j
      · subst z
        rw [List.getElem?_set_self hi] at eu; cases eu
      · rw [List.getElem?_set_ne z] at eu ⊢
        obtain ⟨p', o', f1, f2, f3, f4⟩ := V.ow _ _ eu
        refine ⟨p', o', f1, ?_, f3, f4⟩
        rw [Sto.del_ne]; exact f2
        intro y; subst y
        exact V.dj i j _ _ _ z hv eu e1 f1
    · by_cases z : i = j
      · subst z; rw [List.getElem?_set_self hi] at eu; cases eu
      · by_cases z' : i = k
        · subst z'; rw [List.getElem?_set_self hi] at eu'; cases eu'
        · rw [List.getElem?_set_ne z] at eu a
          rw [List.getElem?_set_ne z'] at eu' b
          exact V.dj j k _ _ _ n eu eu' a b
    · have : a ≠ p := fun y => by subst y; rw [e4] at ea; cases ea
      rw [Sto.del_ne this]; exact V.base _ _ ea
  · cases e⟩
/-- a new object -/
structure EvN (te : CE) (φ : ME) : Prop where
  mono : MonE te
  ok : ∀ {B S gs ws Q v}, View B S gs ws → φ gs = some v → (∀ p o, S p = none → obv o = some v → Q (.ref p) (S.set p o)) → te ws S Q
theorem en_lst {ua : CA} {u : MA} (hu : EvA ua u) : EvN (cLstO ua) (mLst u) := ⟨mo_lstO hu.mono, fun V e q => by
  obtain ⟨v1, e1, e⟩ := bind_some e
  obtain ⟨h1, e⟩ := ite_some e
  subst e
  exact hu.ok V e1 ⟨sz_of h1, fun p hp => q p _ hp rfl⟩⟩
theorem en_lc {ti : CI} {g : CG} {tt : CT} {te : CE} {mi : MA} {mg : MG} {mt : MT} {me : ME} {vs : List Nat} (hi : EvI ti mi) (hg : EvG g mg) (ht : EvT tt mt) (he : Ev te me) : EvN (cLcO ti g tt te vs) (mLc mi mg mt me vs) := ⟨mo_lcO hi.mono hg.mono ht.mono he.mono, fun {B S gs ws Q v} V e q => by
  obtain ⟨xs, e1, e⟩ := bind_some e
  obtain ⟨ys, e2, e⟩ := bind_some e
  obtain ⟨h1, e⟩ := ite_some e
  subst e
  exact hi.ok V e1 (lcL_m (Q := fun ys S2 => ∀ p, S2 p = none → Q (.ref p) (S2.set p (.lst ys))) hg ht he (V.wipe vs) e2 (by simpa using sz_of h1) fun p hp => q p _ hp rfl)⟩
/-- the slot i takes a new object -/
theorem View.own {B S : Sto} {gs : MEnv} {ws : CL.Env} (V : View B S gs ws) {p : Addr} {o : Ob} {v : Cv} (i : Nat) (hp : S p = none) (ho : obv o = some v) : View B (S.set p o) (gs.set i (.ow v)) (ws.set i (some (.ref p))) := by
  have np : ∀ a u, S a = some u → a ≠ p := fun a u e z => by subst z; rw [hp] at e; cases e
  have hi : ∀ {s}, (gs.set i (.ow v))[i]? = some s → i < gs.length := fun {s} e => by
    have := (List.getElem?_eq_some_iff.mp e).1
    simpa using this
  refine ⟨by simp [V.len], fun j u eu => ?_, fun j u eu => ?_, fun j k u u' x n eu eu' a b => ?_, fun a o ea => ?_⟩
  · by_cases z : i = j
    · subst z
      rw [List.getElem?_set_self (hi eu)] at eu; cases eu
    · rw [List.getElem?_set_ne z] at eu ⊢; exact V.pl _ _ eu
  · by_cases z : i = j
    · subst z
      have hl := hi eu
      rw [List.getElem?_set_self hl] at eu; cases eu
      refine ⟨p, o, by rw [List.getElem?_set_self (by rw [V.len]; exact hl)], Sto.set_same, ho, ?_⟩
      cases e : B p with
      | none => rfl
      | some u => rw [V.base _ _ e] at hp; cases hp
    · rw [List.getElem?_set_ne z] at eu ⊢
      obtain ⟨p', o', f1, f2, f3, f4⟩ := V.ow _ _ eu
      exact ⟨p', o', f1, by rw [Sto.set_ne (np _ _ f2)]; exact f2, f3, f4⟩
  · by_cases z : i = j
    · subst z
      have hl := hi eu
      have z' : i ≠ k := n
      rw [List.getElem?_set_self (by rw [V.len]; exact hl)] at a
      rw [List.getElem?_set_ne z'] at eu' b
      cases a
      obtain ⟨p', o', f1, f2, f3, f4⟩ := V.ow _ _ eu'
      rw [b] at f1
      cases f1
      exact np _ _ f2 rfl
    · by_cases z' : i = k
      · subst z'
        have hl := hi eu'
        rw [List.getElem?_set_self (by rw [V.len]; exact hl)] at b
        rw [List.getElem?_set_ne z] at eu a
        cases b
        obtain ⟨p', o', f1, f2, f3, f4⟩ := V.ow _ _ eu
        rw [a] at f1
        cases f1
        exact np _ _ f2 rfl
      · rw [List.getElem?_set_ne z] at eu a
        rw [List.getElem?_set_ne z'] at eu' b
        exact V.dj j k _ _ _ n eu eu' a b
  · have h := V.base _ _ ea
    rw [Sto.set_ne (np _ _ h)]; exact h
def mAsgN (a : ME) (i : Nat) : MS := fun gs => (a gs).map fun v => .nx (gs.set i (.ow v))
theorem es_asgN {te : CE} {a : ME} {i : Nat} (h : EvN te a) : EvS (cAsg te (cgName i)) (mAsgN a i) := ⟨cAsg_mono h.mono mo_gname, fun V e q => by
  obtain ⟨v, e1, e⟩ := map_some' e
  subst e
  exact h.ok V e1 fun p o hp ho => q _ _ (V.own i hp ho)⟩
/-- the object in slot i changes -/
theorem View.chg {B S : Sto} {gs : MEnv} {ws : CL.Env} (V : View B S gs ws) {p : Addr} {o' : Ob} {v v' : Cv} {i : Nat} (hv : gs[i]? = some (.ow v)) (hw : ws[i]? = some (some (.ref p))) (ho : obv o' = some v') : View B (S.set p o') (gs.set i (.ow v')) ws := by
  have hi : i < gs.length := (List.getElem?_eq_some_iff.mp hv).1
  obtain ⟨p0, o0, g1, g2, g3, g4⟩ := V.ow _ _ hv
  rw [hw] at g1
  cases g1
  refine ⟨by simp [V.len], fun j u eu => ?_, fun j u eu => ?_, fun j k u u' x n eu eu' a b => ?_, fun a o ea => ?_⟩
  · by_cases z : i = j
    · subst z
      rw [List.getElem?_set_self hi] at eu; cases eu
    · rw [List.getElem?_set_ne z] at eu; exact V.pl _ _ eu
  · by_cases z : i = j
    · subst z
      rw [List.getElem?_set_self hi] at eu; cases eu
      exact ⟨p, o', hw, Sto.set_same, ho, g4⟩
    · rw [List.getElem?_set_ne z] at eu
      obtain ⟨p', o', f1, f2, f3, f4⟩ := V.ow _ _ eu
      refine ⟨p', o', f1, ?_, f3, f4⟩
      rw [Sto.set_ne]; exact f2
      intro y; subst y
      exact V.dj i j _ _ _ z hv eu hw f1
  · have up : ∀ (j : Nat) (u : Cv), (gs.set i (.ow v'))[j]? = some (.ow u) → ∃ u, gs[j]? = some (.ow u) := fun j u eu => by
      by_cases z : i = j
      · subst z; exact ⟨_, hv⟩
      · rw [List.getElem?_set_ne z] at eu; exact ⟨_, eu⟩
    obtain ⟨_, eu⟩ := up _ _ eu
    obtain ⟨_, eu'⟩ := up _ _ eu'
    exact V.dj j k _ _ _ n eu eu' a b
  · have : a ≠ p := fun y => by subst y; rw [g4] at ea; cases ea
    rw [Sto.set_ne this]; exact V.base _ _ ea
theorem obv_lst {o : Ob} {xs : List Cv} (h : obv o = some (.lst xs)) : o = .lst xs := by
  cases o <;> simp [obv] at h
  rw [h]
def mAppend (i : Nat) (a : ME) : MS := fun gs => match gs[i]? with
  | some (.ow (.lst xs)) => (a gs).bind fun v => if decide (xs.length < 1000000) = true then some (.nx (gs.set i (.ow (.lst (xs ++ [v]))))) else none
  | _ => none
theorem es_append {te : CE} {a : ME} {i : Nat} (h : Ev te a) : EvS (cDrop (cBM "list" cAppend (cVar i) (cCons te cNil))) (mAppend i a) := ⟨mo_drop (cBM_mono mo_append mo_var (mo_cons h.mono mo_nil)), fun V e q => by
  unfold mAppend at e
  split at e
  · rename_i xs hx
    obtain ⟨v, e1, e⟩ := bind_some e
    obtain ⟨h1, e⟩ := ite_some e
    subst e
    obtain ⟨p, o, f1, f2, f3, f4⟩ := V.ow _ _ hx
    cases obv_lst f3
    refine x_drop (x_bmK (x_var f1 (x_kBM f2 (x_ccons (h.ok V e1 (x_cnil ?_))))))
    refine x_append f2 (Nat.lt_of_lt_of_le (of_decide_eq_true h1) (by decide)) ?_
    exact q _ _ (V.chg hx f1 rfl)
  · cases e⟩
def mExtend (i : Nat) (a : ME) : MS := fun gs => match gs[i]? with
  | some (.ow (.lst xs)) => (a gs).bind fun v => match v with | .lst zs => if lenOk (xs.length + zs.length) = true then some (.nx (gs.set i (.ow (.lst (xs ++ zs))))) else none | _ => none
  | _ => none
theorem es_extend {te : CE} {a : ME} {i : Nat} (h : Ev te a) : EvS (cDrop (cBM "list" cExtend (cVar i) (cCons te cNil))) (mExtend i a) := ⟨mo_drop (cBM_mono mo_extend mo_var (mo_cons h.mono mo_nil)), fun V e q => by
  unfold mExtend at e
  split at e
  · rename_i xs hx
    obtain ⟨v, e1, e⟩ := bind_some e
    split at e
    · obtain ⟨h1, e⟩ := ite_some e
      subst e
      obtain ⟨p, o, f1, f2, f3, f4⟩ := V.ow _ _ hx
      cases obv_lst f3
      refine x_drop (x_bmK (x_var f1 (x_kBM f2 (x_ccons (h.ok V e1 (x_cnil ?_))))))
      refine x_extendL f2 (sz_of h1) ?_
      exact q _ _ (V.chg hx f1 rfl)
    · cases e
  · cases e⟩
def mSetL (i : Nat) (k a : ME) : MS := fun gs => match gs[i]? with
  | some (.ow (.lst xs)) => (a gs).bind fun v => (k gs).bind fun n => match n with | .int n => (match ixN xs.length n with | some j => some (.nx (gs.set i (.ow (.lst (xs.set j v))))) | none => none) | _ => none
  | _ => none
theorem es_setL {te tk : CE} {a k : ME} {i : Nat} (hk : Ev tk k) (h : Ev te a) : EvS (cSetL (cVar i) tk te) (mSetL i k a) := ⟨mo_setL h.mono mo_var hk.mono, fun V e q => by
  unfold mSetL at e
  split at e
  · rename_i xs hx
    obtain ⟨v, e1, e⟩ := bind_some e
    obtain ⟨n, e2, e⟩ := bind_some e
    split at e
    · rename_i n
      obtain ⟨p, o, f1, f2, f3, f4⟩ := V.ow _ _ hx
      cases obv_lst f3
      refine x_setK (h.ok V e1 (x_var f1 (hk.ok V e2 ?_)))
      split at e
      · rename_i j hj
        cases e
        exact x_kSet f2 hj (q _ _ (V.chg hx f1 rfl))
      · cases e
    · cases e
  · cases e⟩
def mPopE (i j : Nat) : MS := fun gs => match gs[i]? with
  | some (.ow (.lst xs)) => if i = j then none else (match xs[xs.length - 1]? with | some w => some (.nx ((gs.set i (.ow (.lst xs.dropLast))).set j (.pl w))) | none => none)
  | _ => none
theorem es_pop {i j : Nat} : EvS (cAsg (cBM "list" cPop (cVar i) cNil) (cgName j)) (mPopE i j) := ⟨cAsg_mono (cBM_mono m_pop_mono mo_var mo_nil) mo_gname, fun V e q => by
  unfold mPopE at e
  split at e
  · rename_i xs hx
    split at e
    · cases e
    · split at e
      · rename_i w hw
        cases e
        obtain ⟨p, o, f1, f2, f3, f4⟩ := V.ow _ _ hx
        cases obv_lst f3
        refine x_asg (x_bmK (x_var f1 (x_kBM f2 (x_cnil (ownL_to f2 ?_)))))
        show match xs[xs.length - 1]? with | some w => _ | none => False
        rw [hw]
        exact q _ _ ((V.chg hx f1 rfl).set _ _)
      · cases e
  · cases e⟩ where
  m_pop_mono : MonM cPop := fun o us S Q Q' f h => by
    unfold cPop at h ⊢
    split at h
    · refine ownL_imp (fun xs q => ?_) h
      split at q
      · exact f _ _ q
      · exact q.elim
    · exact h.elim
end CL

set_option Elab.async false
set_option linter.all false
set_option maxRecDepth 100000
set_option maxHeartbeats 1000000
/-! ML4: parallel stores with new objects; laws of the computed readings -/
namespace CL
open PySem PySem.Spec PyProof.Rows L2
abbrev MAo := MEnv → Option (List Sl)
inductive Alloc : Sto → Sto → List Sl → List Cv → Prop
  | nil {S : Sto} : Alloc S S [] []
  | pl {S S' : Sto} {v : Cv} {ss : List Sl} {us : List Cv} : Alloc S S' ss us → Alloc S S' (.pl v :: ss) (v :: us)
  | ow {S S' : Sto} {v : Cv} {ss : List Sl} {us : List Cv} {p : Addr} {o : Ob} : S p = none → obv o = some v → Alloc (S.set p o) S' ss us → Alloc S S' (.ow v :: ss) (.ref p :: us)
theorem View.ext {B S : Sto} {gs : MEnv} {ws : CL.Env} (V : View B S gs ws) {p : Addr} {o : Ob} (hp : S p = none) : View B (S.set p o) gs ws := by
  have np : ∀ a u, S a = some u → a ≠ p := fun a u e z => by subst z; rw [hp] at e; cases e
  refine ⟨V.len, V.pl, fun j u eu => ?_, V.dj, fun a u ea => ?_⟩
  · obtain ⟨p', o', f1, f2, f3, f4⟩ := V.ow _ _ eu
    exact ⟨p', o', f1, by rw [Sto.set_ne (np _ _ f2)]; exact f2, f3, f4⟩
  · have h := V.base _ _ ea
    rw [Sto.set_ne (np _ _ h)]; exact h
structure EvAo (te : CA) (φ : MAo) : Prop where
  mono : MonA te
  ok : ∀ {B S gs ws Q ss}, View B S gs ws → φ gs = some ss → (∀ S' us, Alloc S S' ss us → Q us S') → te ws S Q
def moNil : MAo := fun _ => some []
def moP (a : ME) (u : MAo) : MAo := fun gs => (a gs).bind fun x => (u gs).map fun r => .pl x :: r
def moN (a : ME) (u : MAo) : MAo := fun gs => (a gs).bind fun x => (u gs).map fun r => .ow x :: r
theorem ao_nil : EvAo cNil moNil := ⟨mo_nil, fun V e q => by cases e; exact q _ _ .nil⟩
theorem ao_p {te : CE} {a : ME} {ua : CA} {u : MAo} (h : Ev te a) (hu : EvAo ua u) : EvAo (cCons te ua) (moP a u) := ⟨mo_cons h.mono hu.mono, fun V e q => by
  obtain ⟨v, e1, e⟩ := bind_some e
  obtain ⟨r, e2, e⟩ := map_some' e
  subst e
  exact h.ok V e1 (hu.ok V e2 fun S' us al => q _ _ (.pl al))⟩
theorem ao_n {te : CE} {a : ME} {ua : CA} {u : MAo} (h : EvN te a) (hu : EvAo ua u) : EvAo (cCons te ua) (moN a u) := ⟨mo_cons h.mono hu.mono, fun V e q => by
  obtain ⟨v, e1, e⟩ := bind_some e
  obtain ⟨r, e2, e⟩ := map_some' e
  subst e
  exact h.ok V e1 fun p o hp ho => hu.ok (V.ext hp) e2 fun S' us al => q _ _ (.ow hp ho al)⟩
theorem View.alloc1 {B S S' : Sto} {gs : MEnv} {ws : CL.Env} {s : Sl} {u : Cv} {ss : List Sl} {us : List Cv} (V : View B S gs ws) (i : Nat) (h : Alloc S S' (s :: ss) (u :: us)) : ∃ S1, View B S1 (gs.set i s) (ws.set i (some u)) ∧ Alloc S1 S' ss us := by
  cases h with
  | pl h => exact ⟨_, V.set i _, h⟩
  | ow hp ho h => exact ⟨_, V.own i hp ho, h⟩
def mParO (i j : Nat) (u : MAo) : MS := fun gs => (u gs).bind fun | [x, y] => some (.nx ((gs.set i x).set j y)) | _ => none
def mParO3 (i j l : Nat) (u : MAo) : MS := fun gs => (u gs).bind fun | [x, y, z] => some (.nx (((gs.set i x).set j y).set l z)) | _ => none
theorem es_parO {i j : Nat} {ua : CA} {u : MAo} (h : EvAo ua u) : EvS (cPar i j ua) (mParO i j u) := ⟨mo_par h.mono, fun {B S gs ws D r} V e q => by
  obtain ⟨ss, e1, e⟩ := bind_some e
  refine h.ok V e1 fun S' us al => ?_
  split at e
  · cases e
    have l : ∃ a b, us = [a, b] := by
      cases al with
      | pl al => cases al with
        | pl al => cases al; exact ⟨_, _, rfl⟩
        | ow _ _ al => cases al; exact ⟨_, _, rfl⟩
      | ow _ _ al => cases al with
        | pl al => cases al; exact ⟨_, _, rfl⟩
        | ow _ _ al => cases al; exact ⟨_, _, rfl⟩
    obtain ⟨a, b, rfl⟩ := l
    obtain ⟨S1, V1, al⟩ := V.alloc1 i al
    obtain ⟨S2, V2, al⟩ := V1.alloc1 j al
    cases al
    exact q _ _ V2
  · cases e⟩
theorem Alloc.len {S S' : Sto} {ss : List Sl} {us : List Cv} (h : Alloc S S' ss us) : us.length = ss.length := by
  induction h with
  | nil => rfl
  | pl _ ih => simp [ih]
  | ow _ _ _ ih => simp [ih]
theorem es_parO3 {i j l : Nat} {ua : CA} {u : MAo} (h : EvAo ua u) : EvS (cPar3 i j l ua) (mParO3 i j l u) := ⟨mo_par3 h.mono, fun {B S gs ws D r} V e q => by
  obtain ⟨ss, e1, e⟩ := bind_some e
  refine h.ok V e1 fun S' us al => ?_
  split at e
  · cases e
    have hl := al.len
    match us, hl with
    | [a, b, c], _ =>
      obtain ⟨S1, V1, al⟩ := V.alloc1 i al
      obtain ⟨S2, V2, al⟩ := V1.alloc1 j al
      obtain ⟨S3, V3, al⟩ := V2.alloc1 l al
      cases al
      exact q _ _ V3
  · cases e⟩

/-! ### laws -/
theorem arg_eq {n : Nat} {m : List Cv → Option Cv} {us : List Cv} (h : us.length = n := by rfl) : arg n m us = m us := if_pos h
theorem mLcL_nil {g : MG} {tt : MT} {te : ME} {gs : MEnv} : mLcL g tt te gs [] = some [] := rfl
theorem mLcL_cons {g : MG} {tt : MT} {te : ME} {gs : MEnv} {x : Cv} {r : List Cv} : mLcL g tt te gs (x :: r) = (g x gs).bind fun gs1 => (tt gs1).bind fun b => if b = true then (te gs1).bind fun y => (mLcL g tt te gs r).map fun ys => y :: ys else mLcL g tt te gs r := rfl
/-- a comprehension without a test -/
theorem mLcL_map {α : Type} {g : MG} {te : ME} {gs : MEnv} (e f : α → Cv) : ∀ {as : List α}, (∀ a ∈ as, (g (e a) gs).bind te = some (f a)) → mLcL g mYes te gs (as.map e) = some (as.map f)
  | [], _ => rfl
  | a :: r, h => by
    have ha := h a List.mem_cons_self
    rw [List.map_cons, mLcL_cons, mLcL_map e f fun b hb => h b (List.mem_cons_of_mem _ hb)]
    obtain ⟨gs1, e1, e2⟩ := bind_some ha
    simp [e1, mYes, e2]
/-- .. with a test -/
theorem mLcL_filter {α : Type} {g : MG} {tt : MT} {te : ME} {gs : MEnv} (e : α → Cv) (p : α → Bool) (f : α → Cv) : ∀ {as : List α}, (∀ a ∈ as, ∃ gs1, g (e a) gs = some gs1 ∧ tt gs1 = some (p a) ∧ (p a = true → te gs1 = some (f a))) → mLcL g tt te gs (as.map e) = some ((as.filter p).map f)
  | [], _ => rfl
  | a :: r, h => by
    obtain ⟨gs1, e1, e2, e3⟩ := h a List.mem_cons_self
    rw [List.map_cons, mLcL_cons, mLcL_filter e p f fun b hb => h b (List.mem_cons_of_mem _ hb), e1, Option.bind_some, e2, Option.bind_some, List.filter_cons]
    cases hp : p a with
    | true => rw [if_pos rfl, if_pos rfl, e3 hp]; rfl
    | false => rw [if_neg (by decide), if_neg (by decide)]
theorem mLc2L_cons {g g1 : MG} {tt tt1 : MT} {ti1 : MA} {te : ME} {vs1 : List Nat} {gs : MEnv} {x : Cv} {r : List Cv} : mLc2L g tt ti1 g1 tt1 te vs1 gs (x :: r) = (g x gs).bind fun gs1 => (tt gs1).bind fun b => if b = true then
      (ti1 gs1).bind fun ys => (mLcL g1 tt1 te (mwipe gs1 vs1) ys).bind fun zs => (mLc2L g tt ti1 g1 tt1 te vs1 gs r).map fun rs => zs ++ rs
    else mLc2L g tt ti1 g1 tt1 te vs1 gs r := rfl
theorem mLc2L_map {α : Type} {g g1 : MG} {tt1 : MT} {ti1 : MA} {te : ME} {vs1 : List Nat} {gs : MEnv} (e : α → Cv) (f : α → List Cv) : ∀ {as : List α}, (∀ a ∈ as, ((g (e a) gs).bind fun gs1 => (ti1 gs1).bind fun ys => mLcL g1 tt1 te (mwipe gs1 vs1) ys) = some (f a)) → mLc2L g mYes ti1 g1 tt1 te vs1 gs (as.map e) = some (as.flatMap f)
  | [], _ => rfl
  | a :: r, h => by
    have ha := h a List.mem_cons_self
    rw [List.map_cons, mLc2L_cons, mLc2L_map e f fun b hb => h b (List.mem_cons_of_mem _ hb)]
    obtain ⟨gs1, e1, e2⟩ := bind_some ha
    obtain ⟨ys, e3, e4⟩ := bind_some e2
    simp [e1, mYes, e3, e4]
theorem fLst_ok {xs : List Cv} (h : xs.length ≤ 1000000) : fLst xs = some (.lst xs) := if_pos (decide_eq_true h)
theorem fTup_ok {xs : List Cv} (h : xs.length ≤ 1000000) : fTup xs = some (.tup xs) := if_pos (decide_eq_true h)
theorem mForL_nil {g : MG} {b : MS} {vs : List Nat} {gs : MEnv} : mForL g b vs [] gs = some (.nx gs) := rfl
theorem mForL_cons {g : MG} {b : MS} {vs : List Nat} {x : Cv} {r : List Cv} {gs : MEnv} : mForL g b vs (x :: r) gs = (g x gs).bind fun gs1 => (b gs1).bind fun
    | .nx gs2 => mForL g b vs r (mwipe gs2 vs)
    | .ct gs2 => mForL g b vs r (mwipe gs2 vs)
    | .bk gs2 => some (.nx (mwipe gs2 vs))
    | .rt v => some (.rt v) := rfl
theorem mWhile_succ {c : MT} {b : MS} {vs : List Nat} {n : Nat} {gs : MEnv} : mWhile c b vs (n + 1) gs = (c gs).bind fun x => if x = true then (b gs).bind fun
      | .nx gs2 => mWhile c b vs n (mwipe gs2 vs)
      | .ct gs2 => mWhile c b vs n (mwipe gs2 vs)
      | .bk gs2 => some (.nx (mwipe gs2 vs))
      | .rt v => some (.rt v)
    else some (.nx gs) := rfl
theorem iota_map (n : Nat) (i : Int) : iota i n = (List.range n).map fun (k : Nat) => Cv.int (i + k) := rfl
end CL

set_option Elab.async false
set_option linter.all false
set_option maxRecDepth 100000
set_option maxHeartbeats 1000000
/-! ML5: computed readings, step by step -/
namespace CL
open PySem PySem.Spec PyProof.Rows L2
def mIte {α : Type} (x : Option Bool) (a b : MEnv → Option α) (gs : MEnv) : Option α := x.bind fun c => if c = true then a gs else b gs
section
variable {α : Type} {a b : MEnv → Option α} {gs gs' : MEnv} {s : Sl} {x y z : ME} {t u : MT} {p q : MS} {f g : Cv → Cv → Option Cv} {v w : Cv} {i j k n : Nat} {k l : Int} {xs ys : List Cv} {U : MA} {c : Bool} {G : MG} {Gs : MGs} {vs : List Nat} {r : Rz}
theorem ite_t : mIte (some true) a b gs = a gs := rfl
theorem ite_f : mIte (some false) a b gs = b gs := rfl
theorem ite_n : mIte (some (!c)) a b gs = mIte (some c) b a gs := by cases c <;> rfl
theorem q_var0 : mVar 0 (.pl v :: gs) = some v := rfl
theorem q_varS : mVar (n + 1) (s :: gs) = mVar n gs := rfl
theorem q_c : mC v gs = some v := rfl
theorem q_op : mOp f x y gs = (x gs).bind fun a => (y gs).bind fun b => f a b := rfl
theorem q_un {h : Cv → Option Cv} : mUn h x gs = (x gs).bind h := rfl
theorem q_b : mB x gs = (x gs).bind fB := rfl
theorem q_fB : fB (.bl c) = some c := rfl
theorem q_and : mAnd t u gs = mIte (t gs) u (fun _ => some false) gs := rfl
theorem q_or : mOr t u gs = mIte (t gs) (fun _ => some true) u gs := rfl
theorem q_not : mNot t gs = (t gs).map fun b => !b := rfl
theorem q_andV : mAndV x y gs = mIte ((x gs).bind fB) y (fun _ => some (.bl false)) gs := rfl
theorem q_orV : mOrV x y gs = mIte ((x gs).bind fB) (fun _ => some (.bl true)) y gs := rfl
theorem q_notV : mNotV x gs = ((x gs).bind fB).map fun b => .bl (!b) := rfl
theorem q_if : mIf t x y gs = mIte (t gs) x y gs := rfl
theorem q_chain : mChain f g x y z gs = (x gs).bind fun a => (y gs).bind fun b => mIte ((f a b).bind fB) (fun gs => (z gs).bind fun u => g b u) (fun _ => some (.bl false)) gs := rfl
theorem q_nil : mNil gs = some [] := rfl
theorem q_cons : mCons x U gs = (x gs).bind fun a => (U gs).map fun r => a :: r := rfl
theorem q_tup : mTup U gs = (U gs).bind fTup := rfl
theorem q_lst : mLst U gs = (U gs).bind fLst := rfl
theorem q_cb {h : List Cv → Option Cv} : mCB h U gs = (U gs).bind h := rfl
theorem q_ckw {h : List Cv → List Cv → Option Cv} {V : MA} : mCKw h U V gs = (U gs).bind fun a => (V gs).bind fun b => h a b := rfl
theorem q_noPart : mNoPart gs = some none := rfl
def fPart : Cv → Option (Option Int)
  | .int i => some (some i)
  | _ => none
theorem q_part : mPart x gs = (x gs).bind fPart := rfl
theorem q_fPart : fPart (.int k) = some (some k) := rfl
theorem q_sl {h : Cv → Option Int → Option Int → Option Cv} {A B : MO} : mSl h x A B gs = (x gs).bind fun a => (A gs).bind fun l => (B gs).bind fun u => h a l u := rfl
theorem q_gname : mgName n v gs = some (gs.set n (.pl v)) := rfl
theorem q_gnil : mgNil [] gs = some gs := rfl
theorem q_gcons : mgCons G Gs (v :: xs) gs = (G v gs).bind fun gs1 => Gs xs gs1 := rfl
theorem q_gtup (h : xs.length = n := by rfl) : mgTup n Gs (.tup xs) gs = Gs xs gs := if_pos h
theorem q_gtup2 {x1 x2 : Cv} : mgTup 2 Gs (.tup [x1, x2]) gs = Gs [x1, x2] gs := rfl
theorem q_gtup3 {x1 x2 x3 : Cv} : mgTup 3 Gs (.tup [x1, x2, x3]) gs = Gs [x1, x2, x3] gs := rfl
theorem q_gtup4 {x1 x2 x3 x4 : Cv} : mgTup 4 Gs (.tup [x1, x2, x3, x4]) gs = Gs [x1, x2, x3, x4] gs := rfl
theorem q_seqI : mSeqI x gs = (x gs).bind fSeq := rfl
theorem q_fSeqT : fSeq (.tup xs) = some xs := rfl
theorem q_fSeqL : fSeq (.lst xs) = some xs := rfl
theorem q_fSeqS {z : Str} : fSeq (.str z) = some (signs z) := rfl
theorem q_rng1 : mRng1 U gs = (U gs).bind fRng1 := rfl
theorem q_rng2 : mRng2 U gs = (U gs).bind fRng2 := rfl
theorem q_enumI : mEnumI U gs = (U gs).bind fEnum := rfl
theorem q_fEnumT : fEnum [.tup xs] = some (pairsFrom 0 xs) := rfl
theorem q_fEnumL : fEnum [.lst xs] = some (pairsFrom 0 xs) := rfl
theorem q_arg0 {m : List Cv → Option Cv} : arg 0 m [] = m [] := rfl
theorem q_arg1 {m : List Cv → Option Cv} {x1 : Cv} : arg 1 m [x1] = m [x1] := rfl
theorem q_arg2 {m : List Cv → Option Cv} {x1 x2 : Cv} : arg 2 m [x1, x2] = m [x1, x2] := rfl
theorem q_arg3 {m : List Cv → Option Cv} {x1 x2 x3 : Cv} : arg 3 m [x1, x2, x3] = m [x1, x2, x3] := rfl
theorem q_arg4 {m : List Cv → Option Cv} {x1 x2 x3 x4 : Cv} : arg 4 m [x1, x2, x3, x4] = m [x1, x2, x3, x4] := rfl
theorem q_arg5 {m : List Cv → Option Cv} {x1 x2 x3 x4 x5 : Cv} : arg 5 m [x1, x2, x3, x4, x5] = m [x1, x2, x3, x4, x5] := rfl
theorem q_next : mNext gs = some (.nx gs) := rfl
def mThen (q : MS) : Rz → Option Rz
  | .nx gs' => q gs'
  | r => some r
theorem q_seq : mSeq p q (s :: gs) = (p (s :: gs)).bind (mThen q) := by
  unfold mSeq
  congr 1
theorem q_thenN : mThen q (.nx gs) = q gs := rfl
theorem q_thenR : mThen q (.rt v) = some (.rt v) := rfl
theorem q_thenB : mThen q (.bk gs) = some (.bk gs) := rfl
theorem q_thenC : mThen q (.ct gs) = some (.ct gs) := rfl
theorem q_asg : mAsg x G gs = (x gs).bind fun v => (G v gs).map .nx := rfl
theorem q_drop : mDrop x gs = (x gs).map fun _ => .nx gs := rfl
theorem q_ret : mRet x gs = (x gs).map .rt := rfl
theorem q_retN : mRetN gs = some (.rt .non) := rfl
theorem q_ifS : mIfS t p q gs = mIte (t gs) p q gs := rfl
theorem q_break : mBreak gs = some (.bk gs) := rfl
theorem q_cont : mCont gs = some (.ct gs) := rfl
theorem q_for : mFor U G p vs gs = (U gs).bind fun xs => mForL G p vs xs (mwipe gs vs) := rfl
def mLoop (G : MG) (b : MS) (vs : List Nat) (r : List Cv) : Rz → Option Rz
  | .nx gs2 => mForL G b vs r (mwipe gs2 vs)
  | .ct gs2 => mForL G b vs r (mwipe gs2 vs)
  | .bk gs2 => some (.nx (mwipe gs2 vs))
  | .rt v => some (.rt v)
theorem q_forL0 : mForL G p vs [] gs = some (.nx gs) := rfl
theorem q_forL : mForL G p vs (v :: xs) gs = (G v gs).bind fun gs1 => (p gs1).bind (mLoop G p vs xs) := by
  rw [mForL_cons]
  congr 1
theorem q_loopN : mLoop G p vs xs (.nx gs) = mForL G p vs xs (mwipe gs vs) := rfl
theorem q_loopC : mLoop G p vs xs (.ct gs) = mForL G p vs xs (mwipe gs vs) := rfl
theorem q_loopB : mLoop G p vs xs (.bk gs) = some (.nx (mwipe gs vs)) := rfl
theorem q_loopR : mLoop G p vs xs (.rt v) = some (.rt v) := rfl
def mLoopW (t : MT) (b : MS) (vs : List Nat) (n : Nat) : Rz → Option Rz
  | .nx gs2 => mWhile t b vs n (mwipe gs2 vs)
  | .ct gs2 => mWhile t b vs n (mwipe gs2 vs)
  | .bk gs2 => some (.nx (mwipe gs2 vs))
  | .rt v => some (.rt v)
theorem q_while : mWhile t p vs (n + 1) gs = mIte (t gs) (fun gs => (p gs).bind (mLoopW t p vs n)) (fun gs => some (.nx gs)) gs := by
  show mWhile t p vs (n + 1) gs = (t gs).bind fun x => if x = true then (p gs).bind (mLoopW t p vs n) else some (.nx gs)
  rw [mWhile_succ]
  congr 1
theorem q_loopWN : mLoopW t p vs n (.nx gs) = mWhile t p vs n (mwipe gs vs) := rfl
theorem q_loopWC : mLoopW t p vs n (.ct gs) = mWhile t p vs n (mwipe gs vs) := rfl
theorem q_loopWB : mLoopW t p vs n (.bk gs) = some (.nx (mwipe gs vs)) := rfl
theorem q_loopWR : mLoopW t p vs n (.rt v) = some (.rt v) := rfl
def slP : Option Sl → Option Cv
  | some (.pl v) => some v
  | _ => none
def slO : Option Sl → Option Cv
  | some (.ow v) => some v
  | _ => none
theorem q_slP : slP (some (.pl v)) = some v := rfl
theorem q_slO : slO (some (.ow v)) = some v := rfl
theorem q_aug : mAug n x f gs = (slP gs[n]?).bind fun v => (x gs).bind fun y => (f v y).map fun z => .nx (gs.set n (.pl z)) := by
  unfold mAug
  cases gs[n]? with
  | none => rfl
  | some s => cases s <;> rfl
def f2 (k : Cv → Cv → Option Rz) : List Cv → Option Rz
  | [a, b] => k a b
  | _ => none
def f3 (k : Cv → Cv → Cv → Option Rz) : List Cv → Option Rz
  | [a, b, c] => k a b c
  | _ => none
theorem q_f2 {k : Cv → Cv → Option Rz} : f2 k [v, w] = k v w := rfl
theorem q_f3 {k : Cv → Cv → Cv → Option Rz} {u : Cv} : f3 k [v, w, u] = k v w u := rfl
theorem q_par : mPar i j U gs = (U gs).bind (f2 fun x y => some (.nx ((gs.set i (.pl x)).set j (.pl y)))) := by
  unfold mPar; congr 1
theorem q_par3 : mPar3 i j n U gs = (U gs).bind (f3 fun x y z => some (.nx (((gs.set i (.pl x)).set j (.pl y)).set n (.pl z)))) := by
  unfold mPar3; congr 1
def g2 (k : Sl → Sl → Option Rz) : List Sl → Option Rz
  | [a, b] => k a b
  | _ => none
def g3 (k : Sl → Sl → Sl → Option Rz) : List Sl → Option Rz
  | [a, b, c] => k a b c
  | _ => none
theorem q_g2 {k : Sl → Sl → Option Rz} {s1 s2 : Sl} : g2 k [s1, s2] = k s1 s2 := rfl
theorem q_g3 {k : Sl → Sl → Sl → Option Rz} {s1 s2 s3 : Sl} : g3 k [s1, s2, s3] = k s1 s2 s3 := rfl
theorem q_parO {V : MAo} : mParO i j V gs = (V gs).bind (g2 fun x y => some (.nx ((gs.set i x).set j y))) := by
  unfold mParO; congr 1
theorem q_parO3 {V : MAo} : mParO3 i j n V gs = (V gs).bind (g3 fun x y z => some (.nx (((gs.set i x).set j y).set n z))) := by
  unfold mParO3; congr 1
theorem q_oNil : moNil gs = some [] := rfl
theorem q_oP {V : MAo} : moP x V gs = (x gs).bind fun a => (V gs).map fun r => .pl a :: r := rfl
theorem q_oN {V : MAo} : moN x V gs = (x gs).bind fun a => (V gs).map fun r => .ow a :: r := rfl
theorem q_asgN : mAsgN x n gs = (x gs).map fun v => .nx (gs.set n (.ow v)) := rfl
theorem q_frz : mFrz n p gs = (slO gs[n]?).bind fun v => p (gs.set n (.pl v)) := by
  unfold mFrz
  cases gs[n]? with
  | none => rfl
  | some s => cases s <;> rfl
def fTt (v : Cv) : Option Cv := if ttv v = true then some v else none
theorem q_bor : mBor x gs = (x (gs.map thaw)).bind fTt := rfl
theorem q_borT : mBorT t gs = t (gs.map thaw) := rfl
theorem q_thO : thaw (.ow v) = .pl v := rfl
theorem q_thP : thaw (.pl v) = .pl v := rfl
theorem q_thN : thaw .no = .no := rfl
theorem fTt_ok (h : ttv v = true) : fTt v = some v := if_pos h
theorem q_ttI : fTt (.int k) = some (.int k) := rfl
theorem q_ttB : fTt (.bl c) = some (.bl c) := rfl
theorem q_ttS {z : Str} : fTt (.str z) = some (.str z) := rfl
def fApp (v : Cv) : Cv → Option Cv
  | .lst xs => if decide (xs.length < 1000000) = true then some (.lst (xs ++ [v])) else none
  | _ => none
def lstOnly : Cv → Option Cv
  | .lst xs => some (.lst xs)
  | _ => none
theorem q_append : mAppend n x gs = (slO gs[n]?).bind fun o => (lstOnly o).bind fun o => (x gs).bind fun v => (fApp v o).map fun o => .nx (gs.set n (.ow o)) := by
  unfold mAppend
  cases gs[n]? with
  | none => rfl
  | some s => cases s with
    | no => rfl
    | pl v => rfl
    | ow v => cases v <;> first | rfl | skip
              show (x gs).bind _ = (x gs).bind _
              congr 1; funext v
              show (if _ then _ else _) = Option.map _ (if _ then _ else _)
              split <;> rfl
theorem q_lstOnly : lstOnly (.lst xs) = some (.lst xs) := rfl
theorem q_fApp (h : xs.length < 1000000) : fApp v (.lst xs) = some (.lst (xs ++ [v])) := if_pos (decide_eq_true h)
def fExt : Cv → Cv → Option Cv
  | .lst zs, .lst xs => if lenOk (xs.length + zs.length) = true then some (.lst (xs ++ zs)) else none
  | _, _ => none
theorem q_extend : mExtend n x gs = (slO gs[n]?).bind fun o => (lstOnly o).bind fun o => (x gs).bind fun v => (fExt v o).map fun o => .nx (gs.set n (.ow o)) := by
  unfold mExtend
  cases gs[n]? with
  | none => rfl
  | some s => cases s with
    | no => rfl
    | pl v => rfl
    | ow v => cases v <;> first | rfl | skip
              show (x gs).bind _ = (x gs).bind _
              congr 1; funext v
              cases v <;> first | rfl | skip
              show (if _ then _ else _) = Option.map _ (if _ then _ else _)
              split <;> rfl
theorem q_fExt (h : xs.length + ys.length ≤ 1000000) : fExt (.lst ys) (.lst xs) = some (.lst (xs ++ ys)) := if_pos (decide_eq_true h)
theorem q_lc {te : ME} : mLc U G t te vs gs = (U gs).bind fun xs => (mLcL G t te (mwipe gs vs) xs).bind fLst := rfl
theorem q_lc2 {te : ME} {U1 : MA} {G1 : MG} {t1 : MT} {vs1 : List Nat} : mLc2 U G t U1 G1 t1 te vs vs1 gs = (U gs).bind fun xs => (mLc2L G t U1 G1 t1 te vs1 (mwipe gs vs) xs).bind fLst := rfl
theorem q_wipe0 : mwipe gs [] = gs := rfl
theorem q_wipe : mwipe gs (n :: vs) = (mwipe gs vs).set n .no := rfl
-- operations on constructors
theorem q_fI {h : Int → Int → Cv} : fI h (.int k) (.int l) = some (h k l) := rfl
theorem q_fIC {C : Int → Int → Bool} {h : Int → Int → Cv} (e : C k l = true) : fIC C h (.int k) (.int l) = some (h k l) := if_pos e
theorem q_mod (e : 0 < l) : fMod (.int k) (.int l) = some (.int (k % l)) := q_fIC (decide_eq_true e)
theorem q_mul (e : (-1000000000000000000000000000000 ≤ k ∧ k ≤ 1000000000000000000000000000000) ∧ -1000000000000000000000000000000 ≤ l ∧ l ≤ 1000000000000000000000000000000) : fMul (.int k) (.int l) = some (.int (k * l)) := q_fIC (by unfold mulC; rw [mdOk_of e.1, mdOk_of e.2]; rfl)
theorem q_fd (e : 0 < l ∧ l ≤ 1000000000000000000000000000000) : fFd (.int k) (.int l) = some (.int (k / l)) := q_fIC (by unfold divC; rw [mdOk_of ⟨by omega, e.2⟩, decide_eq_true e.1]; rfl)
theorem q_addI : fAdd (.int k) (.int l) = some (.int (k + l)) := rfl
theorem q_addL (h : xs.length + ys.length ≤ 1000000) : fAdd (.lst xs) (.lst ys) = some (.lst (xs ++ ys)) := if_pos (decide_eq_true h)
theorem q_addT (h : xs.length + ys.length ≤ 1000000) : fAdd (.tup xs) (.tup ys) = some (.tup (xs ++ ys)) := if_pos (decide_eq_true h)
theorem q_eqI {h : Bool → Bool} : fEqB h (.int k) (.int l) = some (.bl (h (decide (k = l)))) := rfl
theorem q_eqS {h : Bool → Bool} {z z' : Str} : fEqB h (.str z) (.str z') = some (.bl (h (decide (z = z')))) := rfl
theorem q_eqD {h : Bool → Bool} (n1 : ∀ z z', v = .str z → w = .str z' → False) (n2 : ∀ z z', v = .int z → w = .int z' → False) (h1 : okD v = true) (h2 : okD w = true) : fEqB h v w = some (.bl (h (ceq v w))) := by
  unfold fEqB
  split
  · exact (n1 _ _ rfl rfl).elim
  · exact (n2 _ _ rfl rfl).elim
  · exact if_pos ⟨h1, h2⟩
theorem q_isNN {h : Bool → Bool} : fIsN h .non .non = some (.bl (h true)) := rfl
theorem q_isNI {h : Bool → Bool} : fIsN h (.int k) .non = some (.bl (h false)) := rfl
theorem q_isNT {h : Bool → Bool} : fIsN h (.tup xs) .non = some (.bl (h false)) := rfl
theorem q_isNS {h : Bool → Bool} {z : Str} : fIsN h (.str z) .non = some (.bl (h false)) := rfl
theorem q_isNB {h : Bool → Bool} : fIsN h (.bl c) .non = some (.bl (h false)) := rfl
theorem q_ixT : fIx (.tup xs) (.int k) = atI xs k := rfl
theorem q_ixL : fIx (.lst xs) (.int k) = atI xs k := rfl
theorem q_at0 : atI (v :: xs) (0 : Int) = some v := atI_nat (j := 0) rfl
theorem q_at1 {x1 : Cv} : atI (x1 :: v :: xs) (1 : Int) = some v := atI_nat (j := 1) rfl
theorem q_at2 {x1 x2 : Cv} : atI (x1 :: x2 :: v :: xs) (2 : Int) = some v := atI_nat (j := 2) rfl
theorem q_at3 {x1 x2 x3 : Cv} : atI (x1 :: x2 :: x3 :: v :: xs) (3 : Int) = some v := atI_nat (j := 3) rfl
theorem q_inT {ng : Bool} (h1 : flatC v = true) (h2 : xs.all flatC = true) : fInB ng v (.tup xs) = some (.bl (if ng = true then !(xs.any fun y => ceq y v) else xs.any fun y => ceq y v)) := if_pos ⟨h1, h2⟩
theorem q_inL {ng : Bool} (h1 : flatC v = true) (h2 : xs.all flatC = true) : fInB ng v (.lst xs) = some (.bl (if ng = true then !(xs.any fun y => ceq y v) else xs.any fun y => ceq y v)) := if_pos ⟨h1, h2⟩
theorem q_neg : fNeg (.int k) = some (.int (-k)) := rfl
theorem q_cutT {lo hi : Option Int} : fCut (.tup xs) lo hi = some (.tup (cutC xs lo hi)) := rfl
theorem q_cutL {lo hi : Option Int} : fCut (.lst xs) lo hi = some (.lst (cutC xs lo hi)) := rfl
theorem q_lenT : fLen [.tup xs] = some (.int xs.length) := rfl
theorem q_lenL : fLen [.lst xs] = some (.int xs.length) := rfl
theorem q_lenR : fLen [.scr xs] = some (.int xs.length) := rfl
theorem q_ixR : fIx (.scr xs) (.int k) = atI xs k := rfl
theorem q_intB : fInt [.bl c] = some (.int (if c = true then 1 else 0)) := rfl
theorem q_abs : fAbs [.int k] = some (.int k.natAbs) := rfl
theorem q_intI : fInt [.int k] = some (.int k) := rfl
theorem q_tupL : fTupleOf [.lst xs] = some (.tup xs) := rfl
theorem q_tupT : fTupleOf [.tup xs] = some (.tup xs) := rfl
theorem q_listL : fListOf [.lst xs] = some (.lst xs) := rfl
theorem q_listT : fListOf [.tup xs] = some (.lst xs) := rfl
theorem q_max2 : fMax [.int k, .int l] = some (.int (max k l)) := rfl
theorem q_min2 : fMin [.int k, .int l] = some (.int (min k l)) := rfl
theorem q_maxL {ns : List Int} (h : ns ≠ []) : fMax [.lst (ns.map Cv.int)] = some (.int (lmax 0 ns)) := by
  show ((asInts (ns.map Cv.int)).bind fun ns => if ns = [] then none else some (Cv.int (lmax 0 ns))) = _
  rw [asInts_map]; exact if_neg h
theorem q_minL {ns : List Int} (h : ns ≠ []) : fMin [.lst (ns.map Cv.int)] = some (.int (lmin 0 ns)) := by
  show ((asInts (ns.map Cv.int)).bind fun ns => if ns = [] then none else some (Cv.int (lmin 0 ns))) = _
  rw [asInts_map]; exact if_neg h
theorem q_maxC {a : Int} {ns : List Int} : fMax [.lst (.int a :: ns.map Cv.int)] = some (.int (lmax 0 (a :: ns))) := q_maxL (ns := a :: ns) (by simp)
theorem q_minC {a : Int} {ns : List Int} : fMin [.lst (.int a :: ns.map Cv.int)] = some (.int (lmin 0 (a :: ns))) := q_minL (ns := a :: ns) (by simp)
theorem q_maxD {ns : List Int} : fMaxD [.lst (ns.map Cv.int)] [v] = some (match ns with | [] => v | ns => .int (lmax 0 ns)) := by
  show (asInts _).map _ = _
  rw [asInts_map]; rfl
theorem q_minD {ns : List Int} : fMinD [.lst (ns.map Cv.int)] [v] = some (match ns with | [] => v | ns => .int (lmin 0 ns)) := by
  show (asInts _).map _ = _
  rw [asInts_map]; rfl
theorem q_sum {ns : List Int} : fSum [.lst (ns.map Cv.int)] = some (.int ns.sum) := by
  show (asInts _).map _ = _
  rw [asInts_map]; rfl
theorem q_bools {h : List Bool → Bool} {bs : List Bool} : fBools h [.lst (bs.map Cv.bl)] = some (.bl (h bs)) := by
  show (asBools _).map _ = _
  rw [asBools_map]; rfl
theorem q_allM {α : Type} {h : α → Bool} {as : List α} : fAll [.lst (as.map fun a => .bl (h a))] = some (.bl (as.all h)) := by
  have e : (as.map fun a => Cv.bl (h a)) = (as.map h).map Cv.bl := by rw [List.map_map]; rfl
  rw [e]; show fBools _ _ = _
  rw [q_bools, List.all_map]; rfl
theorem q_anyM {α : Type} {h : α → Bool} {as : List α} : fAny [.lst (as.map fun a => .bl (h a))] = some (.bl (as.any h)) := by
  have e : (as.map fun a => Cv.bl (h a)) = (as.map h).map Cv.bl := by rw [List.map_map]; rfl
  rw [e]; show fBools _ _ = _
  rw [q_bools, List.any_map]; rfl
theorem q_maxM {α : Type} {h : α → Int} {as : List α} (n : as ≠ []) : fMax [.lst (as.map fun a => .int (h a))] = some (.int (lmax 0 (as.map h))) := by
  have e : (as.map fun a => Cv.int (h a)) = (as.map h).map Cv.int := by rw [List.map_map]; rfl
  rw [e, q_maxL (by simpa using n)]
theorem q_minM {α : Type} {h : α → Int} {as : List α} (n : as ≠ []) : fMin [.lst (as.map fun a => .int (h a))] = some (.int (lmin 0 (as.map h))) := by
  have e : (as.map fun a => Cv.int (h a)) = (as.map h).map Cv.int := by rw [List.map_map]; rfl
  rw [e, q_minL (by simpa using n)]
theorem q_repr (h : rOk v = true) : fRepr [v] = some (.str (rp v)) := if_pos h
theorem q_tup0 : fTup [] = some (.tup []) := rfl
theorem q_tup1 : fTup [v] = some (.tup [v]) := rfl
theorem q_tup2 : fTup [v, w] = some (.tup [v, w]) := rfl
theorem q_tup3 {u : Cv} : fTup [v, w, u] = some (.tup [v, w, u]) := rfl
theorem q_tup4 {x1 x2 x3 x4 : Cv} : fTup [x1, x2, x3, x4] = some (.tup [x1, x2, x3, x4]) := rfl
theorem q_lst0 : fLst [] = some (.lst []) := rfl
theorem q_lst1 : fLst [v] = some (.lst [v]) := rfl
theorem q_lst2 : fLst [v, w] = some (.lst [v, w]) := rfl
theorem q_lst3 {u : Cv} : fLst [v, w, u] = some (.lst [v, w, u]) := rfl
theorem q_lst4 {x1 x2 x3 x4 : Cv} : fLst [x1, x2, x3, x4] = some (.lst [x1, x2, x3, x4]) := rfl
theorem q_lst5 {x0 x1 x2 x3 x4 : Cv} : fLst [x0, x1, x2, x3, x4] = some (.lst [x0, x1, x2, x3, x4]) := rfl
theorem q_tup5 {x0 x1 x2 x3 x4 : Cv} : fTup [x0, x1, x2, x3, x4] = some (.tup [x0, x1, x2, x3, x4]) := rfl
theorem q_lst6 {x0 x1 x2 x3 x4 x5 : Cv} : fLst [x0, x1, x2, x3, x4, x5] = some (.lst [x0, x1, x2, x3, x4, x5]) := rfl
theorem q_tup6 {x0 x1 x2 x3 x4 x5 : Cv} : fTup [x0, x1, x2, x3, x4, x5] = some (.tup [x0, x1, x2, x3, x4, x5]) := rfl
theorem q_lst7 {x0 x1 x2 x3 x4 x5 x6 : Cv} : fLst [x0, x1, x2, x3, x4, x5, x6] = some (.lst [x0, x1, x2, x3, x4, x5, x6]) := rfl
theorem q_tup7 {x0 x1 x2 x3 x4 x5 x6 : Cv} : fTup [x0, x1, x2, x3, x4, x5, x6] = some (.tup [x0, x1, x2, x3, x4, x5, x6]) := rfl
theorem q_lst8 {x0 x1 x2 x3 x4 x5 x6 x7 : Cv} : fLst [x0, x1, x2, x3, x4, x5, x6, x7] = some (.lst [x0, x1, x2, x3, x4, x5, x6, x7]) := rfl
theorem q_tup8 {x0 x1 x2 x3 x4 x5 x6 x7 : Cv} : fTup [x0, x1, x2, x3, x4, x5, x6, x7] = some (.tup [x0, x1, x2, x3, x4, x5, x6, x7]) := rfl
theorem q_lst9 {x0 x1 x2 x3 x4 x5 x6 x7 x8 : Cv} : fLst [x0, x1, x2, x3, x4, x5, x6, x7, x8] = some (.lst [x0, x1, x2, x3, x4, x5, x6, x7, x8]) := rfl
theorem q_lst10 {x0 x1 x2 x3 x4 x5 x6 x7 x8 x9 : Cv} : fLst [x0, x1, x2, x3, x4, x5, x6, x7, x8, x9] = some (.lst [x0, x1, x2, x3, x4, x5, x6, x7, x8, x9]) := rfl
theorem q_lst11 {x0 x1 x2 x3 x4 x5 x6 x7 x8 x9 x10 : Cv} : fLst [x0, x1, x2, x3, x4, x5, x6, x7, x8, x9, x10] = some (.lst [x0, x1, x2, x3, x4, x5, x6, x7, x8, x9, x10]) := rfl
theorem q_lst12 {x0 x1 x2 x3 x4 x5 x6 x7 x8 x9 x10 x11 : Cv} : fLst [x0, x1, x2, x3, x4, x5, x6, x7, x8, x9, x10, x11] = some (.lst [x0, x1, x2, x3, x4, x5, x6, x7, x8, x9, x10, x11]) := rfl
theorem q_rngI (h : -1000000000000000 ≤ k ∧ k ≤ 1000000000000000) : fRng1 [.int k] = some (iota 0 k.toNat) := if_pos (decide_eq_true h)
theorem q_rngI2 (h : -1000000000000000 ≤ k ∧ k ≤ 1000000000000000) (h' : -1000000000000000 ≤ l ∧ l ≤ 1000000000000000) : fRng2 [.int k, .int l] = some (iota k (l - k).toNat) := if_pos ⟨decide_eq_true h, decide_eq_true h'⟩
def outR : Rz → Option Cv
  | .rt v => some v
  | .nx _ => some .non
  | _ => none
theorem q_out : outM p gs = (p gs).bind outR := by
  unfold outM; congr 1
theorem q_outR : outR (.rt v) = some v := rfl
theorem q_outN : outR (.nx gs) = some .non := rfl
end
end CL

set_option Elab.async false
set_option linter.all false
set_option maxRecDepth 100000
set_option maxHeartbeats 1000000
/-! CL21: list(x) owned; xs[::-1] -/
namespace CL
open PySem PySem.Spec PyProof.Rows L2
section
variable {X : Cx}
/-- list(x), owned -/
def cListOfO : CC := fun us S Q => match us with
  | [w] => (match deref w S with | some w => (match seqOf w with | some xs => ∀ p, S p = none → Q (.ref p) (S.set p (.lst xs)) | none => False) | none => False)
  | _ => False
theorem mo_listOfO : MonC cListOfO := fun us S Q Q' f h => by
  unfold cListOfO at h ⊢
  repeat' split at h
  all_goals first | exact h.elim | exact fun p hp => f _ _ (h p hp)
theorem b_listO : SC X (.type "list") cListOfO := sc_of mo_listOfO fun pins s σ H xs us Q Z S ws I rv ok re q => by
  unfold cListOfO at q
  split at q
  · cases re with
    | cons a b =>
      cases b
      split at q
      · rename_i w ew
        split at q
        · rename_i ys ey
          obtain ⟨p, vs, rfl, hs, rr⟩ := (deref_ok ok a ew).seq ey
          exact call_list_of pins s σ H _ us Q I rv ⟨p, vs, rfl, hs, fun l hl => q l (ok.free hl) _ _ (Fr.own hl) (ok.own hl ⟨_, upd_same, rr.fr (Fr.own hl)⟩) (.ref l)⟩
        · exact q.elim
      · exact q.elim
  · exact q.elim
theorem en_listO {ua : CA} {u : MA} (hu : EvA ua u) : EvN (cCB cListOfO ua) (mCB fListOf u) := ⟨cCB_mono mo_listOfO hu.mono, fun V e q => by
  obtain ⟨v1, e1, e⟩ := bind_some e
  refine hu.ok V e1 ?_
  unfold fListOf at e
  split at e
  · cases e; exact fun p hp => q p _ hp rfl
  · cases e; exact fun p hp => q p _ hp rfl
  · cases e⟩
theorem x_listO {S : Sto} {xs : List Cv} {w : Cv} {Q : Cv → Sto → Prop} (e : deref w S = some (.lst xs) ∨ deref w S = some (.tup xs)) (h : ∀ p, S p = none → Q (.ref p) (S.set p (.lst xs))) : cListOfO [w] S Q := by
  unfold cListOfO
  rcases e with e | e <;> (simp only [e]; exact h)
/-- xs[::-1] -/
def kRev (Q : Cv → Sto → Prop) : Cv → Sto → Prop := fun w S1 => match deref w S1 with | some (.lst xs) => Q (.lst xs.reverse) S1 | _ => False
def cRevL (te : CE) : CE := fun ws S Q => te ws S (kRev Q)
theorem mo_revL {te : CE} (h : MonE te) : MonE (cRevL te) := fun ws S Q Q' f q => h _ _ _ _ (fun w S1 q1 => by
  unfold kRev at q1 ⊢
  split at q1
  · exact f _ _ q1
  · exact q1.elim) q
theorem s_revL {e : Expr} {te : CE} {k} {p1 p2 p3 pos} (he : SE X e te) : SE X (.Subscript e (.Slice none none (some (.UnaryOp .USub (.Constant (.int 1) k p1) p2)) p3) pos) (cRevL te) :=
  ⟨mo_revL he.mono, (pe_revL he.ok).imp fun σ H Q h => by
    obtain ⟨Z, S, ws, ok, re, h⟩ := h
    refine liftE_of he.mono ok re h fun x S1 v1 H1 f1 ok1 r1 q1 => ?_
    unfold kRev at q1
    split at q1
    · rename_i xs ex
      obtain ⟨a, vs, rfl, ha, rr⟩ := RepD.lstH (deref_ok ok1 r1 ex)
      exact ⟨a, vs, rfl, .inl (.inl ha), fun p hp => q1 _ _ (f1.trans (Fr.new hp)) (ok1.new hp) (.lst upd_same (ok1.free hp) (ok1.notZ hp) (rr.rev.fr (Fr.new hp)))⟩
    · exact q1.elim⟩
def fRev : Cv → Option Cv
  | .lst xs => some (.lst xs.reverse)
  | _ => none
def mRevL (a : ME) : ME := fun gs => (a gs).bind fRev
theorem ev_revL {te : CE} {a : ME} (h : Ev te a) : Ev (cRevL te) (mRevL a) := ⟨mo_revL h.mono, fun V e q => by
  obtain ⟨v, e1, e⟩ := bind_some e
  unfold fRev at e
  split at e
  · cases e
    exact h.ok V e1 q
  · cases e⟩
theorem x_revL {te : CE} {ws : CL.Env} {S : Sto} {Q : Cv → Sto → Prop} (h : te ws S (kRev Q)) : cRevL te ws S Q := h
theorem x_kRev {S : Sto} {xs : List Cv} {w : Cv} {Q : Cv → Sto → Prop} (e : deref w S = some (.lst xs)) (h : Q (.lst xs.reverse) S) : kRev Q w S := by
  unfold kRev; rw [e]; exact h
theorem q_revL {a : ME} {gs : MEnv} : mRevL a gs = (a gs).bind fRev := rfl
theorem q_fRev {xs : List Cv} : fRev (.lst xs) = some (.lst xs.reverse) := rfl
end
end CL

set_option Elab.async false
set_option linter.all false
set_option maxRecDepth 100000
set_option maxHeartbeats 1000000
/-! CL22: words; rules with words for forms -/
namespace CL
open PySem PySem.Spec PyProof.Rows L2
/-- one to eight small letters -/
def isWord (x : Str) : Bool := decide (1 ≤ x.cps.size ∧ x.cps.size ≤ 8) && x.cps.toList.all fun c => decide (97 ≤ c ∧ c ≤ 122)
theorem forms8_word {x : Str} (h : x ∈ forms8) : isWord x = true := by
  simp only [forms8, List.mem_cons, List.not_mem_nil, or_false] at h
  rcases h with h | h | h | h | h | h | h | h <;> subst h <;> decide +kernel
theorem word_small {x : Str} (h : isWord x = true) : smallV (.str x) = true ∧ blk (.str x) ≤ 8 := by
  obtain ⟨h1, h2⟩ := Bool.and_eq_true_iff.mp h
  have h1 := of_decide_eq_true h1
  rw [List.all_eq_true] at h2
  refine ⟨?_, h1.2⟩
  show (PyData.strOk x && x.cps.toList.all fun c => decide (c < 16 ^ 8)) = true
  rw [Bool.and_eq_true]
  refine ⟨?_, ?_⟩
  · show x.cps.all (fun c => decide (c < 0x110000)) = true
    rw [← Array.all_toList, List.all_eq_true]
    intro c hc
    have := of_decide_eq_true (h2 c hc)
    exact decide_eq_true (by omega)
  · rw [List.all_eq_true]
    intro c hc
    have := of_decide_eq_true (h2 c hc)
    exact decide_eq_true (by omega)
def goodB (r : Rl) : Prop := r.rows.length ≤ 20 ∧ isWord r.last = true ∧ ∀ x ∈ r.rows, isWord x.1 = true ∧ goodD x.2
theorem goodR.B {r : Rl} (h : goodR r) : goodB r := ⟨h.1, forms8_word h.2.1, fun x hx => ⟨forms8_word (h.2.2 x hx).1, (h.2.2 x hx).2⟩⟩
structure Sn (r : Rl) : Prop where
  dp : ∀ x ∈ r.rows, dp x.2 < 8
  wd : ∀ x ∈ r.rows, wd x.2 ≤ 1000000
  rg : ∀ g ∈ insR r, okRg g
  many : (insR r).length ≤ 400000
  rows : r.rows.length ≤ 100000
theorem Sn.rgx {r : Rl} (h : Sn r) {x : Str × Cd} (hx : x ∈ r.rows) : ∀ g ∈ ins x.2, okRg g := fun g hg => h.rg g (List.mem_flatMap.mpr ⟨x, hx, hg⟩)
theorem insB_len : ∀ l : List (Str × Cd), (∀ x ∈ l, goodD x.2) → (l.flatMap fun x => CL.ins x.2).length ≤ 6400 * l.length
  | [], _ => by simp
  | x :: l, hx => by
    have a := (hx x List.mem_cons_self).2.1
    have b := insB_len l fun y hy => hx y (List.mem_cons_of_mem _ hy)
    rw [List.flatMap_cons, List.length_append, List.length_cons]
    omega
theorem goodB.sn {r : Rl} (h : goodB r) : Sn r where
  dp := fun x hx => by have := (h.2.2 x hx).2.1; omega
  wd := fun x hx => by have := (h.2.2 x hx).2.2.2.2.1; omega
  rg := fun g hg => by
    obtain ⟨x, hx, hg⟩ := List.mem_flatMap.mp hg
    exact (h.2.2 x hx).2.2.2.1 g hg
  many := by
    have a := insB_len r.rows fun x hx => (h.2.2 x hx).2
    have b := h.1
    unfold insR
    omega
  rows := by have := h.1; omega
theorem goodB.rOk {r : Rl} (h : goodB r) : rOk (eR r) = true := by
  obtain ⟨h1, h2, h3⟩ := h
  obtain ⟨l1, l2⟩ := word_small h2
  have row : ∀ x ∈ r.rows, smallV (eRow x) = true ∧ dep (eRow x) ≤ 12 ∧ blk (eRow x) ≤ 6420 := fun x hx => by
    obtain ⟨a, b⟩ := h3 x hx
    obtain ⟨f1, f2⟩ := word_small a
    obtain ⟨c1, c2⟩ := smallV_enc x.2 b.2.2.1
    have c3 := b.1
    have c4 := b.2.2.2.2
    refine ⟨?_, ?_, ?_⟩
    · show (smallV (.str x.1) && (smallV (enc x.2) && true)) = true
      rw [f1, c1]; rfl
    · show max (dep (.str x.1)) (max (dep (enc x.2)) 0) + 1 ≤ 12
      have : dep (.str x.1) = 0 := rfl
      omega
    · show blk (.str x.1) + 1 + (blk (enc x.2) + 1 + 0) ≤ 6420
      omega
  have dl : ∀ l : List (Str × Cd), (∀ x ∈ l, dep (eRow x) ≤ 12) → deps (l.map eRow) ≤ 12 := fun l => by
    induction l with
    | nil => intro _; exact Nat.zero_le _
    | cons x l ih =>
      intro hx
      have a := hx x List.mem_cons_self
      have b := ih fun y hy => hx y (List.mem_cons_of_mem _ hy)
      show max (dep (eRow x)) (deps (l.map eRow)) ≤ 12
      omega
  have bl : ∀ l : List (Str × Cd), (∀ x ∈ l, blk (eRow x) ≤ 6420) → blks (l.map eRow) ≤ 6421 * l.length := fun l => by
    induction l with
    | nil => intro _; exact Nat.zero_le _
    | cons x l ih =>
      intro hx
      have a := hx x List.mem_cons_self
      have b := ih fun y hy => hx y (List.mem_cons_of_mem _ hy)
      show blk (eRow x) + 1 + blks (l.map eRow) ≤ _
      rw [List.length_cons]
      omega
  unfold CL.rOk
  rw [Bool.and_eq_true, Bool.and_eq_true]
  refine ⟨⟨?_, decide_eq_true ?_⟩, decide_eq_true ?_⟩
  · show (smallVs (r.rows.map eRow) && (smallV (.str r.last) && true)) = true
    rw [smallVs_map eRow _ fun x hx => (row x hx).1, l1]; rfl
  · show max (deps (r.rows.map eRow) + 1) (max (dep (.str r.last)) 0) + 1 ≤ 64
    have := dl r.rows fun x hx => (row x hx).2.1
    have e : dep (.str r.last) = 0 := rfl
    omega
  · show blks (r.rows.map eRow) + 1 + (blk (.str r.last) + 1 + 0) ≤ 500000
    have := bl r.rows fun x hx => (row x hx).2.2
    omega
/-! slices, by lists -/
theorem cut_nn {xs : List Cv} {k l : Nat} : cutC xs (some (k : Int)) (some (l : Int)) = (xs.drop k).take (l - k) := by
  unfold cutC
  rw [HT.sIx_nat, HT.sIx_nat]
  by_cases h : k ≤ xs.length
  · rw [Nat.min_eq_left h]
    by_cases h2 : l ≤ xs.length
    · rw [Nat.min_eq_left h2]
    · rw [Nat.min_eq_right (by omega), List.take_of_length_le (by simp), List.take_of_length_le (by simp; omega)]
  · rw [show min k xs.length = xs.length by omega, List.drop_length, List.drop_eq_nil_of_le (i := k) (by omega), List.take_nil, List.take_nil]
theorem cut_take {xs : List Cv} {k : Nat} : cutC xs none (some (k : Int)) = xs.take k := by
  unfold cutC
  rw [HT.sIx_nat, HT.sIx_none, List.drop_zero, Nat.sub_zero]
  by_cases h : k ≤ xs.length
  · rw [Nat.min_eq_left h]
  · rw [Nat.min_eq_right (by omega), List.take_of_length_le (Nat.le_refl _), List.take_of_length_le (by omega)]
theorem cut_drop {xs : List Cv} {k : Nat} : cutC xs (some (k : Int)) none = xs.drop k := by
  unfold cutC
  rw [HT.sIx_nat, HT.sIx_none]
  by_cases h : k ≤ xs.length
  · rw [Nat.min_eq_left h, List.take_of_length_le (by simp)]
  · rw [Nat.min_eq_right (by omega), List.drop_length, List.drop_eq_nil_of_le (by omega), List.take_nil]
theorem cut_all {xs : List Cv} : cutC xs none none = xs := by
  unfold cutC
  rw [HT.sIx_none, HT.sIx_none]; simp
end CL

set_option Elab.async false
set_option linter.all false
set_option maxRecDepth 100000
set_option maxHeartbeats 1000000
/-! XL1: computed readings with effects on objects of the def's own, and on its first parameter -/
namespace CL
open PySem PySem.Spec PyProof.Rows L2
/-- an outcome: a value, or what is raised -/
inductive Oc (α : Type) where
  | ok (a : α) (gs : MEnv)
  | ex (x : Ex) (gs : MEnv)
abbrev XE := MEnv → Option (Oc Cv)
abbrev XT := MEnv → Option (Oc Bool)
abbrev XA := MEnv → Option (Oc (List Cv))
abbrev XAo := MEnv → Option (Oc (List Sl))
abbrev WX' := Ex → CL.Env → Sto → Prop
def bx {α β : Type} (o : Option (Oc α)) (f : α → MEnv → Option (Oc β)) : Option (Oc β) := match o with
  | some (.ok a gs) => f a gs
  | some (.ex x gs) => some (.ex x gs)
  | none => none
def OutX {α : Type} (W : WX') (B : Sto) (ws : CL.Env) (Q : α → Sto → Prop) : Oc α → Prop
  | .ok a gs => ∀ S, View B S gs ws → Q a S
  | .ex x gs => ∀ S, View B S gs ws → W x ws S
structure EvX (W : WX') (te : CE) (φ : XE) : Prop where
  mono : MonE te
  ok : ∀ {B S gs ws Q r}, View B S gs ws → φ gs = some r → OutX W B ws Q r → te ws S Q
structure EvXT (W : WX') (te : CT) (φ : XT) : Prop where
  mono : MonT te
  ok : ∀ {B S gs ws Q r}, View B S gs ws → φ gs = some r → OutX W B ws Q r → te ws S Q
structure EvXA (W : WX') (te : CA) (φ : XA) : Prop where
  mono : MonA te
  ok : ∀ {B S gs ws Q r}, View B S gs ws → φ gs = some r → OutX W B ws Q r → te ws S Q
structure EvXI (W : WX') (te : CI) (φ : XA) : Prop where
  mono : MonI te
  ok : ∀ {B S gs ws Q r}, View B S gs ws → φ gs = some r → OutX W B ws (fun xs S => Q xs (fun _ => True) S) r → te ws S Q
/-- a new object -/
def OutN (W : WX') (B : Sto) (ws : CL.Env) (Q : Cv → Sto → Prop) : Oc Cv → Prop
  | .ok v gs => ∀ S, View B S gs ws → ∀ p o, S p = none → obv o = some v → Q (.ref p) (S.set p o)
  | .ex x gs => ∀ S, View B S gs ws → W x ws S
structure EvXN (W : WX') (te : CE) (φ : XE) : Prop where
  mono : MonE te
  ok : ∀ {B S gs ws Q r}, View B S gs ws → φ gs = some r → OutN W B ws Q r → te ws S Q
theorem bx_some {α β : Type} {o : Option (Oc α)} {f : α → MEnv → Option (Oc β)} {r : Oc β} (h : bx o f = some r) : (∃ a gs, o = some (.ok a gs) ∧ f a gs = some r) ∨ ∃ x gs, o = some (.ex x gs) ∧ r = .ex x gs := by
  unfold bx at h
  split at h
  · exact .inl ⟨_, _, rfl, h⟩
  · cases h; exact .inr ⟨_, _, rfl, rfl⟩
  · cases h
def xp (a : ME) : XE := fun gs => (a gs).map fun v => .ok v gs
def xpT (a : MT) : XT := fun gs => (a gs).map fun v => .ok v gs
def xpA (a : MA) : XA := fun gs => (a gs).map fun v => .ok v gs
def lift {α : Type} (o : Option α) (gs : MEnv) : Option (Oc α) := o.map fun v => .ok v gs
theorem lift_some {α : Type} {o : Option α} {gs : MEnv} {r : Oc α} (h : lift o gs = some r) : ∃ v, o = some v ∧ r = .ok v gs := by
  obtain ⟨v, e, h⟩ := map_some' h
  exact ⟨v, e, h.symm⟩
def xOp (f : Cv → Cv → Option Cv) (a b : XE) : XE := fun gs => bx (a gs) fun x g1 => bx (b g1) fun y g2 => lift (f x y) g2
def xUn (f : Cv → Option Cv) (a : XE) : XE := fun gs => bx (a gs) fun x g1 => lift (f x) g1
def xB (a : XE) : XT := fun gs => bx (a gs) fun x g1 => lift (fB x) g1
def xNot (a : XT) : XT := fun gs => bx (a gs) fun x g1 => some (.ok (!x) g1)
def xIte {α : Type} (c : Bool) (a b : MEnv → Option α) (gs : MEnv) : Option α := if c = true then a gs else b gs
def xAnd (a b : XT) : XT := fun gs => bx (a gs) fun x g1 => xIte x b (fun g => some (.ok false g)) g1
def xOr (a b : XT) : XT := fun gs => bx (a gs) fun x g1 => xIte x (fun g => some (.ok true g)) b g1
def xNotV (a : XE) : XE := fun gs => bx (a gs) fun x g1 => lift ((fB x).map fun b => .bl (!b)) g1
def xAndV (a b : XE) : XE := fun gs => bx (a gs) fun x g1 => (fB x).bind fun c => xIte c b (fun g => some (.ok (.bl false) g)) g1
def xOrV (a b : XE) : XE := fun gs => bx (a gs) fun x g1 => (fB x).bind fun c => xIte c (fun g => some (.ok (.bl true) g)) b g1
def xIf (c : XT) (a b : XE) : XE := fun gs => bx (c gs) fun x g1 => xIte x a b g1
def xNil : XA := fun gs => some (.ok [] gs)
def xCons (a : XE) (u : XA) : XA := fun gs => bx (a gs) fun x g1 => bx (u g1) fun r g2 => some (.ok (x :: r) g2)
def xTup (u : XA) : XE := fun gs => bx (u gs) fun r g => lift (fTup r) g
def xLst (u : XA) : XE := fun gs => bx (u gs) fun r g => lift (fLst r) g
def xCB (f : List Cv → Option Cv) (u : XA) : XE := fun gs => bx (u gs) fun r g => lift (f r) g
section
variable {W : WX'} {ta tb tc te : CE} {ua ub : CA} {c c' : CT} {a b d : XE} {u z : XA} {x y : XT} {r r' : C2} {f f' : Cv → Cv → Option Cv}
theorem ex_p {m : ME} (h : Ev te m) : EvX W te (xp m) := ⟨h.mono, fun V e q => by
  obtain ⟨v, e1, e⟩ := map_some' e
  subst e
  exact h.ok V e1 (q _ V)⟩
theorem xt_p {m : MT} (h : EvT c m) : EvXT W c (xpT m) := ⟨h.mono, fun V e q => by
  obtain ⟨v, e1, e⟩ := map_some' e
  subst e
  exact h.ok V e1 (q _ V)⟩
theorem xa_p {m : MA} (h : EvA ua m) : EvXA W ua (xpA m) := ⟨h.mono, fun V e q => by
  obtain ⟨v, e1, e⟩ := map_some' e
  subst e
  exact h.ok V e1 (q _ V)⟩
theorem xi_p {ti : CI} {m : MA} (h : EvI ti m) : EvXI W ti (xpA m) := ⟨h.mono, fun V e q => by
  obtain ⟨v, e1, e⟩ := map_some' e
  subst e
  exact h.ok V e1 (q _ V)⟩
theorem ex_op (h : E2 r f) (ha : EvX W ta a) (hb : EvX W tb b) : EvX W (cOp r ta tb) (xOp f a b) := ⟨cOp_mono h.mono ha.mono hb.mono, fun V e q => by
  rcases bx_some e with ⟨v1, g1, e1, e⟩ | ⟨x, g1, e1, rfl⟩
  · refine ha.ok V e1 fun S1 V1 => ?_
    rcases bx_some e with ⟨v2, g2, e2, e⟩ | ⟨x, g2, e2, rfl⟩
    · refine hb.ok V1 e2 fun S2 V2 => ?_
      obtain ⟨v, e3, rfl⟩ := lift_some e
      exact h.ok e3 (q _ V2)
    · exact hb.ok V1 e2 q
  · exact ha.ok V e1 q⟩
theorem ex_un {r : C1} {f : Cv → Option Cv} (h : E1 r f) (ha : EvX W ta a) : EvX W (cUn r ta) (xUn f a) := ⟨mo_un h.mono ha.mono, fun V e q => by
  rcases bx_some e with ⟨v1, g1, e1, e⟩ | ⟨x, g1, e1, rfl⟩
  · refine ha.ok V e1 fun S1 V1 => ?_
    obtain ⟨v, e3, rfl⟩ := lift_some e
    exact h.ok e3 (q _ V1)
  · exact ha.ok V e1 q⟩
theorem xt_b (ha : EvX W ta a) : EvXT W (cB ta) (xB a) := ⟨cB_mono ha.mono, fun V e q => by
  rcases bx_some e with ⟨v1, g1, e1, e⟩ | ⟨x, g1, e1, rfl⟩
  · refine ha.ok V e1 fun S1 V1 => ?_
    obtain ⟨v, e3, rfl⟩ := lift_some e
    cases fB_some e3
    exact q _ V1
  · exact ha.ok V e1 q⟩
theorem xt_not (ha : EvXT W c x) : EvXT W (cNot c) (xNot x) := ⟨mo_not ha.mono, fun V e q => by
  rcases bx_some e with ⟨v1, g1, e1, e⟩ | ⟨x, g1, e1, rfl⟩
  · refine ha.ok V e1 fun S1 V1 => ?_
    cases e
    exact q _ V1
  · exact ha.ok V e1 q⟩
theorem xt_and (ha : EvXT W c x) (hb : EvXT W c' y) : EvXT W (cAnd c c') (xAnd x y) := ⟨cAnd_mono ha.mono hb.mono, fun V e q => by
  rcases bx_some e with ⟨v1, g1, e1, e⟩ | ⟨x, g1, e1, rfl⟩
  · refine ha.ok V e1 fun S1 V1 => ?_
    cases v1 with
    | true => exact hb.ok V1 e q
    | false => cases e; exact q _ V1
  · exact ha.ok V e1 q⟩
theorem xt_or (ha : EvXT W c x) (hb : EvXT W c' y) : EvXT W (cOr c c') (xOr x y) := ⟨cOr_mono ha.mono hb.mono, fun V e q => by
  rcases bx_some e with ⟨v1, g1, e1, e⟩ | ⟨x, g1, e1, rfl⟩
  · refine ha.ok V e1 fun S1 V1 => ?_
    cases v1 with
    | false => exact hb.ok V1 e q
    | true => cases e; exact q _ V1
  · exact ha.ok V e1 q⟩
theorem ex_notV (ha : EvX W ta a) : EvX W (cNotV ta) (xNotV a) := ⟨mo_notV ha.mono, fun V e q => by
  rcases bx_some e with ⟨v1, g1, e1, e⟩ | ⟨x, g1, e1, rfl⟩
  · refine ha.ok V e1 fun S1 V1 => ?_
    obtain ⟨v, e3, rfl⟩ := lift_some e
    obtain ⟨k, e4, e5⟩ := map_some' e3
    cases fB_some e4
    subst e5
    exact q _ V1
  · exact ha.ok V e1 q⟩
theorem ex_andV (ha : EvX W ta a) (hb : EvX W tb b) : EvX W (cAndV ta tb) (xAndV a b) := ⟨mo_andV ha.mono hb.mono, fun V e q => by
  rcases bx_some e with ⟨v1, g1, e1, e⟩ | ⟨x, g1, e1, rfl⟩
  · refine ha.ok V e1 fun S1 V1 => ?_
    obtain ⟨k, e3, e⟩ := bind_some e
    cases fB_some e3
    cases k with
    | true => exact hb.ok V1 e q
    | false => cases e; exact q _ V1
  · exact ha.ok V e1 q⟩
theorem ex_orV (ha : EvX W ta a) (hb : EvX W tb b) : EvX W (cOrV ta tb) (xOrV a b) := ⟨mo_orV ha.mono hb.mono, fun V e q => by
  rcases bx_some e with ⟨v1, g1, e1, e⟩ | ⟨x, g1, e1, rfl⟩
  · refine ha.ok V e1 fun S1 V1 => ?_
    obtain ⟨k, e3, e⟩ := bind_some e
    cases fB_some e3
    cases k with
    | false => exact hb.ok V1 e q
    | true => cases e; exact q _ V1
  · exact ha.ok V e1 q⟩
theorem ex_if (hc : EvXT W c x) (ha : EvX W ta a) (hb : EvX W tb b) : EvX W (cIf c ta tb) (xIf x a b) := ⟨mo_if hc.mono ha.mono hb.mono, fun V e q => by
  rcases bx_some e with ⟨v1, g1, e1, e⟩ | ⟨x, g1, e1, rfl⟩
  · refine hc.ok V e1 fun S1 V1 => ?_
    cases v1 with
    | true => exact ha.ok V1 e q
    | false => exact hb.ok V1 e q
  · exact hc.ok V e1 q⟩
theorem xa_nil : EvXA W cNil xNil := ⟨mo_nil, fun V e q => by cases e; exact q _ V⟩
theorem xa_cons (ha : EvX W ta a) (hu : EvXA W ua u) : EvXA W (cCons ta ua) (xCons a u) := ⟨mo_cons ha.mono hu.mono, fun V e q => by
  rcases bx_some e with ⟨v1, g1, e1, e⟩ | ⟨x, g1, e1, rfl⟩
  · refine ha.ok V e1 fun S1 V1 => ?_
    rcases bx_some e with ⟨v2, g2, e2, e⟩ | ⟨x, g2, e2, rfl⟩
    · refine hu.ok V1 e2 fun S2 V2 => ?_
      cases e
      exact q _ V2
    · exact hu.ok V1 e2 q
  · exact ha.ok V e1 q⟩
theorem ex_tup (hu : EvXA W ua u) : EvX W (cTup ua) (xTup u) := ⟨mo_tup hu.mono, fun V e q => by
  rcases bx_some e with ⟨v1, g1, e1, e⟩ | ⟨x, g1, e1, rfl⟩
  · refine hu.ok V e1 fun S1 V1 => ?_
    obtain ⟨v, e3, rfl⟩ := lift_some e
    obtain ⟨h1, e3⟩ := ite_some e3
    subst e3
    exact ⟨sz_of h1, q _ V1⟩
  · exact hu.ok V e1 q⟩
theorem ex_lst (hu : EvXA W ua u) : EvX W (cLst ua) (xLst u) := ⟨mo_lst hu.mono, fun V e q => by
  rcases bx_some e with ⟨v1, g1, e1, e⟩ | ⟨x, g1, e1, rfl⟩
  · refine hu.ok V e1 fun S1 V1 => ?_
    obtain ⟨v, e3, rfl⟩ := lift_some e
    obtain ⟨h1, e3⟩ := ite_some e3
    subst e3
    exact ⟨sz_of h1, q _ V1⟩
  · exact hu.ok V e1 q⟩
theorem ex_cb {rc : CC} {f : List Cv → Option Cv} (h : EC rc f) (hu : EvXA W ua u) : EvX W (cCB rc ua) (xCB f u) := ⟨cCB_mono h.mono hu.mono, fun V e q => by
  rcases bx_some e with ⟨v1, g1, e1, e⟩ | ⟨x, g1, e1, rfl⟩
  · refine hu.ok V e1 fun S1 V1 => ?_
    obtain ⟨v, e3, rfl⟩ := lift_some e
    exact h.ok e3 (q _ V1)
  · exact hu.ok V e1 q⟩
/-- a call of a def that computes, with effects in its arguments -/
theorem ex_call {n : Nat} {m : List Cv → Option Cv} {E} (hu : EvXA W ua u) : EvX W (cCall (spM n m) E ua) (xCB (arg n m) u) := ⟨mo_call spM_mono hu.mono, fun V e q => by
  rcases bx_some e with ⟨v1, g1, e1, e⟩ | ⟨x, g1, e1, rfl⟩
  · refine hu.ok V e1 fun S1 V1 => ?_
    obtain ⟨v, e3, rfl⟩ := lift_some e
    unfold arg at e3
    split at e3
    · exact ⟨by assumption, _, e3, q _ V1⟩
    · cases e3
  · exact hu.ok V e1 q⟩
end
/-! ### new objects -/
section
variable {W : WX'} {te : CE} {ua : CA} {u : XA}
theorem xn_p {m : ME} (h : EvN te m) : EvXN W te (xp m) := ⟨h.mono, fun V e q => by
  obtain ⟨v, e1, e⟩ := map_some' e
  subst e
  exact h.ok V e1 (q _ V)⟩
theorem xn_lst (hu : EvXA W ua u) : EvXN W (cLstO ua) (xLst u) := ⟨mo_lstO hu.mono, fun V e q => by
  rcases bx_some e with ⟨v1, g1, e1, e⟩ | ⟨x, g1, e1, rfl⟩
  · refine hu.ok V e1 fun S1 V1 => ?_
    obtain ⟨v, e3, rfl⟩ := lift_some e
    obtain ⟨h1, e3⟩ := ite_some e3
    subst e3
    exact ⟨sz_of h1, fun p hp => q _ V1 p _ hp rfl⟩
  · exact hu.ok V e1 q⟩
end
/-! ### iterations -/
def xSeqI (a : XE) : XA := fun gs => bx (a gs) fun v g => lift (fSeq v) g
def xRng1 (u : XA) : XA := fun gs => bx (u gs) fun v g => lift (fRng1 v) g
def xRng2 (u : XA) : XA := fun gs => bx (u gs) fun v g => lift (fRng2 v) g
section
variable {W : WX'} {te : CE} {ua : CA} {u : XA} {a : XE}
theorem xi_seq (h : EvX W te a) : EvXI W (cSeqI te) (xSeqI a) := ⟨mo_seqI h.mono, fun V e q => by
  rcases bx_some e with ⟨v1, g1, e1, e⟩ | ⟨x, g1, e1, rfl⟩
  · refine h.ok V e1 fun S1 V1 => ?_
    obtain ⟨v, e3, rfl⟩ := lift_some e
    cases v1 <;> first | (cases e3; exact q _ V1) | cases e3
  · exact h.ok V e1 q⟩
theorem xi_rng1 (h : EvXA W ua u) : EvXI W (cRng1 ua) (xRng1 u) := ⟨mo_rng1 h.mono, fun V e q => by
  rcases bx_some e with ⟨v1, g1, e1, e⟩ | ⟨x, g1, e1, rfl⟩
  · refine h.ok V e1 fun S1 V1 => ?_
    obtain ⟨v, e3, rfl⟩ := lift_some e
    unfold fRng1 at e3
    split at e3
    · obtain ⟨h1, e3⟩ := ite_some e3
      subst e3
      exact ⟨rng_of h1, q _ V1⟩
    · cases e3
  · exact h.ok V e1 q⟩
theorem xi_rng2 (h : EvXA W ua u) : EvXI W (cRng2 ua) (xRng2 u) := ⟨mo_rng2 h.mono, fun V e q => by
  rcases bx_some e with ⟨v1, g1, e1, e⟩ | ⟨x, g1, e1, rfl⟩
  · refine h.ok V e1 fun S1 V1 => ?_
    obtain ⟨v, e3, rfl⟩ := lift_some e
    unfold fRng2 at e3
    split at e3
    · obtain ⟨⟨h1, h2⟩, e3⟩ := ite_some e3
      subst e3
      have p1 := rng_of h1
      have p2 := rng_of h2
      exact ⟨⟨p1.1, p1.2, p2.1, p2.2⟩, q _ V1⟩
    · cases e3
  · exact h.ok V e1 q⟩
end
/-- the slots behind a comprehension: its own as before, the others as it leaves them -/
def mrest (gs : MEnv) (gi : MEnv) : List Nat → MEnv
  | [] => gi
  | v :: vs => (mrest gs gi vs).set v (match gs[v]? with | some (.pl w) => .pl w | _ => .no)
def xLcL (g : MG) (tt : XT) (te : XE) (vs : List Nat) : List Cv → MEnv → Option (Oc (List Cv))
  | [], gs => some (.ok [] gs)
  | x :: r, gs => (g x gs).bind fun g1 => bx (tt g1) fun b g2 => xIte b (fun g2 => bx (te g2) fun y g3 => bx (xLcL g tt te vs r (mwipe g3 vs)) fun ys g4 => some (.ok (y :: ys) g4)) (fun g2 => xLcL g tt te vs r (mwipe g2 vs)) g2
def xLc (ti : XA) (g : MG) (tt : XT) (te : XE) (vs : List Nat) : XE := fun gs => bx (ti gs) fun xs g0 => bx (xLcL g tt te vs xs (mwipe g0 vs)) fun ys g1 => lift (fLst ys) (mrest g0 g1 vs)
theorem mrest_len {gs gi : MEnv} : ∀ vs, (mrest gs gi vs).length = gi.length
  | [] => rfl
  | v :: vs => by rw [mrest, List.length_set, mrest_len vs]
theorem cwipe_len {ws : CL.Env} : ∀ vs, (cwipe ws vs).length = ws.length
  | [] => rfl
  | v :: vs => by show ((cwipe ws vs).set v none).length = _; rw [List.length_set, cwipe_len vs]
theorem cwipe_ne {ws : CL.Env} {j : Nat} : ∀ {vs : List Nat}, j ∉ vs → (cwipe ws vs)[j]? = ws[j]?
  | [], _ => rfl
  | v :: vs, h => by
    show ((cwipe ws vs).set v none)[j]? = _
    rw [List.getElem?_set_ne (fun e => h (by rw [e]; exact List.mem_cons_self)), cwipe_ne fun m => h (List.mem_cons_of_mem _ m)]
theorem View.rest {B S0 S : Sto} {gs gi : MEnv} {ws : CL.Env} {vs : List Nat} (V0 : View B S0 gs ws) (V : View B S gi (cwipe ws vs)) : View B S (mrest gs gi vs) ws := by
  have hl : ws.length = gi.length := by rw [← V.len, cwipe_len]
  have key : ∀ (l : List Nat), (∀ v ∈ l, v ∈ vs) → ∀ (i : Nat) (s : Sl), (mrest gs gi l)[i]? = some s → i ∈ l → s = .no ∨ ∃ v, s = .pl v ∧ ws[i]? = some (some v) := by
    intro l
    induction l with
    | nil => intro _ i s _ h; cases h
    | cons v l ih =>
      intro hs i s e h
      rw [mrest] at e
      by_cases q : v = i
      · subst q
        have hi : v < (mrest gs gi l).length := by
          have := (List.getElem?_eq_some_iff.mp e).1
          simpa using this
        rw [List.getElem?_set_self hi] at e
        cases e
        split
        · rename_i w hw
          exact .inr ⟨w, rfl, V0.pl _ _ hw⟩
        · exact .inl rfl
      · rw [List.getElem?_set_ne q] at e
        exact ih (fun x hx => hs x (List.mem_cons_of_mem _ hx)) i s e ((List.mem_cons.mp h).resolve_left fun z => q z.symm)
  have key2 : ∀ (l : List Nat) (i : Nat), i ∉ l → (mrest gs gi l)[i]? = gi[i]? := by
    intro l
    induction l with
    | nil => intro i _; rfl
    | cons v l ih =>
      intro i h
      rw [mrest, List.getElem?_set_ne (fun e => h (by rw [e]; exact List.mem_cons_self)), ih i fun m => h (List.mem_cons_of_mem _ m)]
  refine V.upd (by rw [mrest_len]; exact hl) fun i s e => ?_
  by_cases h : i ∈ vs
  · rcases key vs (fun _ h => h) i s e h with z | ⟨v, z, y⟩
    · exact .inl z
    · exact .inr (.inl ⟨v, z, y⟩)
  · rw [key2 vs i h] at e
    exact .inr (.inr ⟨e, (cwipe_ne h).symm⟩)
/-- targets within a comprehension: they touch its own slots alone -/
structure EvGv (g : CG) (γ : MG) (vs : List Nat) : Prop where
  mono : MonG g
  ok : ∀ {B S gs ws Q gs' w}, View B S gs ws → γ w gs = some gs' → (∀ ws', View B S gs' ws' → cwipe ws' vs = cwipe ws vs → Q ws' S) → g w ws S Q
structure EvGsv (g : CGs) (γ : MGs) (vs : List Nat) : Prop where
  mono : MonGs g
  ok : ∀ {B S gs ws Q gs' w}, View B S gs ws → γ w gs = some gs' → (∀ ws', View B S gs' ws' → cwipe ws' vs = cwipe ws vs → Q ws' S) → g w ws S Q
theorem cwipe_get (ws : CL.Env) : ∀ (vs : List Nat) (j : Nat), (cwipe ws vs)[j]? = if j ∈ vs ∧ j < ws.length then some none else ws[j]?
  | [], j => by simp [cwipe]
  | v :: vs, j => by
    show ((cwipe ws vs).set v none)[j]? = _
    by_cases e : v = j
    · subst e
      by_cases hj : v < ws.length
      · rw [List.getElem?_set_self (by rw [cwipe_len]; exact hj)]
        simp [hj]
      · rw [List.getElem?_eq_none (by rw [List.length_set, cwipe_len]; omega)]
        simp [hj]
    · rw [List.getElem?_set_ne e, cwipe_get ws vs j]
      have e2 : ¬ j = v := fun q => e q.symm
      simp [e2]
theorem cwipe_set {ws : CL.Env} {vs : List Nat} {i : Nat} {o : Option Cv} (h : i ∈ vs) : cwipe (ws.set i o) vs = cwipe ws vs := by
  apply List.ext_getElem?
  intro j
  rw [cwipe_get, cwipe_get, List.length_set]
  by_cases q : i = j
  · subst q
    by_cases hl : i < ws.length
    · simp [h, hl]
    · simp [hl]
  · rw [List.getElem?_set_ne q]
theorem cwipe_twice {ws : CL.Env} {vs : List Nat} : cwipe (cwipe ws vs) vs = cwipe ws vs := by
  apply List.ext_getElem?
  intro j
  rw [cwipe_get, cwipe_get, cwipe_len]
  split <;> simp_all
theorem gv_name {i : Nat} {vs : List Nat} (h : i ∈ vs := by decide) : EvGv (cgName i) (mgName i) vs := ⟨mo_gname, fun V e q => by
  cases e
  exact q _ (V.set _ _) (cwipe_set h)⟩
theorem gv_nil {vs : List Nat} : EvGsv cgNil mgNil vs := ⟨mo_gnil, fun V e q => by
  unfold mgNil at e
  split at e
  · cases e; exact ⟨rfl, q _ V rfl⟩
  · cases e⟩
theorem gv_cons {g : CG} {gr : CGs} {m : MG} {mr : MGs} {vs : List Nat} (hg : EvGv g m vs) (hr : EvGsv gr mr vs) : EvGsv (cgCons g gr) (mgCons m mr) vs := ⟨mo_gcons hg.mono hr.mono, fun V e q => by
  unfold mgCons at e
  split at e
  · cases e
  · obtain ⟨v1, e1, e⟩ := bind_some e
    exact hg.ok V e1 fun ws' V' c => hr.ok V' e fun ws2 V2 c2 => q ws2 V2 (c2.trans c)⟩
theorem gv_tup {g : CGs} {m : MGs} {n : Nat} {vs : List Nat} (hg : EvGsv g m vs) : EvGv (cgTup n g) (mgTup n m) vs := ⟨mo_gtup hg.mono, fun V e q => by
  unfold mgTup at e
  split at e
  · split at e
    · exact ⟨by assumption, hg.ok V e q⟩
    · cases e
  · cases e⟩
theorem View.re {B S : Sto} {gs : MEnv} {ws ws0 : CL.Env} {vs : List Nat} (V : View B S gs ws) (c : cwipe ws vs = cwipe ws0 vs) : View B S (mwipe gs vs) (cwipe ws0 vs) := by
  rw [← c]; exact V.wipe vs
section
variable {W : WX'} {ti : CI} {g : CG} {tt : CT} {te : CE} {xi : XA} {mg : MG} {xt : XT} {xe : XE} {vs : List Nat}
theorem xlcL_m (hg : EvGv g mg vs) (ht : EvXT (fun _ _ _ => False) tt xt) (he : EvX (fun _ _ _ => False) te xe) {B : Sto} {ws : CL.Env} {Q : List Cv → Sto → Prop} : ∀ {xs acc : List Cv} {S gs r}, View B S gs (cwipe ws vs) → xLcL mg xt xe vs xs gs = some r →
    (∀ ys gs', r = .ok ys gs' → acc.length + ys.length ≤ sizeLine ∧ ∀ S', View B S' gs' (cwipe ws vs) → Q (acc ++ ys) S') → (∀ x gs', r ≠ .ex x gs') → lcL (fun _ => True) g tt te (cwipe ws vs) Q xs acc S
  | [], acc, S, gs, r, V, e, q, nx => by
    cases e
    have := (q _ _ rfl).2 S V
    rw [List.append_nil] at this
    exact ⟨True.intro, this⟩
  | x :: xs, acc, S, gs, r, V, e, q, nx => by
    obtain ⟨g1, e1, e⟩ := bind_some e
    rcases bx_some e with ⟨b, g2, e2, e⟩ | ⟨x, g2, e2, rfl⟩
    · refine ⟨True.intro, hg.ok V e1 fun ws1 V1 c1 => ht.ok V1 e2 fun S2 V2 => ?_⟩
      rw [cwipe_twice] at c1
      cases b with
      | true =>
        rcases bx_some e with ⟨y, g3, e3, e⟩ | ⟨x, g3, e3, rfl⟩
        · refine he.ok V2 e3 fun S3 V3 => ?_
          rcases bx_some e with ⟨ys, g4, e4, e⟩ | ⟨x, g4, e4, rfl⟩
          · cases e
            have h1 := (q _ _ rfl).1
            rw [List.length_cons] at h1
            refine ⟨by omega, xlcL_m hg ht he (V3.re c1) e4 (fun ys' gs' er => ?_) fun x gs' er => by cases er⟩
            cases er
            refine ⟨by rw [List.length_append, List.length_singleton]; omega, fun S' V' => ?_⟩
            rw [List.append_assoc]
            exact (q _ _ rfl).2 S' V'
          · exact absurd rfl (nx _ _)
        · exact absurd rfl (nx _ _)
      | false => exact xlcL_m hg ht he (V2.re c1) e q nx
    · exact absurd rfl (nx _ _)
end
end CL

set_option Elab.async false
set_option linter.all false
set_option maxRecDepth 100000
set_option maxHeartbeats 1000000
/-! XL2: comprehensions, calls, statements -/
namespace CL
open PySem PySem.Spec PyProof.Rows L2
def noEx {α : Type} : Option (Oc α) → Option (Oc α)
  | some (.ok a gs) => some (.ok a gs)
  | _ => none
theorem noEx_some {α : Type} {o : Option (Oc α)} {r : Oc α} (h : noEx o = some r) : ∃ a gs, o = some (.ok a gs) ∧ r = .ok a gs := by
  unfold noEx at h
  split at h
  · cases h; exact ⟨_, _, rfl, rfl⟩
  · cases h
def xLcc (ti : XA) (g : MG) (tt : XT) (te : XE) (vs : List Nat) : XE := fun gs => bx (ti gs) fun xs g0 => bx (noEx (xLcL g tt te vs xs (mwipe g0 vs))) fun ys g1 => lift (fLst ys) (mrest g0 g1 vs)
section
variable {W : WX'} {ti : CI} {g : CG} {tt : CT} {te : CE} {xi : XA} {mg : MG} {xt : XT} {xe : XE} {vs : List Nat}
abbrev WF : WX' := fun _ _ _ => False
theorem ex_lc (hi : EvXI W ti xi) (hg : EvGv g mg vs) (ht : EvXT WF tt xt) (he : EvX WF te xe) : EvX W (cLc ti g tt te vs) (xLcc xi mg xt xe vs) := ⟨mo_lc hi.mono hg.mono ht.mono he.mono, fun {B S gs ws Q r} V e q => by
  rcases bx_some e with ⟨xs, g0, e1, e⟩ | ⟨x, g1, e1, rfl⟩
  · refine hi.ok V e1 fun S1 V1 => ?_
    rcases bx_some e with ⟨ys, g1, e2, e⟩ | ⟨x, g1, e2, rfl⟩
    · obtain ⟨_, _, e2, e3⟩ := noEx_some e2
      cases e3
      obtain ⟨v, e4, rfl⟩ := lift_some e
      obtain ⟨h1, e4⟩ := ite_some e4
      subst e4
      refine xlcL_m hg ht he (V1.wipe vs) e2 (fun ys' gs' er => ?_) fun x gs' er => by cases er
      cases er
      exact ⟨by simpa using sz_of h1, fun S' V' => q S' (V1.rest V')⟩
    · obtain ⟨_, _, _, e3⟩ := noEx_some e2
      cases e3
  · exact hi.ok V e1 q⟩
theorem xn_lc (hi : EvXI W ti xi) (hg : EvGv g mg vs) (ht : EvXT WF tt xt) (he : EvX WF te xe) : EvXN W (cLcO ti g tt te vs) (xLcc xi mg xt xe vs) := ⟨mo_lcO hi.mono hg.mono ht.mono he.mono, fun {B S gs ws Q r} V e q => by
  rcases bx_some e with ⟨xs, g0, e1, e⟩ | ⟨x, g1, e1, rfl⟩
  · refine hi.ok V e1 fun S1 V1 => ?_
    rcases bx_some e with ⟨ys, g1, e2, e⟩ | ⟨x, g1, e2, rfl⟩
    · obtain ⟨_, _, e2, e3⟩ := noEx_some e2
      cases e3
      obtain ⟨v, e4, rfl⟩ := lift_some e
      obtain ⟨h1, e4⟩ := ite_some e4
      subst e4
      refine xlcL_m hg ht he (V1.wipe vs) e2 (fun ys' gs' er => ?_) fun x gs' er => by cases er
      cases er
      exact ⟨by simpa using sz_of h1, fun S' V' p hp => q S' (V1.rest V') p _ hp rfl⟩
    · obtain ⟨_, _, _, e3⟩ := noEx_some e2
      cases e3
  · exact hi.ok V e1 q⟩
end

/-! ### calls that change their first argument; calls that give a new object -/
def spX (n : Nat) (m : List Cv → Option (Cv × Cv)) : CSp := fun us S Q _ => us.length = n ∧ ∃ p rest o st v st', us = .ref p :: rest ∧ S p = some o ∧ obv o = some st ∧ m (st :: rest) = some (v, st') ∧ ∀ o', obv o' = some st' → Q v (S.set p o')
theorem spX_mono {n : Nat} {m : List Cv → Option (Cv × Cv)} : MonSp (spX n m) := fun us S Q Q' E E' f g ⟨l, p, rest, o, st, v, st', a, b, c, d, q⟩ => ⟨l, p, rest, o, st, v, st', a, b, c, d, fun o' h => f _ _ (q o' h)⟩
def spN (n : Nat) (m : List Cv → Option Cv) : CSp := fun us S Q _ => us.length = n ∧ ∃ v, m us = some v ∧ ∀ p o, S p = none → obv o = some v → Q (.ref p) (S.set p o)
theorem spN_mono {n : Nat} {m : List Cv → Option Cv} : MonSp (spN n m) := fun us S Q Q' E E' f g ⟨l, v, a, q⟩ => ⟨l, v, a, fun p o h h' => f _ _ (q p o h h')⟩
def argX (n : Nat) (m : List Cv → Option (Cv × Cv)) (us : List Cv) : Option (Cv × Cv) := if us.length = n then m us else none
/-- f(the object in slot i, ..) -/
def xCall (n i : Nat) (m : List Cv → Option (Cv × Cv)) (u : XA) : XE := fun gs => (slO gs[i]?).bind fun _ => bx (u gs) fun us g1 => (slO g1[i]?).bind fun st => (argX n m (st :: us)).map fun r => .ok r.1 (g1.set i (.ow r.2))
theorem slO_some {o : Option Sl} {v : Cv} (h : slO o = some v) : o = some (.ow v) := by
  cases o with
  | none => cases h
  | some s => cases s <;> first | (cases h; done) | (cases h; rfl)
section
variable {W : WX'} {ua : CA} {u : XA} {te : CE} {a : XE}
theorem ex_callX {n i : Nat} {m : List Cv → Option (Cv × Cv)} {E} (hu : EvXA W ua u) : EvX W (cCall (spX n m) E (cCons (cVar i) ua)) (xCall n i m u) := ⟨mo_call spX_mono (mo_cons mo_var hu.mono), fun {B S gs ws Q r} V e q => by
  obtain ⟨s0, e0, e⟩ := bind_some e
  obtain ⟨p, o, w1, w2, w3, w4⟩ := V.ow _ _ (slO_some e0)
  refine x_call (x_ccons (x_var w1 ?_))
  rcases bx_some e with ⟨us, g1, e1, e⟩ | ⟨x, g1, e1, rfl⟩
  · obtain ⟨st, e2, e⟩ := bind_some e
    obtain ⟨rr, e3, e⟩ := map_some' e
    subst e
    have e2 := slO_some e2
    unfold argX at e3
    split at e3
    · rename_i hl
      refine hu.ok V e1 fun S1 V1 => ?_
      obtain ⟨p', o', f1, f2, f3, f4⟩ := V1.ow _ _ e2
      rw [w1] at f1
      cases f1
      exact ⟨by rw [List.length_cons] at hl ⊢; exact hl, p, us, o', st, rr.1, rr.2, rfl, f2, f3, e3, fun o2 ho => q _ (V1.chg e2 w1 ho)⟩
    · cases e3
  · exact hu.ok V e1 q⟩
theorem xn_call {n : Nat} {m : List Cv → Option Cv} {E} (hu : EvXA W ua u) : EvXN W (cCall (spN n m) E ua) (xCB (arg n m) u) := ⟨mo_call spN_mono hu.mono, fun V e q => by
  rcases bx_some e with ⟨us, g1, e1, e⟩ | ⟨x, g1, e1, rfl⟩
  · refine hu.ok V e1 fun S1 V1 => ?_
    obtain ⟨v, e3, rfl⟩ := lift_some e
    unfold arg at e3
    split at e3
    · exact ⟨by assumption, _, e3, q S1 V1⟩
    · cases e3
  · exact hu.ok V e1 q⟩
/-- x.pop(), x.pop(i), x an own list -/
def popF : Cv → Option (Cv × Cv)
  | .lst xs => (xs[xs.length - 1]?).map fun w => (w, .lst xs.dropLast)
  | _ => none
def popAtF : Cv → Cv → Option (Cv × Cv)
  | .lst xs, .int k => if decide (0 ≤ k ∧ k < 1000000) = true then (xs[k.toNat]?).map fun w => (w, .lst (xs.eraseIdx k.toNat)) else none
  | _, _ => none
def xPop (i : Nat) : XE := fun gs => (slO gs[i]?).bind fun o => (popF o).map fun r => .ok r.1 (gs.set i (.ow r.2))
def xPopAt (i : Nat) (a : XE) : XE := fun gs => ((slO gs[i]?).bind lstOnly).bind fun _ => bx (a gs) fun k g1 => (slO g1[i]?).bind fun o => (popAtF o k).map fun r => .ok r.1 (g1.set i (.ow r.2))
theorem ex_pop {i : Nat} : EvX W (cBM "list" cPop (cVar i) cNil) (xPop i) := ⟨cBM_mono es_pop.m_pop_mono mo_var mo_nil, fun V e q => by
  obtain ⟨o, e1, e⟩ := bind_some e
  obtain ⟨r, e2, e⟩ := map_some' e
  subst e
  have e1 := slO_some e1
  obtain ⟨p, ob, f1, f2, f3, f4⟩ := V.ow _ _ e1
  cases o with
  | lst xs =>
    obtain ⟨w, hw, e2⟩ := map_some' e2
    subst e2
    cases obv_lst f3
    refine x_bmK (x_var f1 (x_kBM f2 (x_cnil (ownL_to f2 ?_))))
    show match xs[xs.length - 1]? with | some w => _ | none => False
    rw [hw]
    exact q _ (V.chg e1 f1 rfl)
  | _ => cases e2⟩
theorem ex_popAt {i : Nat} (ha : EvX W te a) : EvX W (cBM "list" cPopAt (cVar i) (cCons te cNil)) (xPopAt i a) := ⟨cBM_mono mo_popAt mo_var (mo_cons ha.mono mo_nil), fun V e q => by
  obtain ⟨o1, e0, e⟩ := bind_some e
  obtain ⟨o0, e0, eo⟩ := bind_some e0
  have e0 := slO_some e0
  obtain ⟨p, ob, w1, w2, w3, w4⟩ := V.ow _ _ e0
  obtain ⟨ys, rfl⟩ : ∃ ys, o0 = .lst ys := by
    cases o0 <;> first | exact ⟨_, rfl⟩ | cases eo
  cases obv_lst w3
  refine x_bmK (x_var w1 (x_kBM w2 (x_ccons ?_)))
  rcases bx_some e with ⟨k, g1, e1, e⟩ | ⟨x, g1, e1, rfl⟩
  · obtain ⟨o, e2, e⟩ := bind_some e
    obtain ⟨r, e3, e⟩ := map_some' e
    subst e
    have e2 := slO_some e2
    refine ha.ok V e1 fun S1 V1 => x_cnil ?_
    obtain ⟨p', ob', f1, f2, f3, f4⟩ := V1.ow _ _ e2
    rw [w1] at f1
    cases f1
    cases o with
    | lst xs =>
      cases k with
      | int k =>
        have e3' : (if decide (0 ≤ k ∧ k < 1000000) = true then (xs[k.toNat]?).map fun w => (w, Cv.lst (xs.eraseIdx k.toNat)) else none) = some r := e3
        split at e3'
        · rename_i hk
          have hk := of_decide_eq_true hk
          obtain ⟨w, hw, e4⟩ := map_some' e3'
          subst e4
          cases obv_lst f3
          have hl := (List.getElem?_eq_some_iff.mp hw).1
          refine ownL_to f2 ⟨⟨by omega, by omega⟩, ?_⟩
          have ei : ixN xs.length k = some k.toNat := by unfold ixN; rw [if_pos hk.1, if_pos (by omega)]
          rw [ei]
          show match xs[k.toNat]? with | some w => _ | none => False
          rw [hw]
          exact q _ (V1.chg e2 w1 rfl)
        · cases e3'
      | _ => cases e3
    | _ => cases e3
  · exact ha.ok V e1 q⟩
end
end CL

set_option Elab.async false
set_option linter.all false
set_option maxRecDepth 100000
set_option maxHeartbeats 1000000
/-! XL3: statements with effects; a def's body -/
namespace CL
open PySem PySem.Spec PyProof.Rows L2
inductive Rx where
  | nx (gs : MEnv) | rt (v : Cv) (gs : MEnv) | ro (v : Cv) (gs : MEnv) | bk (gs : MEnv) | ct (gs : MEnv) | ex (x : Ex) (gs : MEnv)
abbrev XS := MEnv → Option Rx
structure XV (P : Option Addr) (B S : Sto) (gs : MEnv) (ws : CL.Env) : Prop where
  v : View B S gs ws
  fx : ∀ p, P = some p → ws[0]? = some (some (.ref p))
def OutS (P : Option Addr) (W : WX') (B : Sto) (D : CEnds) : Rx → Prop
  | .nx gs => ∀ S ws, XV P B S gs ws → D.nx ws S
  | .rt v gs => ∀ S ws, XV P B S gs ws → D.rt v S
  | .ro v gs => ∀ S ws, XV P B S gs ws → ∀ p o, S p = none → obv o = some v → D.rt (.ref p) (S.set p o)
  | .bk gs => ∀ S ws, XV P B S gs ws → D.bk ws S
  | .ct gs => ∀ S ws, XV P B S gs ws → D.ct ws S
  | .ex x gs => ∀ S ws, XV P B S gs ws → W x ws S
structure EvXS (b : Bool) (W : WX') (t : CS) (φ : XS) : Prop where
  mono : MonS t
  ok : ∀ {P B S gs ws D r}, (P ≠ none → b = true) → XV P B S gs ws → φ gs = some r → OutS P W B D r → t D ws S
structure EvGx (b : Bool) (g : CG) (γ : MG) : Prop where
  mono : MonG g
  ok : ∀ {B S gs ws Q gs' w}, View B S gs ws → γ w gs = some gs' → (∀ ws', View B S gs' ws' → (b = true → ws'[0]? = ws[0]?) → Q ws' S) → g w ws S Q
structure EvGsx (b : Bool) (g : CGs) (γ : MGs) : Prop where
  mono : MonGs g
  ok : ∀ {B S gs ws Q gs' w}, View B S gs ws → γ w gs = some gs' → (∀ ws', View B S gs' ws' → (b = true → ws'[0]? = ws[0]?) → Q ws' S) → g w ws S Q
theorem XV.to {P : Option Addr} {B S S' : Sto} {gs gs' : MEnv} {ws ws' : CL.Env} {b : Bool} (V : XV P B S gs ws) (hb : P ≠ none → b = true) (V' : View B S' gs' ws') (h : b = true → ws'[0]? = ws[0]?) : XV P B S' gs' ws' :=
  ⟨V', fun p e => by rw [h (hb (by rw [e]; intro z; cases z))]; exact V.fx p e⟩
theorem XV.same {P : Option Addr} {B S S' : Sto} {gs gs' : MEnv} {ws : CL.Env} (V : XV P B S gs ws) (V' : View B S' gs' ws) : XV P B S' gs' ws := ⟨V', V.fx⟩
section
variable {b : Bool}
theorem xg_name {i : Nat} (h : b = false ∨ i ≠ 0 := by decide) : EvGx b (cgName i) (mgName i) := ⟨mo_gname, fun V e q => by
  cases e
  refine q _ (V.set _ _) fun hb => ?_
  rcases h with h | h
  · rw [h] at hb; cases hb
  · rw [List.getElem?_set_ne h]⟩
theorem xg_nil : EvGsx b cgNil mgNil := ⟨mo_gnil, fun V e q => by
  unfold mgNil at e
  split at e
  · cases e; exact ⟨rfl, q _ V fun _ => rfl⟩
  · cases e⟩
theorem xg_cons {g : CG} {gr : CGs} {m : MG} {mr : MGs} (hg : EvGx b g m) (hr : EvGsx b gr mr) : EvGsx b (cgCons g gr) (mgCons m mr) := ⟨mo_gcons hg.mono hr.mono, fun V e q => by
  unfold mgCons at e
  split at e
  · cases e
  · obtain ⟨v1, e1, e⟩ := bind_some e
    exact hg.ok V e1 fun ws' V' c => hr.ok V' e fun ws2 V2 c2 => q ws2 V2 fun hb => (c2 hb).trans (c hb)⟩
theorem xg_tup {g : CGs} {m : MGs} {n : Nat} (hg : EvGsx b g m) : EvGx b (cgTup n g) (mgTup n m) := ⟨mo_gtup hg.mono, fun V e q => by
  unfold mgTup at e
  split at e
  · split at e
    · exact ⟨by assumption, hg.ok V e q⟩
    · cases e
  · cases e⟩
end
def sx {α : Type} (o : Option (Oc α)) (f : α → MEnv → Option Rx) : Option Rx := match o with
  | some (.ok a gs) => f a gs
  | some (.ex x gs) => some (.ex x gs)
  | none => none
theorem sx_some {α : Type} {o : Option (Oc α)} {f : α → MEnv → Option Rx} {r : Rx} (h : sx o f = some r) : (∃ a gs, o = some (.ok a gs) ∧ f a gs = some r) ∨ ∃ x gs, o = some (.ex x gs) ∧ r = .ex x gs := by
  unfold sx at h
  split at h
  · exact .inl ⟨_, _, rfl, h⟩
  · cases h; exact .inr ⟨_, _, rfl, rfl⟩
  · cases h
def xNext : XS := fun gs => some (.nx gs)
def xThen (q : XS) : Rx → Option Rx
  | .nx gs' => q gs'
  | r => some r
def xSeq (p q : XS) : XS := fun gs => (p gs).bind (xThen q)
def xAsg (a : XE) (g : MG) : XS := fun gs => sx (a gs) fun v g1 => (g v g1).map .nx
def xAsgN (a : XE) (i : Nat) : XS := fun gs => sx (a gs) fun v g1 => some (.nx (g1.set i (.ow v)))
def xDrop (a : XE) : XS := fun gs => sx (a gs) fun _ g1 => some (.nx g1)
def xRet (a : XE) : XS := fun gs => sx (a gs) fun v g1 => some (.rt v g1)
def xRetN : XS := fun gs => some (.rt .non gs)
def xRetO (a : XE) : XS := fun gs => sx (a gs) fun v g1 => some (.ro v g1)
def xIfS (c : XT) (a b : XS) : XS := fun gs => sx (c gs) fun x g1 => xIte x a b g1
def xBreak : XS := fun gs => some (.bk gs)
def xCont : XS := fun gs => some (.ct gs)
def xLoopK (vs : List Nat) (k : MEnv → Option Rx) : Rx → Option Rx
  | .nx gs2 => k (mwipe gs2 vs)
  | .ct gs2 => k (mwipe gs2 vs)
  | .bk gs2 => some (.nx (mwipe gs2 vs))
  | r => some r
def xForL (g : MG) (b : XS) (vs : List Nat) : List Cv → MEnv → Option Rx
  | [], gs => some (.nx gs)
  | x :: r, gs => (g x gs).bind fun gs1 => (b gs1).bind (xLoopK vs (xForL g b vs r))
def xFor (ti : XA) (g : MG) (b : XS) (vs : List Nat) : XS := fun gs => sx (ti gs) fun xs g0 => xForL g b vs xs (mwipe g0 vs)
def xWhile (c : XT) (b : XS) (vs : List Nat) : Nat → XS
  | 0, _ => none
  | n + 1, gs => sx (c gs) fun x g1 => xIte x (fun g1 => (b g1).bind (xLoopK vs (xWhile c b vs n))) (fun g1 => some (.nx g1)) g1
def xAug (i : Nat) (a : XE) (f : Cv → Cv → Option Cv) : XS := fun gs => (slP gs[i]?).bind fun v => sx (a gs) fun y g1 => (f v y).map fun z => .nx (g1.set i (.pl z))
def xPar (i j : Nat) (u : XA) : XS := fun gs => sx (u gs) fun us g1 => match us with | [x, y] => some (.nx ((g1.set i (.pl x)).set j (.pl y))) | _ => none
def xPar3 (i j l : Nat) (u : XA) : XS := fun gs => sx (u gs) fun us g1 => match us with | [x, y, z] => some (.nx (((g1.set i (.pl x)).set j (.pl y)).set l (.pl z))) | _ => none
def xParO (i j : Nat) (u : MAo) : XS := fun gs => (u gs).bind fun us => match us with | [x, y] => some (.nx ((gs.set i x).set j y)) | _ => none
def xParO3 (i j l : Nat) (u : MAo) : XS := fun gs => (u gs).bind fun us => match us with | [x, y, z] => some (.nx (((gs.set i x).set j y).set l z)) | _ => none
def xFrz (i : Nat) (q : XS) : XS := fun gs => (slO gs[i]?).bind fun v => q (gs.set i (.pl v))
section
variable {b : Bool} {W : WX'} {t t' : CS} {m m' : XS} {te : CE} {a : XE} {g : CG} {mg : MG} {c : CT} {mc : XT} {ti : CI} {mi : XA} {vs : List Nat} {ua : CA} {u : XA}
theorem ss_next : EvXS b W cNext xNext := ⟨mo_next, fun _ V e q => by cases e; exact q _ _ V⟩
theorem ss_seq (h : EvXS b W t m) (h' : EvXS b W t' m') : EvXS b W (cSeq t t') (xSeq m m') := ⟨cSeq_mono h.mono h'.mono, fun {P B S gs ws D r} hb V e q => by
  obtain ⟨r1, e1, e⟩ := bind_some e
  refine h.ok (D := { D with nx := t' D }) hb V e1 ?_
  cases r1 with
  | nx gs1 => exact fun S1 ws1 V1 => h'.ok hb V1 e q
  | _ => cases e; exact q⟩
theorem ss_asgX (h : EvX W te a) (hg : EvGx b g mg) : EvXS b W (cAsg te g) (xAsg a mg) := ⟨cAsg_mono h.mono hg.mono, fun hb V e q => by
  rcases sx_some e with ⟨v, g1, e1, e⟩ | ⟨x, g1, e1, rfl⟩
  · obtain ⟨gs1, e2, e⟩ := map_some' e
    subst e
    exact h.ok V.v e1 fun S1 V1 => hg.ok V1 e2 fun ws' V' c => q _ _ (V.to hb V' c)
  · exact h.ok V.v e1 fun S1 V1 => q _ _ (V.same V1)⟩
theorem ss_asgN {i : Nat} (h : EvXN W te a) (hi : b = false ∨ i ≠ 0 := by decide) : EvXS b W (cAsg te (cgName i)) (xAsgN a i) := ⟨cAsg_mono h.mono mo_gname, fun hb V e q => by
  rcases sx_some e with ⟨v, g1, e1, e⟩ | ⟨x, g1, e1, rfl⟩
  · cases e
    refine h.ok V.v e1 fun S1 V1 p o hp ho => q _ _ (V.to hb (V1.own i hp ho) fun hb2 => ?_)
    rcases hi with h | h
    · rw [h] at hb2; cases hb2
    · rw [List.getElem?_set_ne h]
  · exact h.ok V.v e1 fun S1 V1 => q _ _ (V.same V1)⟩
theorem ss_drop (h : EvX W te a) : EvXS b W (cDrop te) (xDrop a) := ⟨mo_drop h.mono, fun hb V e q => by
  rcases sx_some e with ⟨v, g1, e1, e⟩ | ⟨x, g1, e1, rfl⟩
  · cases e
    exact h.ok V.v e1 fun S1 V1 => q _ _ (V.same V1)
  · exact h.ok V.v e1 fun S1 V1 => q _ _ (V.same V1)⟩
theorem ss_ret' (h : EvX W te a) : EvXS b W (cRet te) (xRet a) := ⟨mo_ret h.mono, fun hb V e q => by
  rcases sx_some e with ⟨v, g1, e1, e⟩ | ⟨x, g1, e1, rfl⟩
  · cases e
    exact h.ok V.v e1 fun S1 V1 => q _ _ (V.same V1)
  · exact h.ok V.v e1 fun S1 V1 => q _ _ (V.same V1)⟩
theorem ss_retO (h : EvXN W te a) : EvXS b W (cRet te) (xRetO a) := ⟨mo_ret h.mono, fun hb V e q => by
  rcases sx_some e with ⟨v, g1, e1, e⟩ | ⟨x, g1, e1, rfl⟩
  · cases e
    exact h.ok V.v e1 fun S1 V1 p o hp ho => q _ _ (V.same V1) p o hp ho
  · exact h.ok V.v e1 fun S1 V1 => q _ _ (V.same V1)⟩
theorem ss_retN' : EvXS b W cRetN xRetN := ⟨mo_retN, fun hb V e q => by
  cases e
  exact q _ _ V⟩
theorem ss_ifX (hc : EvXT W c mc) (h : EvXS b W t m) (h' : EvXS b W t' m') : EvXS b W (cIfS c t t') (xIfS mc m m') := ⟨mo_ifS hc.mono h.mono h'.mono, fun hb V e q => by
  rcases sx_some e with ⟨v, g1, e1, e⟩ | ⟨x, g1, e1, rfl⟩
  · refine hc.ok V.v e1 fun S1 V1 => ?_
    cases v with
    | true => exact h.ok hb (V.same V1) e q
    | false => exact h'.ok hb (V.same V1) e q
  · exact hc.ok V.v e1 fun S1 V1 => q _ _ (V.same V1)⟩
theorem ss_brk : EvXS b W cBreak xBreak := ⟨mo_break, fun _ V e q => by cases e; exact q _ _ V⟩
theorem ss_cnt : EvXS b W cCont xCont := ⟨mo_cont, fun _ V e q => by cases e; exact q _ _ V⟩
theorem XV.wipe {P : Option Addr} {B S : Sto} {gs : MEnv} {ws : CL.Env} (V : XV P B S gs ws) (vs : List Nat) : XV P B S (mwipe gs vs) ws := ⟨V.v.wipe1 vs, V.fx⟩
theorem xforL_m (hg : EvGx b g mg) (h : EvXS b W t m) {P : Option Addr} (hb : P ≠ none → b = true) {D : CEnds} {B : Sto} : ∀ {xs : List Cv} {S gs ws r}, XV P B S gs ws → xForL mg m vs xs gs = some r → OutS P W B D r → forL (fun _ => True) g t D xs ws S
  | [], S, gs, ws, r, V, e, q => by
    cases e
    exact ⟨True.intro, q _ _ V⟩
  | x :: xs, S, gs, ws, r, V, e, q => by
    obtain ⟨gs1, e1, e⟩ := bind_some e
    obtain ⟨r1, e2, e⟩ := bind_some e
    refine ⟨True.intro, hg.ok V.v e1 fun ws1 V1 c1 => h.ok (D := { D with nx := fun ws2 S2 => forL (fun _ => True) g t D xs ws2 S2, ct := fun ws2 S2 => forL (fun _ => True) g t D xs ws2 S2, bk := D.nx }) hb (V.to hb V1 c1) e2 ?_⟩
    cases r1 with
    | nx gs2 => exact fun S2 ws2 V2 => xforL_m hg h hb (V2.wipe vs) e q
    | ct gs2 => exact fun S2 ws2 V2 => xforL_m hg h hb (V2.wipe vs) e q
    | bk gs2 => cases e; exact fun S2 ws2 V2 => q _ _ (V2.wipe vs)
    | rt v gs2 => cases e; exact q
    | ro v gs2 => cases e; exact q
    | ex x gs2 => cases e; exact q
theorem ss_forX (hi : EvXI W ti mi) (hg : EvGx b g mg) (h : EvXS b W t m) : EvXS b W (cFor ti g t) (xFor mi mg m vs) := ⟨mo_for hi.mono hg.mono h.mono, fun hb V e q => by
  rcases sx_some e with ⟨v, g1, e1, e⟩ | ⟨x, g1, e1, rfl⟩
  · exact hi.ok V.v e1 fun S1 V1 => xforL_m hg h hb ((V.same V1).wipe vs) e q
  · exact hi.ok V.v e1 fun S1 V1 => q _ _ (V.same V1)⟩
theorem ss_whileX {n : Nat} (hc : EvXT W c mc) (h : EvXS b W t m) : EvXS b W (cWhile c t) (xWhile mc m vs n) := ⟨mo_while hc.mono h.mono, fun {P B S gs ws D r} hb V e q => by
  refine ⟨fun n ws S => ∃ gs r, XV P B S gs ws ∧ xWhile mc m vs n gs = some r ∧ OutS P W B D r, ⟨n, gs, r, V, e, q⟩, ?_⟩
  rintro n ws S ⟨gs, r, V, e, q⟩
  cases n with
  | zero => cases e
  | succ n =>
    rcases sx_some e with ⟨v, g1, e1, e⟩ | ⟨x, g1, e1, rfl⟩
    · refine hc.ok V.v e1 fun S1 V1 => ?_
      cases v with
      | false => cases e; exact q _ _ (V.same V1)
      | true =>
        obtain ⟨r1, e2, e⟩ := bind_some e
        refine h.ok (D := { D with nx := _, ct := _, bk := D.nx }) hb (V.same V1) e2 ?_
        cases r1 with
        | nx gs2 => exact fun S2 ws2 V2 => ⟨n, Nat.lt_succ_self n, _, _, V2.wipe vs, e, q⟩
        | ct gs2 => exact fun S2 ws2 V2 => ⟨n, Nat.lt_succ_self n, _, _, V2.wipe vs, e, q⟩
        | bk gs2 => cases e; exact fun S2 ws2 V2 => q _ _ (V2.wipe vs)
        | rt v gs2 => cases e; exact q
        | ro v gs2 => cases e; exact q
        | ex x gs2 => cases e; exact q
    · exact hc.ok V.v e1 fun S1 V1 => q _ _ (V.same V1)⟩
theorem slP_some {o : Option Sl} {v : Cv} (h : slP o = some v) : o = some (.pl v) := by
  cases o with
  | none => cases h
  | some s => cases s <;> first | (cases h; done) | (cases h; rfl)
theorem XV.set {P : Option Addr} {B S : Sto} {gs : MEnv} {ws : CL.Env} (V : XV P B S gs ws) (hb : P ≠ none → b = true) {i : Nat} (v : Cv) (hi : b = false ∨ i ≠ 0) : XV P B S (gs.set i (.pl v)) (ws.set i (some v)) :=
  V.to hb (V.v.set i v) fun hb2 => by
    rcases hi with h | h
    · rw [h] at hb2; cases hb2
    · rw [List.getElem?_set_ne h]
theorem ss_augX {i : Nat} {r : C2} {f : Cv → Cv → Option Cv} (hr : E2 r f) (h : EvX W te a) (hi : b = false ∨ i ≠ 0 := by decide) : EvXS b W (cAug i te r) (xAug i a f) := ⟨mo_aug hr.mono h.mono, fun hb V e q => by
  obtain ⟨v, e0, e⟩ := bind_some e
  unfold cAug
  rw [V.v.pl _ _ (slP_some e0)]
  rcases sx_some e with ⟨y, g1, e1, e⟩ | ⟨x, g1, e1, rfl⟩
  · obtain ⟨z, e2, e⟩ := map_some' e
    subst e
    exact h.ok V.v e1 fun S1 V1 => hr.ok e2 (q _ _ ((V.same V1).set hb _ hi))
  · exact h.ok V.v e1 fun S1 V1 => q _ _ (V.same V1)⟩
theorem ss_parX {i j : Nat} (h : EvXA W ua u) (hi : b = false ∨ i ≠ 0 := by decide) (hj : b = false ∨ j ≠ 0 := by decide) : EvXS b W (cPar i j ua) (xPar i j u) := ⟨mo_par h.mono, fun hb V e q => by
  rcases sx_some e with ⟨us, g1, e1, e⟩ | ⟨x, g1, e1, rfl⟩
  · refine h.ok V.v e1 fun S1 V1 => ?_
    split at e
    · cases e; exact q _ _ (((V.same V1).set hb _ hi).set hb _ hj)
    · cases e
  · exact h.ok V.v e1 fun S1 V1 => q _ _ (V.same V1)⟩
theorem ss_par3X {i j l : Nat} (h : EvXA W ua u) (hi : b = false ∨ i ≠ 0 := by decide) (hj : b = false ∨ j ≠ 0 := by decide) (hl : b = false ∨ l ≠ 0 := by decide) : EvXS b W (cPar3 i j l ua) (xPar3 i j l u) := ⟨mo_par3 h.mono, fun hb V e q => by
  rcases sx_some e with ⟨us, g1, e1, e⟩ | ⟨x, g1, e1, rfl⟩
  · refine h.ok V.v e1 fun S1 V1 => ?_
    split at e
    · cases e; exact q _ _ ((((V.same V1).set hb _ hi).set hb _ hj).set hb _ hl)
    · cases e
  · exact h.ok V.v e1 fun S1 V1 => q _ _ (V.same V1)⟩
end
end CL

set_option Elab.async false
set_option linter.all false
set_option maxRecDepth 100000
set_option maxHeartbeats 1000000
/-! XL4: own objects by statements; a def's body -/
namespace CL
open PySem PySem.Spec PyProof.Rows L2
def xAppend (i : Nat) (a : XE) : XS := fun gs => ((slO gs[i]?).bind lstOnly).bind fun _ => sx (a gs) fun v g1 => (slO g1[i]?).bind fun o => (fApp v o).map fun o => .nx (g1.set i (.ow o))
def xExtend (i : Nat) (a : XE) : XS := fun gs => ((slO gs[i]?).bind lstOnly).bind fun _ => sx (a gs) fun v g1 => (slO g1[i]?).bind fun o => (fExt v o).map fun o => .nx (g1.set i (.ow o))
def fSetI : Cv → Cv → Cv → Option Cv
  | .lst xs, .int n, v => (ixN xs.length n).map fun j => .lst (xs.set j v)
  | _, _, _ => none
def xSetL (i : Nat) (k a : XE) : XS := fun gs => ((slO gs[i]?).bind lstOnly).bind fun _ => sx (a gs) fun v g1 => sx (k g1) fun n g2 => (slO g2[i]?).bind fun o => (fSetI o n v).map fun o => .nx (g2.set i (.ow o))
section
variable {b : Bool} {W : WX'} {t : CS} {m : XS} {te tk : CE} {a k : XE} {ua : CA}
theorem lst_slot {o : Option Sl} {w : Cv} (h : (slO o).bind lstOnly = some w) : ∃ xs, o = some (.ow (.lst xs)) := by
  obtain ⟨v, e, h⟩ := bind_some h
  have e := slO_some e
  cases v <;> first | exact ⟨_, e⟩ | cases h
theorem View.ref {B S S' : Sto} {gs gs' : MEnv} {ws : CL.Env} {i : Nat} {p : Addr} {v : Cv} (V : View B S gs ws) (hw : ws[i]? = some (some (.ref p))) (h : gs[i]? = some (.ow v)) : ∃ o, S p = some o ∧ obv o = some v := by
  obtain ⟨p', o, f1, f2, f3, _⟩ := V.ow _ _ h
  rw [hw] at f1; cases f1
  exact ⟨o, f2, f3⟩
theorem ss_append {i : Nat} (h : EvX W te a) : EvXS b W (cDrop (cBM "list" cAppend (cVar i) (cCons te cNil))) (xAppend i a) := ⟨mo_drop (cBM_mono mo_append mo_var (mo_cons h.mono mo_nil)), fun {P B S gs ws D r} hb V e q => by
  obtain ⟨w, e0, e⟩ := bind_some e
  obtain ⟨ys, e0⟩ := lst_slot e0
  obtain ⟨p, ob, w1, w2, w3, w4⟩ := V.v.ow _ _ e0
  cases obv_lst w3
  refine x_drop (x_bmK (x_var w1 (x_kBM w2 (x_ccons ?_))))
  rcases sx_some e with ⟨v, g1, e1, e⟩ | ⟨x, g1, e1, rfl⟩
  · refine h.ok V.v e1 fun S1 V1 => x_cnil ?_
    obtain ⟨o, e2, e⟩ := bind_some e
    obtain ⟨o2, e3, e⟩ := map_some' e
    subst e
    have e2 := slO_some e2
    obtain ⟨ob, f1, f2⟩ := V1.ref (S' := S1) (gs' := g1) w1 e2
    cases o with
    | lst xs =>
      obtain ⟨h1, e3⟩ := ite_some (show (if decide (xs.length < 1000000) = true then some (Cv.lst (xs ++ [v])) else none) = some o2 from e3)
      subst e3
      cases obv_lst f2
      exact x_append f1 (Nat.lt_of_lt_of_le (of_decide_eq_true h1) (by decide)) (q _ _ (V.same (V1.chg e2 w1 rfl)))
    | _ => cases e3
  · exact h.ok V.v e1 fun S1 V1 => q _ _ (V.same V1)⟩
theorem ss_extend {i : Nat} (h : EvX W te a) : EvXS b W (cDrop (cBM "list" cExtend (cVar i) (cCons te cNil))) (xExtend i a) := ⟨mo_drop (cBM_mono mo_extend mo_var (mo_cons h.mono mo_nil)), fun {P B S gs ws D r} hb V e q => by
  obtain ⟨w, e0, e⟩ := bind_some e
  obtain ⟨ys, e0⟩ := lst_slot e0
  obtain ⟨p, ob, w1, w2, w3, w4⟩ := V.v.ow _ _ e0
  cases obv_lst w3
  refine x_drop (x_bmK (x_var w1 (x_kBM w2 (x_ccons ?_))))
  rcases sx_some e with ⟨v, g1, e1, e⟩ | ⟨x, g1, e1, rfl⟩
  · refine h.ok V.v e1 fun S1 V1 => x_cnil ?_
    obtain ⟨o, e2, e⟩ := bind_some e
    obtain ⟨o2, e3, e⟩ := map_some' e
    subst e
    have e2 := slO_some e2
    obtain ⟨ob, f1, f2⟩ := V1.ref (S' := S1) (gs' := g1) w1 e2
    cases o with
    | lst xs =>
      cases v with
      | lst zs =>
        obtain ⟨h1, e3⟩ := ite_some (show (if lenOk (xs.length + zs.length) = true then some (Cv.lst (xs ++ zs)) else none) = some o2 from e3)
        subst e3
        cases obv_lst f2
        exact x_extendL f1 (sz_of h1) (q _ _ (V.same (V1.chg e2 w1 rfl)))
      | _ => cases e3
    | _ => cases v <;> cases e3
  · exact h.ok V.v e1 fun S1 V1 => q _ _ (V.same V1)⟩
theorem ss_setLX {i : Nat} (hk : EvX W tk k) (h : EvX W te a) : EvXS b W (cSetL (cVar i) tk te) (xSetL i k a) := ⟨mo_setL h.mono mo_var hk.mono, fun {P B S gs ws D r} hb V e q => by
  obtain ⟨w, e0, e⟩ := bind_some e
  obtain ⟨ys, e0⟩ := lst_slot e0
  obtain ⟨p, ob, w1, w2, w3, w4⟩ := V.v.ow _ _ e0
  refine x_setK ?_
  rcases sx_some e with ⟨v, g1, e1, e⟩ | ⟨x, g1, e1, rfl⟩
  · refine h.ok V.v e1 fun S1 V1 => x_var w1 ?_
    rcases sx_some e with ⟨n, g2, e2, e⟩ | ⟨x, g2, e2, rfl⟩
    · refine hk.ok V1 e2 fun S2 V2 => ?_
      obtain ⟨o, e3, e⟩ := bind_some e
      obtain ⟨o2, e4, e⟩ := map_some' e
      subst e
      have e3 := slO_some e3
      obtain ⟨ob, f1, f2⟩ := V2.ref (S' := S2) (gs' := g2) w1 e3
      cases o with
      | lst xs =>
        cases n with
        | int n =>
          obtain ⟨j, h1, e4⟩ := map_some' (show (ixN xs.length n).map (fun j => Cv.lst (xs.set j v)) = some o2 from e4)
          subst e4
          cases obv_lst f2
          exact x_kSet f1 h1 (q _ _ (V.same (V2.chg e3 w1 rfl)))
        | _ => cases e4
      | _ => cases n <;> cases e4
    · exact hk.ok V1 e2 fun S2 V2 => q _ _ (V.same V2)
  · exact h.ok V.v e1 fun S1 V1 => q _ _ (V.same V1)⟩
theorem ss_parOX {i j : Nat} {u : MAo} (h : EvAo ua u) (hi : b = false ∨ i ≠ 0 := by decide) (hj : b = false ∨ j ≠ 0 := by decide) : EvXS b W (cPar i j ua) (xParO i j u) := ⟨mo_par h.mono, fun {P B S gs ws D r} hb V e q => by
  obtain ⟨ss, e1, e⟩ := bind_some e
  refine h.ok V.v e1 fun S' us al => ?_
  split at e
  · cases e
    have hl := al.len
    match us, hl with
    | [x, y], _ =>
      obtain ⟨S1, V1, al⟩ := V.v.alloc1 i al
      obtain ⟨S2, V2, al⟩ := V1.alloc1 j al
      cases al
      refine q _ _ (V.to hb V2 fun hb2 => ?_)
      rcases hi with h | h
      · rw [h] at hb2; cases hb2
      · rcases hj with h' | h'
        · rw [h'] at hb2; cases hb2
        · rw [List.getElem?_set_ne h', List.getElem?_set_ne h]
  · cases e⟩
theorem ss_tupOX {i j : Nat} {u : MAo} (h : EvAo ua u) (hi : b = false ∨ i ≠ 0 := by decide) (hj : b = false ∨ j ≠ 0 := by decide) : EvXS b W (cAsg (cTup ua) (cgTup 2 (cgCons (cgName i) (cgCons (cgName j) cgNil)))) (xParO i j u) := ⟨cAsg_mono (mo_tup h.mono) (mo_gtup (mo_gcons mo_gname (mo_gcons mo_gname mo_gnil))), fun {P B S gs ws D r} hb V e q => by
  obtain ⟨ss, e1, e⟩ := bind_some e
  refine h.ok V.v e1 fun S' us al => ?_
  split at e
  · cases e
    have hl := al.len
    match us, hl with
    | [x, y], _ =>
      obtain ⟨S1, V1, al⟩ := V.v.alloc1 i al
      obtain ⟨S2, V2, al⟩ := V1.alloc1 j al
      cases al
      refine ⟨(by decide : 2 ≤ sizeLine), rfl, rfl, q _ _ (V.to hb V2 fun hb2 => ?_)⟩
      rcases hi with h | h
      · rw [h] at hb2; cases hb2
      · rcases hj with h' | h'
        · rw [h'] at hb2; cases hb2
        · rw [List.getElem?_set_ne h', List.getElem?_set_ne h]
  · cases e⟩
theorem es_tupO {i j : Nat} {u : MAo} (h : EvAo ua u) : EvS (cAsg (cTup ua) (cgTup 2 (cgCons (cgName i) (cgCons (cgName j) cgNil)))) (mParO i j u) := ⟨cAsg_mono (mo_tup h.mono) (mo_gtup (mo_gcons mo_gname (mo_gcons mo_gname mo_gnil))), fun {B S gs ws D r} V e q => by
  obtain ⟨ss, e1, e⟩ := bind_some e
  refine h.ok V e1 fun S' us al => ?_
  split at e
  · cases e
    have hl := al.len
    match us, hl with
    | [x, y], _ =>
      obtain ⟨S1, V1, al⟩ := V.alloc1 i al
      obtain ⟨S2, V2, al⟩ := V1.alloc1 j al
      cases al
      exact ⟨(by decide : 2 ≤ sizeLine), rfl, rfl, q _ _ V2⟩
  · cases e⟩
theorem ss_parO3X {i j l : Nat} {u : MAo} (h : EvAo ua u) (hi : b = false ∨ i ≠ 0 := by decide) (hj : b = false ∨ j ≠ 0 := by decide) (hl' : b = false ∨ l ≠ 0 := by decide) : EvXS b W (cPar3 i j l ua) (xParO3 i j l u) := ⟨mo_par3 h.mono, fun {P B S gs ws D r} hb V e q => by
  obtain ⟨ss, e1, e⟩ := bind_some e
  refine h.ok V.v e1 fun S' us al => ?_
  split at e
  · cases e
    have hl := al.len
    match us, hl with
    | [x, y, z], _ =>
      obtain ⟨S1, V1, al⟩ := V.v.alloc1 i al
      obtain ⟨S2, V2, al⟩ := V1.alloc1 j al
      obtain ⟨S3, V3, al⟩ := V2.alloc1 l al
      cases al
      refine q _ _ (V.to hb V3 fun hb2 => ?_)
      rcases hi with h | h
      · rw [h] at hb2; cases hb2
      · rcases hj with h' | h'
        · rw [h'] at hb2; cases hb2
        · rcases hl' with h2 | h2
          · rw [h2] at hb2; cases hb2
          · rw [List.getElem?_set_ne h2, List.getElem?_set_ne h', List.getElem?_set_ne h]
  · cases e⟩
theorem View.frz {B S : Sto} {gs : MEnv} {ws : CL.Env} (V : View B S gs ws) {i : Nat} {p : Addr} {o : Ob} {v : Cv} (hv : gs[i]? = some (.ow v)) (e1 : ws[i]? = some (some (.ref p))) (e2 : S p = some o) (e4 : B p = none) : View B (S.del p) (gs.set i (.pl v)) (ws.set i (some v)) := by
  have hi : i < gs.length := (List.getElem?_eq_some_iff.mp hv).1
  refine ⟨by simp [V.len], fun j u eu => ?_, fun j u eu => ?_, fun j k u u' x n eu eu' a b => ?_, fun a o ea => ?_⟩
  · by_cases z : i = j
    · subst z
      rw [List.getElem?_set_self hi] at eu; cases eu
      rw [List.getElem?_set_self (by rw [V.len]; exact hi)]
    · rw [List.getElem?_set_ne z] at eu ⊢; exact V.pl _ _ eu
  · by_cases z : i = j
    · subst z
      rw [List.getElem?_set_self hi] at eu; cases eu
    · rw [List.getElem?_set_ne z] at eu ⊢
      obtain ⟨p', o', f1, f2, f3, f4⟩ := V.ow _ _ eu
      refine ⟨p', o', f1, ?_, f3, f4⟩
      rw [Sto.del_ne]; exact f2
      intro y; subst y
      exact V.dj i j _ _ _ z hv eu e1 f1
  · by_cases z : i = j
    · subst z; rw [List.getElem?_set_self hi] at eu; cases eu
    · by_cases z' : i = k
      · subst z'; rw [List.getElem?_set_self hi] at eu'; cases eu'
      · rw [List.getElem?_set_ne z] at eu a
        rw [List.getElem?_set_ne z'] at eu' b
        exact V.dj j k _ _ _ n eu eu' a b
  · have : a ≠ p := fun y => by subst y; rw [e4] at ea; cases ea
    rw [Sto.del_ne this]; exact V.base _ _ ea
theorem ss_frzX {i : Nat} (h : EvXS b W t m) (hi : b = false ∨ i ≠ 0 := by decide) : EvXS b W (cFrz i t) (xFrz i m) := ⟨mo_frz h.mono, fun {P B S gs ws D r} hb V e q => by
  obtain ⟨v, hv, e⟩ := bind_some e
  have hv := slO_some hv
  obtain ⟨p, o, e1, e2, e3, e4⟩ := V.v.ow _ _ hv
  refine ⟨p, o, v, e1, e2, e3, h.ok hb (V.to hb ?_ fun hb2 => ?_) e q⟩
  · exact V.v.frz hv e1 e2 e4
  · rcases hi with h | h
    · rw [h] at hb2; cases hb2
    · rw [List.getElem?_set_ne h]⟩
end
end CL

set_option Elab.async false
set_option linter.all false
set_option maxRecDepth 100000
set_option maxHeartbeats 1000000
/-! XL5: a def's body with effects; step by step -/
namespace CL
open PySem PySem.Spec PyProof.Rows L2
def xstart (N : List Str) (st : Cv) (rest : List Cv) : MEnv := .ow st :: (rest.map Sl.pl ++ List.replicate (N.length - (rest.length + 1)) .no)
def outP : Rx → Option (Cv × Cv)
  | .rt v gs => (slO gs[0]?).map fun o => (v, o)
  | .nx gs => (slO gs[0]?).map fun o => (.non, o)
  | _ => none
def outV : Rx → Option Cv
  | .rt v _ => some v
  | .nx _ => some .non
  | _ => none
def outO : Rx → Option Cv
  | .ro v _ => some v
  | _ => none
def runP (N : List Str) (φ : XS) : List Cv → Option (Cv × Cv)
  | [] => none
  | st :: rest => (φ (xstart N st rest)).bind outP
def runV (N : List Str) (φ : XS) (us : List Cv) : Option Cv := (φ (mstart N us)).bind outV
def runN (N : List Str) (φ : XS) (us : List Cv) : Option Cv := (φ (mstart N us)).bind outO
theorem mstart_no {N : List Str} {us : List Cv} : ∀ (i : Nat) (v : Cv), (mstart N us)[i]? ≠ some (.ow v) := fun i v e => by
  unfold mstart at e
  by_cases h : i < us.length
  · rw [List.getElem?_append_left (by simpa using h), List.getElem?_map, List.getElem?_eq_getElem h] at e
    cases e
  · rw [List.getElem?_append_right (by simpa using h), List.getElem?_replicate] at e
    split at e <;> cases e
theorem View.first {S : Sto} {gs : MEnv} {ws : CL.Env} {p : Addr} {o : Ob} {st : Cv} (V : View S S gs ws) (hno : ∀ (i : Nat) (v : Cv), gs[i]? ≠ some (.ow v)) (hw : ws[0]? = some (some (.ref p))) (hS : S p = some o) (ho : obv o = some st) : View (S.del p) S (gs.set 0 (.ow st)) ws := by
  have h0 : 0 < gs.length := by
    have := (List.getElem?_eq_some_iff.mp hw).1
    rwa [V.len] at this
  refine ⟨by simp [V.len], fun i v e => ?_, fun i v e => ?_, fun i j u v q n e1 e2 a b => ?_, Sto.del_sub⟩
  · by_cases z : 0 = i
    · subst z; rw [List.getElem?_set_self h0] at e; cases e
    · rw [List.getElem?_set_ne z] at e; exact V.pl _ _ e
  · by_cases z : 0 = i
    · subst z; rw [List.getElem?_set_self h0] at e; cases e
      exact ⟨p, o, hw, hS, ho, Sto.del_same⟩
    · rw [List.getElem?_set_ne z] at e; exact (hno _ _ e).elim
  · by_cases z : 0 = i
    · have z2 : 0 ≠ j := fun y => n (z.symm.trans y)
      rw [List.getElem?_set_ne z2] at e2; exact hno _ _ e2
    · rw [List.getElem?_set_ne z] at e1; exact hno _ _ e1
theorem PL.ofX {N ps : List Str} {t : CS} {φ : XS} (h : EvXS true WF t φ) (hN : N ≠ [] := by intro z; cases z) : PL N ps (spX ps.length (runP N φ)) t :=
  ⟨spX_mono, fun us S Q E ⟨l, _⟩ => l, fun us S Q E ⟨l, p, rest, o, st, v, st', e1, e2, e3, e4, q⟩ => by
    subst e1
    obtain ⟨r, e5, e⟩ := bind_some (show (φ (xstart N st rest)).bind outP = some (v, st') from e4)
    have V0 : View (S.del p) S (xstart N st rest) (cstart N (.ref p :: rest)) := by
      have := (view_start (S := S) (N := N) (us := .ref p :: rest)).first (p := p) (o := o) (st := st) mstart_no rfl e2 e3
      exact this
    have fin : ∀ {gs v' S' ws'}, XV (some p) (S.del p) S' gs ws' → (slO gs[0]?).map (fun o => (v', o)) = some (v, st') → Hand S v' S' Q := by
      intro gs v' S' ws' V e
      obtain ⟨o1, e6, e⟩ := map_some' e
      cases e
      have e6 := slO_some e6
      obtain ⟨p', o', f1, f2, f3, _⟩ := V.v.ow _ _ e6
      rw [V.fx p rfl] at f1
      cases f1
      refine ⟨S.set p o', _, fun a x ex => ?_, .inl rfl, q o' f3⟩
      by_cases z : a = p
      · subst z; rw [Sto.set_same] at ex; cases ex; exact f2
      · rw [Sto.set_ne z] at ex
        exact V.v.base a x (by rw [Sto.del_ne z]; exact ex)
    refine h.ok (P := some p) (fun _ => rfl) ⟨V0, fun p' ep => by cases ep; rfl⟩ e5 ?_
    cases r with
    | nx gs => exact fun S' ws' V => fin V e
    | rt v' gs => exact fun S' ws' V => fin V e
    | _ => cases e⟩
theorem PL.ofXV {N ps : List Str} {t : CS} {φ : XS} (h : EvXS false WF t φ) : PL N ps (spM ps.length (runV N φ)) t :=
  ⟨spM_mono, fun us S Q E ⟨l, _⟩ => l, fun us S Q E ⟨l, v, e, q⟩ => by
    obtain ⟨r, e1, e⟩ := bind_some e
    refine h.ok (P := none) (fun z => absurd rfl z) ⟨view_start, fun _ z => by cases z⟩ e1 ?_
    cases r with
    | nx gs => cases e; exact fun S' ws' V => ⟨S, _, V.v.base, .inl rfl, q⟩
    | rt v gs => cases e; exact fun S' ws' V => ⟨S, _, V.v.base, .inl rfl, q⟩
    | _ => cases e⟩
theorem PL.ofXN {N ps : List Str} {t : CS} {φ : XS} (h : EvXS false WF t φ) : PL N ps (spN ps.length (runN N φ)) t :=
  ⟨spN_mono, fun us S Q E ⟨l, _⟩ => l, fun us S Q E ⟨l, v, e, q⟩ => by
    obtain ⟨r, e1, e⟩ := bind_some e
    refine h.ok (P := none) (fun z => absurd rfl z) ⟨view_start, fun _ z => by cases z⟩ e1 ?_
    cases r with
    | ro v gs =>
      cases e
      intro S' ws' V p o hp ho
      have hSp : S p = none := by
        cases ez : S p with
        | none => rfl
        | some x => rw [V.v.base _ _ ez] at hp; cases hp
      refine ⟨S.set p o, _, fun a x ex => ?_, .inl rfl, q p o hSp ho⟩
      by_cases z : a = p
      · subst z; rw [Sto.set_same] at ex ⊢; exact ex
      · rw [Sto.set_ne z] at ex ⊢; exact V.v.base a x ex
    | _ => cases e⟩
end CL

set_option Elab.async false
set_option linter.all false
set_option maxRecDepth 100000
set_option maxHeartbeats 1000000
/-! XL6: computed readings with effects, step by step -/
namespace CL
open PySem PySem.Spec PyProof.Rows L2
section
variable {α β : Type} {a b : XE} {t u : XT} {U : XA} {gs : MEnv} {p q : XS} {f g : Cv → Cv → Option Cv} {v w : Cv} {i j n : Nat} {xs : List Cv} {G : MG} {vs : List Nat} {x : Ex} {s : Sl} {c : Bool}
theorem w_bx {v : α} {k : α → MEnv → Option (Oc β)} : bx (some (.ok v gs)) k = k v gs := rfl
theorem w_bxe {k : α → MEnv → Option (Oc β)} : bx (some (.ex x gs)) k = some (.ex x gs) := rfl
theorem w_sx {v : α} {k : α → MEnv → Option Rx} : sx (some (.ok v gs)) k = k v gs := rfl
theorem w_sxe {k : α → MEnv → Option Rx} : sx (some (.ex x gs)) k = some (.ex x gs) := rfl
theorem w_lift {v : α} : lift (some v) gs = some (.ok v gs) := rfl
theorem w_iteT {A B : MEnv → Option α} : xIte true A B gs = A gs := rfl
theorem w_iteF {A B : MEnv → Option α} : xIte false A B gs = B gs := rfl
theorem w_iteN {A B : MEnv → Option α} : xIte (!c) A B gs = xIte c B A gs := by cases c <;> rfl
theorem w_p {m : ME} : xp m gs = lift (m gs) gs := rfl
theorem w_pT {m : MT} : xpT m gs = lift (m gs) gs := rfl
theorem w_pA {m : MA} : xpA m gs = lift (m gs) gs := rfl
theorem w_op : xOp f a b gs = bx (a gs) fun x g1 => bx (b g1) fun y g2 => lift (f x y) g2 := rfl
theorem w_un {h : Cv → Option Cv} : xUn h a gs = bx (a gs) fun x g1 => lift (h x) g1 := rfl
theorem w_b : xB a gs = bx (a gs) fun x g1 => lift (fB x) g1 := rfl
theorem w_not : xNot t gs = bx (t gs) fun x g1 => some (.ok (!x) g1) := rfl
theorem w_and : xAnd t u gs = bx (t gs) fun x g1 => xIte x u (fun g => some (.ok false g)) g1 := rfl
theorem w_or : xOr t u gs = bx (t gs) fun x g1 => xIte x (fun g => some (.ok true g)) u g1 := rfl
theorem w_notV : xNotV a gs = bx (a gs) fun x g1 => lift ((fB x).map fun b => .bl (!b)) g1 := rfl
theorem w_andV : xAndV a b gs = bx (a gs) fun x g1 => (fB x).bind fun c => xIte c b (fun g => some (.ok (.bl false) g)) g1 := rfl
theorem w_orV : xOrV a b gs = bx (a gs) fun x g1 => (fB x).bind fun c => xIte c (fun g => some (.ok (.bl true) g)) b g1 := rfl
theorem w_if : xIf t a b gs = bx (t gs) fun x g1 => xIte x a b g1 := rfl
theorem w_nil : xNil gs = some (.ok [] gs) := rfl
theorem w_cons : xCons a U gs = bx (a gs) fun x g1 => bx (U g1) fun r g2 => some (.ok (x :: r) g2) := rfl
theorem w_tup : xTup U gs = bx (U gs) fun r g => lift (fTup r) g := rfl
theorem w_lst : xLst U gs = bx (U gs) fun r g => lift (fLst r) g := rfl
theorem w_cb {h : List Cv → Option Cv} : xCB h U gs = bx (U gs) fun r g => lift (h r) g := rfl
theorem w_seqI : xSeqI a gs = bx (a gs) fun v g => lift (fSeq v) g := rfl
theorem w_rng1 : xRng1 U gs = bx (U gs) fun v g => lift (fRng1 v) g := rfl
theorem w_rng2 : xRng2 U gs = bx (U gs) fun v g => lift (fRng2 v) g := rfl
theorem w_lc {te : XE} : xLcc U G t te vs gs = bx (U gs) fun xs g0 => bx (noEx (xLcL G t te vs xs (mwipe g0 vs))) fun ys g1 => lift (fLst ys) (mrest g0 g1 vs) := rfl
theorem w_noEx {v : α} : noEx (some (.ok v gs)) = some (.ok v gs) := rfl
theorem w_lcL0 {te : XE} : xLcL G t te vs [] gs = some (.ok [] gs) := rfl
theorem w_lcL {te : XE} : xLcL G t te vs (v :: xs) gs = (G v gs).bind fun g1 => bx (t g1) fun b g2 => xIte b (fun g2 => bx (te g2) fun y g3 => bx (xLcL G t te vs xs (mwipe g3 vs)) fun ys g4 => some (.ok (y :: ys) g4)) (fun g2 => xLcL G t te vs xs (mwipe g2 vs)) g2 := rfl
theorem w_call {m : List Cv → Option (Cv × Cv)} : xCall n i m U gs = (slO gs[i]?).bind fun _ => bx (U gs) fun us g1 => (slO g1[i]?).bind fun st => (argX n m (st :: us)).map fun r => .ok r.1 (g1.set i (.ow r.2)) := rfl
theorem w_argX1 {m : List Cv → Option (Cv × Cv)} {x1 : Cv} : argX 1 m [x1] = m [x1] := rfl
theorem w_argX2 {m : List Cv → Option (Cv × Cv)} {x1 x2 : Cv} : argX 2 m [x1, x2] = m [x1, x2] := rfl
theorem w_argX3 {m : List Cv → Option (Cv × Cv)} {x1 x2 x3 : Cv} : argX 3 m [x1, x2, x3] = m [x1, x2, x3] := rfl
theorem w_argX4 {m : List Cv → Option (Cv × Cv)} {x1 x2 x3 x4 : Cv} : argX 4 m [x1, x2, x3, x4] = m [x1, x2, x3, x4] := rfl
theorem w_pop : xPop i gs = (slO gs[i]?).bind fun o => (popF o).map fun r => .ok r.1 (gs.set i (.ow r.2)) := rfl
theorem w_popAt : xPopAt i a gs = ((slO gs[i]?).bind lstOnly).bind fun _ => bx (a gs) fun k g1 => (slO g1[i]?).bind fun o => (popAtF o k).map fun r => .ok r.1 (g1.set i (.ow r.2)) := rfl
theorem w_nxt : xNext gs = some (.nx gs) := rfl
theorem w_seq : xSeq p q (s :: gs) = (p (s :: gs)).bind (xThen q) := rfl
theorem w_thN : xThen q (.nx gs) = q gs := rfl
theorem w_thR : xThen q (.rt v gs) = some (.rt v gs) := rfl
theorem w_thO : xThen q (.ro v gs) = some (.ro v gs) := rfl
theorem w_thB : xThen q (.bk gs) = some (.bk gs) := rfl
theorem w_thC : xThen q (.ct gs) = some (.ct gs) := rfl
theorem w_thE : xThen q (.ex x gs) = some (.ex x gs) := rfl
theorem w_asg : xAsg a G gs = sx (a gs) fun v g1 => (G v g1).map .nx := rfl
theorem w_asgN : xAsgN a i gs = sx (a gs) fun v g1 => some (.nx (g1.set i (.ow v))) := rfl
theorem w_drop : xDrop a gs = sx (a gs) fun _ g1 => some (.nx g1) := rfl
theorem w_ret : xRet a gs = sx (a gs) fun v g1 => some (.rt v g1) := rfl
theorem w_retN : xRetN gs = some (.rt .non gs) := rfl
theorem w_retO : xRetO a gs = sx (a gs) fun v g1 => some (.ro v g1) := rfl
theorem w_ifS : xIfS t p q gs = sx (t gs) fun x g1 => xIte x p q g1 := rfl
theorem w_brk : xBreak gs = some (.bk gs) := rfl
theorem w_cnt : xCont gs = some (.ct gs) := rfl
theorem w_for : xFor U G p vs gs = sx (U gs) fun xs g0 => xForL G p vs xs (mwipe g0 vs) := rfl
theorem w_forL0 : xForL G p vs [] gs = some (.nx gs) := rfl
theorem w_forL : xForL G p vs (v :: xs) gs = (G v gs).bind fun gs1 => (p gs1).bind (xLoopK vs (xForL G p vs xs)) := rfl
theorem w_lkN {k : MEnv → Option Rx} : xLoopK vs k (.nx gs) = k (mwipe gs vs) := rfl
theorem w_lkC {k : MEnv → Option Rx} : xLoopK vs k (.ct gs) = k (mwipe gs vs) := rfl
theorem w_lkB {k : MEnv → Option Rx} : xLoopK vs k (.bk gs) = some (.nx (mwipe gs vs)) := rfl
theorem w_lkR {k : MEnv → Option Rx} : xLoopK vs k (.rt v gs) = some (.rt v gs) := rfl
theorem w_lkO {k : MEnv → Option Rx} : xLoopK vs k (.ro v gs) = some (.ro v gs) := rfl
theorem w_lkE {k : MEnv → Option Rx} : xLoopK vs k (.ex x gs) = some (.ex x gs) := rfl
theorem w_while : xWhile t p vs (n + 1) gs = sx (t gs) fun x g1 => xIte x (fun g1 => (p g1).bind (xLoopK vs (xWhile t p vs n))) (fun g1 => some (.nx g1)) g1 := rfl
theorem w_aug : xAug i a f gs = (slP gs[i]?).bind fun v => sx (a gs) fun y g1 => (f v y).map fun z => .nx (g1.set i (.pl z)) := rfl
def h2 (k : Cv → Cv → Option Rx) : List Cv → Option Rx
  | [a, b] => k a b
  | _ => none
def h3 (k : Cv → Cv → Cv → Option Rx) : List Cv → Option Rx
  | [a, b, c] => k a b c
  | _ => none
def j2 (k : Sl → Sl → Option Rx) : List Sl → Option Rx
  | [a, b] => k a b
  | _ => none
def j3 (k : Sl → Sl → Sl → Option Rx) : List Sl → Option Rx
  | [a, b, c] => k a b c
  | _ => none
theorem w_h2 {k : Cv → Cv → Option Rx} : h2 k [v, w] = k v w := rfl
theorem w_h3 {k : Cv → Cv → Cv → Option Rx} {u : Cv} : h3 k [v, w, u] = k v w u := rfl
theorem w_j2 {k : Sl → Sl → Option Rx} {s1 s2 : Sl} : j2 k [s1, s2] = k s1 s2 := rfl
theorem w_j3 {k : Sl → Sl → Sl → Option Rx} {s1 s2 s3 : Sl} : j3 k [s1, s2, s3] = k s1 s2 s3 := rfl
theorem w_par : xPar i j U gs = sx (U gs) fun us g1 => h2 (fun x y => some (.nx ((g1.set i (.pl x)).set j (.pl y)))) us := by
  unfold xPar; congr 1
theorem w_par3 : xPar3 i j n U gs = sx (U gs) fun us g1 => h3 (fun x y z => some (.nx (((g1.set i (.pl x)).set j (.pl y)).set n (.pl z)))) us := by
  unfold xPar3; congr 1
theorem w_parO {V : MAo} : xParO i j V gs = (V gs).bind (j2 fun x y => some (.nx ((gs.set i x).set j y))) := by
  unfold xParO; congr 1
theorem w_parO3 {V : MAo} : xParO3 i j n V gs = (V gs).bind (j3 fun x y z => some (.nx (((gs.set i x).set j y).set n z))) := by
  unfold xParO3; congr 1
theorem w_frz : xFrz i q gs = (slO gs[i]?).bind fun v => q (gs.set i (.pl v)) := rfl
theorem w_append : xAppend i a gs = ((slO gs[i]?).bind lstOnly).bind fun _ => sx (a gs) fun v g1 => (slO g1[i]?).bind fun o => (fApp v o).map fun o => .nx (g1.set i (.ow o)) := rfl
theorem w_extend : xExtend i a gs = ((slO gs[i]?).bind lstOnly).bind fun _ => sx (a gs) fun v g1 => (slO g1[i]?).bind fun o => (fExt v o).map fun o => .nx (g1.set i (.ow o)) := rfl
theorem w_setL {k : XE} : xSetL i k a gs = ((slO gs[i]?).bind lstOnly).bind fun _ => sx (a gs) fun v g1 => sx (k g1) fun n g2 => (slO g2[i]?).bind fun o => (fSetI o n v).map fun o => .nx (g2.set i (.ow o)) := rfl
theorem w_set0 {y : Cv} {k : Int} {n : Nat} (h : ixN xs.length k = some n) : fSetI (.lst xs) (.int k) v = some (.lst (xs.set n v)) := by
  show (ixN xs.length k).map (fun j => Cv.lst (xs.set j v)) = _
  rw [h]; rfl
theorem w_setc0 {y : Cv} : fSetI (.lst (y :: xs)) (.int 0) v = some (.lst (v :: xs)) := w_set0 (y := y) (n := 0) (by unfold ixN; first | rfl | (rw [if_pos (by decide), if_pos (by simp)]; rfl) | (rw [if_pos (by decide), if_pos (by simp; omega)]; rfl))
theorem w_setc1 {y z : Cv} : fSetI (.lst (y :: z :: xs)) (.int 1) v = some (.lst (y :: v :: xs)) := w_set0 (y := y) (n := 1) (by unfold ixN; rw [if_pos (by decide), if_pos (by simp; omega)]; rfl)
theorem w_setc2 {y z u : Cv} : fSetI (.lst (y :: z :: u :: xs)) (.int 2) v = some (.lst (y :: z :: v :: xs)) := w_set0 (y := y) (n := 2) (by unfold ixN; rw [if_pos (by decide), if_pos (by simp; omega)]; rfl)
theorem q_mulN {k l : Int} (h : NB k 8000) (h' : NB l 8000) : fMul (.int k) (.int l) = some (.int (k * l)) := q_fIC (by unfold mulC; rw [mdOk_nb h, mdOk_nb h']; rfl)
theorem q_fdN {k l : Int} (h : 0 < l) (h' : NB l 8000) : fFd (.int k) (.int l) = some (.int (k / l)) := q_fIC (by unfold divC; rw [decide_eq_true h, mdOk_nb h']; rfl)
theorem q_powN {k l : Int} (h : NB k 8000) (h' : 0 ≤ l ∧ l ≤ 60) : fPow (.int k) (.int l) = some (.int (k ^ l.toNat)) := q_fIC (by unfold powC; rw [decide_eq_true h', mdOk_nb h]; rfl)
theorem w_runP {N : List Str} {st : Cv} {us : List Cv} : runP N p (st :: us) = (p (xstart N st us)).bind outP := rfl
theorem w_runV {N : List Str} {us : List Cv} : runV N p us = (p (mstart N us)).bind outV := rfl
theorem w_runN {N : List Str} {us : List Cv} : runN N p us = (p (mstart N us)).bind outO := rfl
theorem w_outP : outP (.rt v gs) = (slO gs[0]?).map fun o => (v, o) := rfl
theorem w_outPN : outP (.nx gs) = (slO gs[0]?).map fun o => (.non, o) := rfl
theorem w_outV : outV (.rt v gs) = some v := rfl
theorem w_outVN : outV (.nx gs) = some .non := rfl
theorem w_outO : outO (.ro v gs) = some v := rfl
theorem w_rest0 {gi : MEnv} : mrest gs gi [] = gi := rfl
theorem w_rest {gi : MEnv} : mrest gs gi (i :: vs) = (mrest gs gi vs).set i (match gs[i]? with | some (.pl w) => .pl w | _ => .no) := rfl
/-- a loop that leaves the slots as they were -/
theorem w_forSame : ∀ {xs : List Cv}, (∀ x ∈ xs, ∃ gs1 r, G x gs = some gs1 ∧ p gs1 = some r ∧ ∃ gs2, (r = .nx gs2 ∨ r = .ct gs2) ∧ mwipe gs2 vs = gs) → xForL G p vs xs gs = some (.nx gs)
  | [], _ => rfl
  | x :: xs, h => by
    obtain ⟨gs1, r, e1, e2, gs2, e3, e4⟩ := h x List.mem_cons_self
    rw [w_forL, e1, Option.bind_some, e2, Option.bind_some]
    rcases e3 with rfl | rfl
    · rw [w_lkN, e4]; exact w_forSame fun y hy => h y (List.mem_cons_of_mem _ hy)
    · rw [w_lkC, e4]; exact w_forSame fun y hy => h y (List.mem_cons_of_mem _ hy)
/-- a loop by an invariant over the slots -/
theorem w_forInv (I : List Cv → MEnv → Prop) (R : Rx → Prop) (hn : ∀ gs, I [] gs → R (.nx gs))
    (hs : ∀ x r gs, I (x :: r) gs → ∃ gs1 o, G x gs = some gs1 ∧ p gs1 = some o ∧ match o with | .nx g => I r (mwipe g vs) | .ct g => I r (mwipe g vs) | .bk g => R (.nx (mwipe g vs)) | o => R o) :
    ∀ (xs : List Cv) (gs : MEnv), I xs gs → ∃ o, xForL G p vs xs gs = some o ∧ R o
  | [], gs, h => ⟨_, rfl, hn gs h⟩
  | x :: xs, gs, h => by
    obtain ⟨gs1, o, e1, e2, e3⟩ := hs x xs gs h
    rw [w_forL, e1, Option.bind_some, e2, Option.bind_some]
    cases o with
    | nx g => exact w_forInv I R hn hs xs _ e3
    | ct g => exact w_forInv I R hn hs xs _ e3
    | bk g => exact ⟨_, rfl, e3⟩
    | rt v g => exact ⟨_, rfl, e3⟩
    | ro v g => exact ⟨_, rfl, e3⟩
    | ex x g => exact ⟨_, rfl, e3⟩
/-- a comprehension by an invariant over the slots: I of the items left and the items made -/
theorem w_lcInv {te : XE} (I : List Cv → List Cv → MEnv → Prop)
    (hs : ∀ x r acc gs, I (x :: r) acc gs → ∃ g1 b g2, G x gs = some g1 ∧ t g1 = some (.ok b g2) ∧ (b = true → ∃ y g3, te g2 = some (.ok y g3) ∧ I r (acc ++ [y]) (mwipe g3 vs)) ∧ (b = false → I r acc (mwipe g2 vs))) :
    ∀ (xs acc : List Cv) (gs : MEnv), I xs acc gs → ∃ ys g, xLcL G t te vs xs gs = some (.ok ys g) ∧ I [] (acc ++ ys) g
  | [], acc, gs, h => ⟨[], gs, rfl, by rw [List.append_nil]; exact h⟩
  | x :: xs, acc, gs, h => by
    obtain ⟨g1, b, g2, e1, e2, h1, h2⟩ := hs x xs acc gs h
    rw [w_lcL, e1, Option.bind_some, e2, w_bx]
    cases b with
    | true =>
      obtain ⟨y, g3, e3, h3⟩ := h1 rfl
      obtain ⟨ys, g, e4, h4⟩ := w_lcInv I hs xs _ _ h3
      refine ⟨y :: ys, g, ?_, by rw [List.append_assoc] at h4; exact h4⟩
      show bx (te g2) _ = _
      rw [e3, w_bx, e4, w_bx]
    | false =>
      obtain ⟨ys, g, e4, h4⟩ := w_lcInv I hs xs _ _ (h2 rfl)
      exact ⟨ys, g, e4, h4⟩
end
end CL

set_option Elab.async false
set_option linter.all false
set_option maxRecDepth 100000
set_option maxHeartbeats 1000000
/-! XL7: the pot in computed readings -/
namespace CL
open PySem PySem.Spec PyProof.Rows L2
/-- the pot: what is left of the number, the seed, the count -/
def PotV (st : Cv) (b : Int) : Prop := ∃ o s n : Int, st = .lst [.int o, .int s, .int n] ∧ 0 ≤ o ∧ o < 10 ^ 300 ∧ 0 ≤ s ∧ s < 2 ^ 61 ∧ 0 ≤ n ∧ n ≤ b
theorem PotV.mono {st : Cv} {b c : Int} (h : PotV st b) (l : b ≤ c) : PotV st c := by
  obtain ⟨o, s, n, e, h1, h2, h3, h4, h5, h6⟩ := h
  exact ⟨o, s, n, e, h1, h2, h3, h4, h5, by omega⟩
/-- a comprehension that draws -/
theorem lc_draw {G : MG} {te : XE} {vs : List Nat} {rest : MEnv} (good : Cv → Prop) (C : Int) (hC : 0 ≤ C) : ∀ (xs : List Cv) (st : Cv) (b : Int), PotV st b →
    (∀ x ∈ xs, ∀ st1 b1, PotV st1 b1 → b ≤ b1 → b1 + C ≤ b + C * xs.length → ∃ y st2 r2, ((G x (.ow st1 :: rest)).bind te = some (.ok y (.ow st2 :: r2)) ∧ mwipe (.ow st2 :: r2) vs = .ow st2 :: rest) ∧ good y ∧ PotV st2 (b1 + C)) →
    ∃ ys st', xLcL G (xpT mYes) te vs xs (.ow st :: rest) = some (.ok ys (.ow st' :: rest)) ∧ ys.length = xs.length ∧ (∀ y ∈ ys, good y) ∧ PotV st' (b + C * xs.length)
  | [], st, b, hp, _ => ⟨[], st, rfl, rfl, fun _ h => (by cases h), by simpa using hp⟩
  | x :: xs, st, b, hp, h => by
    have e0 : C * (((x :: xs).length : Nat) : Int) = C * xs.length + C := by rw [List.length_cons]; push_cast; rw [Int.mul_add, Int.mul_one]
    have p0 : 0 ≤ C * (xs.length : Int) := Int.mul_nonneg hC (by omega)
    obtain ⟨y, st2, r2, ⟨e1, e2⟩, hy, hp2⟩ := h x List.mem_cons_self st b hp (Int.le_refl _) (by rw [e0]; omega)
    obtain ⟨g1, e3, e4⟩ := bind_some e1
    obtain ⟨ys, st', e5, hl, hg, hp3⟩ := lc_draw good C hC xs st2 (b + C) hp2 fun z hz st1 b1 h1 h2 h3 => h z (List.mem_cons_of_mem _ hz) st1 b1 h1 (by omega) (by rw [e0]; omega)
    refine ⟨y :: ys, st', ?_, by simp [hl], fun z hz => ?_, by rw [e0]; exact hp3.mono (by omega)⟩
    · rw [w_lcL, e3, Option.bind_some]
      show bx (xpT mYes g1) _ = _
      rw [show xpT mYes g1 = some (.ok true g1) from rfl, w_bx]
      show bx (te g1) _ = _
      rw [e4, w_bx, e2, e5, w_bx]
    · rcases List.mem_cons.mp hz with e | e
      · rw [e]; exact hy
      · exact hg z e
/-- a loop that runs through, by an invariant -/
theorem w_forNx {G : MG} {p : XS} {vs : List Nat} (I : List Cv → MEnv → Prop) (hs : ∀ x r gs, I (x :: r) gs → ∃ gs2, (G x gs).bind p = some (.nx gs2) ∧ I r (mwipe gs2 vs)) :
    ∀ (xs : List Cv) (gs : MEnv), I xs gs → ∃ gs', xForL G p vs xs gs = some (.nx gs') ∧ I [] gs'
  | [], gs, h => ⟨gs, rfl, h⟩
  | x :: xs, gs, h => by
    obtain ⟨gs2, e, h2⟩ := hs x xs gs h
    obtain ⟨g1, e1, e2⟩ := bind_some e
    obtain ⟨gs', e3, h3⟩ := w_forNx I hs xs _ h2
    exact ⟨gs', by rw [w_forL, e1, Option.bind_some, e2, Option.bind_some, w_lkN, e3], h3⟩
theorem small_ok' {i : Int} (h0 : 0 ≤ i) (h1 : i ≤ 1000000000) : smallV (.int i) = true := by
  show decide _ = true
  exact decide_eq_true (by omega)
theorem q_eqNil {h : Bool → Bool} {xs : List Cv} (ok : okD (.lst xs) = true) : fEqB h (.lst xs) (.lst []) = some (.bl (h xs.isEmpty)) := by
  rw [q_eqD (by intro z z' e; cases e) (by intro z z' e; cases e) ok (by decide)]
  cases xs <;> rfl
theorem q_eqNilT {h : Bool → Bool} {xs : List Cv} (ok : okD (.tup xs) = true) : fEqB h (.tup xs) (.tup []) = some (.bl (h xs.isEmpty)) := by
  rw [q_eqD (by intro z z' e; cases e) (by intro z z' e; cases e) ok (by decide)]
  cases xs <;> rfl
theorem rowsB_small {l : List (Str × Cd)} (h : ∀ x ∈ l, isWord x.1 = true ∧ goodD x.2) : smallVs (l.map eRow) = true ∧ deps (l.map eRow) ≤ 12 := by
  induction l with
  | nil => exact ⟨rfl, Nat.zero_le _⟩
  | cons x l ih =>
    obtain ⟨a, b⟩ := h x List.mem_cons_self
    obtain ⟨i1, i2⟩ := ih fun y hy => h y (List.mem_cons_of_mem _ hy)
    obtain ⟨f1, f2⟩ := word_small a
    obtain ⟨c1, c2⟩ := smallV_enc x.2 b.2.2.1
    have c3 := b.1
    refine ⟨?_, ?_⟩
    · show ((smallV (.str x.1) && (smallV (enc x.2) && true)) && smallVs (l.map eRow)) = true
      rw [f1, c1, i1]; rfl
    · show max (max (dep (.str x.1)) (max (dep (enc x.2)) 0) + 1) (deps (l.map eRow)) ≤ 12
      have : dep (.str x.1) = 0 := rfl
      omega
theorem rowsB_okL {l : List (Str × Cd)} (h : ∀ x ∈ l, isWord x.1 = true ∧ goodD x.2) : okD (.lst (l.map eRow)) = true := by
  obtain ⟨a, b⟩ := rowsB_small h
  exact okD_small a (by show deps (l.map eRow) + 1 ≤ 64; omega)
mutual
theorem ttv_enc : ∀ c : Cd, ttv (enc c) = true
  | .rg _ _ _ => rfl
  | .no c => by rw [enc]; show (true && (ttv (enc c) && true)) = true; rw [ttv_enc c]; rfl
  | .al b cs => by rw [enc]; show (true && (ttvs (encs cs) && true)) = true; rw [ttv_encs cs]; rfl
theorem ttv_encs : ∀ cs : List Cd, ttvs (encs cs) = true
  | [] => rfl
  | c :: r => by rw [encs]; show (ttv (enc c) && ttvs (encs r)) = true; rw [ttv_enc c, ttv_encs r]; rfl
end
theorem ttv_row (x : Str × Cd) : ttv (eRow x) = true := by
  show (true && (ttv (enc x.2) && true)) = true
  rw [ttv_enc]; rfl
end CL

set_option Elab.async false
set_option linter.all false
set_option maxRecDepth 100000
set_option maxHeartbeats 1000000
/-! CL23: dicts with keys that are ints or texts; sorted -/
namespace CL
open PySem PySem.Spec PyProof.Rows L2
/-! ### a hidden object of any plain kind changes -/
section
variable {K : Fg} {Z : List Addr} {S : Sto} {H : Hp}
mutual
theorem Rep.hidG {D : Addr} {o o' : HO} (hD : D ∈ Z) (hl : H D = some o) (pl : plainO o = true) : ∀ {w : Cv} {v : V}, Rep K Z S H w v → Rep K Z S (upd H D o') w v
  | _, _, .non => .non
  | _, _, .bl b => .bl b
  | _, _, .int i => .int i
  | _, _, .str x => .str x
  | _, _, .tup h n r => .tup (by
      rcases h with h | ⟨u, h⟩
      · exact .inl (by rw [upd_ne (ne_of h hl (by intro z; rw [← z] at pl; cases pl))]; exact h)
      · exact .inr ⟨u, by rw [upd_ne (ne_of h hl (by intro z; rw [← z] at pl; cases pl))]; exact h⟩) n (Reps.hidG hD hl pl r)
  | _, _, .tupK h r => .tupK h (Reps.hidG hD hl pl r)
  | _, _, .lst h n z r => .lst (by rw [upd_ne (fun q => z (by rw [q]; exact hD))]; exact h) n z (Reps.hidG hD hl pl r)
  | _, _, .scr h n r => .scr (by rw [upd_ne (ne_of h hl (by intro z; rw [← z] at pl; cases pl))]; exact h) n (Reps.hidG hD hl pl r)
  | _, _, .tupF h n r d => .tupF (by rw [upd_ne (ne_of h hl (by intro z; rw [← z] at pl; cases pl))]; exact h) n (Reps.hidG hD hl pl r) d
  | _, _, .scrK h r => .scrK h (Reps.hidG hD hl pl r)
  | _, _, .dK h n z e r => .dK (by rw [upd_ne (fun q => z (by rw [q]; exact hD))]; exact h) n z e (Reps.hidG hD hl pl r)
  | _, _, .dT h n z e r => .dT (by rw [upd_ne (fun q => z (by rw [q]; exact hD))]; exact h) n z e (Reps.hidG hD hl pl r)
  | _, _, .ref a => .ref a
  | _, _, .opq v => .opq v
theorem Reps.hidG {D : Addr} {o o' : HO} (hD : D ∈ Z) (hl : H D = some o) (pl : plainO o = true) : ∀ {ws : List Cv} {vs : List V}, Reps K Z S H ws vs → Reps K Z S (upd H D o') ws vs
  | _, _, .nil => .nil
  | _, _, .cons a r => .cons (Rep.hidG hD hl pl a) (Reps.hidG hD hl pl r)
end
theorem RepOb.hidG {D a : Addr} {h h' : HO} {o : Ob} (hD : D ∈ Z) (hl : H D = some h) (pl : plainO h = true) (na : a ≠ D) (q : RepOb K Z S H a o) : RepOb K Z S (upd H D h') a o := by
  cases o with
  | lst ws => obtain ⟨vs, h1, h2⟩ := q; exact ⟨vs, by rw [upd_ne na]; exact h1, h2.hidG hD hl pl⟩
  | dK ws => obtain ⟨vs, h1, h3, h2⟩ := q; exact ⟨vs, by rw [upd_ne na]; exact h1, h3, h2.hidG hD hl pl⟩
  | dT ws => obtain ⟨vs, h1, h3, h2⟩ := q; exact ⟨vs, by rw [upd_ne na]; exact h1, h3, h2.hidG hD hl pl⟩
  | ins C dx fs => obtain ⟨vs, h1, h3, h2⟩ := q; exact ⟨vs, by rw [upd_ne na]; exact h1, h3, h2.hidG hD hl pl⟩
theorem StOk.chgG {D : Addr} {h h' : HO} (hD : D ∈ Z) (hl : H D = some h) (pl : plainO h = true) (pl' : plainO h' = true) (ok : StOk K Z S H) : StOk K Z S (upd H D h') where
  ob := fun a o e => (ok.ob a o e).hidG hD hl pl (fun q => by subst q; rw [(ok.hid _ hD).1] at e; cases e)
  hid := fun a z => by
    by_cases q : a = D
    · subst q; exact ⟨(ok.hid _ z).1, _, upd_same, pl'⟩
    · rw [upd_ne q]; exact ok.hid a z
end
/-! ### clean dicts -/
def valC {κ : Type} [DecidableEq κ] (kws : List (κ × Cv)) (k : κ) : Option Cv := (kws.find? fun kv => decide (kv.1 = k)).map (·.2)
def putC {κ : Type} [DecidableEq κ] (kws : List (κ × Cv)) (k : κ) (w : Cv) : List (κ × Cv) :=
  if (kws.any fun kv => decide (kv.1 = k)) = true then kws.map (fun kv => if kv.1 = k then (kv.1, w) else kv) else kws ++ [(k, w)]
/-- a key among the values -/
def keyC : Cv → Option Key
  | .int i => some (.inl i)
  | .str x => some (.inr x)
  | _ => none
section
variable {K : Fg} {Z : List Addr} {S : Sto} {H : Hp}
/-- a dict's pairs stand for those -/
def RepKV (K : Fg) (Z : List Addr) (S : Sto) (H : Hp) (kws : List (Key × Cv)) (kvs : List (Key × V)) : Prop := kws.map Prod.fst = kvs.map Prod.fst ∧ Reps K Z S H (kws.map Prod.snd) (kvs.map Prod.snd)
theorem RepKV.len {kws : List (Key × Cv)} {kvs : List (Key × V)} (r : RepKV K Z S H kws kvs) : kws.length = kvs.length := by
  have := congrArg List.length r.1
  simpa using this
theorem RepKV.val {k : Key} : ∀ {kws : List (Key × Cv)} {kvs : List (Key × V)}, RepKV K Z S H kws kvs → (valC kws k = none ∧ valV kvs k = none) ∨ ∃ w v, valC kws k = some w ∧ valV kvs k = some v ∧ Rep K Z S H w v
  | [], [], _ => .inl ⟨rfl, rfl⟩
  | [], q :: l, r => by cases r.1
  | p :: r, [], h => by cases h.1
  | p :: r, q :: l, h => by
    have h1 := h.1
    simp only [List.map_cons, List.cons.injEq] at h1
    have h2 : Reps K Z S H (p.2 :: r.map Prod.snd) (q.2 :: l.map Prod.snd) := h.2
    cases h2 with
    | cons a b =>
      by_cases e : p.1 = k
      · right
        refine ⟨p.2, q.2, by simp [valC, List.find?_cons, e], ?_, a⟩
        exact valV_pos (by rw [← h1.1]; exact e)
      · have ih := RepKV.val (k := k) (kws := r) (kvs := l) ⟨h1.2, b⟩
        have ev : valC (p :: r) k = valC r k := by simp [valC, List.find?_cons, e]
        rw [ev, valV_neg (by rw [← h1.1]; exact e)]
        exact ih
theorem RepKV.any {k : Key} : ∀ {kws : List (Key × Cv)} {kvs : List (Key × V)}, RepKV K Z S H kws kvs → (kws.any fun kv => decide (kv.1 = k)) = kvs.any fun kv => decide (kv.1 = k)
  | [], [], _ => rfl
  | [], q :: l, r => by cases r.1
  | p :: r, [], h => by cases h.1
  | p :: r, q :: l, h => by
    have h1 := h.1
    simp only [List.map_cons, List.cons.injEq] at h1
    have h2 : Reps K Z S H (p.2 :: r.map Prod.snd) (q.2 :: l.map Prod.snd) := h.2
    cases h2 with
    | cons a b => rw [List.any_cons, List.any_cons, RepKV.any (kws := r) (kvs := l) ⟨h1.2, b⟩, h1.1]
theorem RepKV.rep {k : Key} {w : Cv} {v : V} (rw' : Rep K Z S H w v) : ∀ {kws : List (Key × Cv)} {kvs : List (Key × V)}, RepKV K Z S H kws kvs → RepKV K Z S H (kws.map fun kv => if kv.1 = k then (kv.1, w) else kv) (kvs.map fun kv => if kv.1 = k then (kv.1, v) else kv)
  | [], [], _ => ⟨rfl, .nil⟩
  | [], q :: l, r => by cases r.1
  | p :: r, [], h => by cases h.1
  | p :: r, q :: l, h => by
    have h1 := h.1
    simp only [List.map_cons, List.cons.injEq] at h1
    have h2 : Reps K Z S H (p.2 :: r.map Prod.snd) (q.2 :: l.map Prod.snd) := h.2
    cases h2 with
    | cons a b =>
      have ih := RepKV.rep (k := k) rw' (kws := r) (kvs := l) ⟨h1.2, b⟩
      refine ⟨?_, ?_⟩
      · rw [List.map_cons, List.map_cons, List.map_cons, List.map_cons, ih.1]
        congr 1
        rw [h1.1]
        split
        · rfl
        · exact h1.1
      · rw [List.map_cons, List.map_cons, List.map_cons, List.map_cons]
        refine .cons ?_ ih.2
        rw [h1.1]
        split
        · exact rw'
        · exact a
theorem RepKV.put {k : Key} {w : Cv} {v : V} {kws : List (Key × Cv)} {kvs : List (Key × V)} (h : RepKV K Z S H kws kvs) (rw' : Rep K Z S H w v) : RepKV K Z S H (putC kws k w) (putK kvs k v) := by
  unfold putC putK
  rw [h.any]
  by_cases e : (kvs.any fun kv => decide (kv.1 = k)) = true
  · rw [if_pos e, if_pos e]; exact RepKV.rep rw' h
  · rw [if_neg e, if_neg e]
    refine ⟨by rw [List.map_append, List.map_append, h.1]; rfl, ?_⟩
    rw [List.map_append, List.map_append]
    exact h.2.app (.one rw')
theorem keyC_rep {y : Cv} {k : Key} {v : V} (e : keyC y = some k) (r : Rep K Z S H y v) : v = kV k := by
  cases y <;> cases e <;> cases r <;> rfl
theorem RepKV.fr {S' : Sto} {H' : Hp} {kws : List (Key × Cv)} {kvs : List (Key × V)} (h : RepKV K Z S H kws kvs) (f : Fr S H S' H') : RepKV K Z S' H' kws kvs := ⟨h.1, h.2.fr f⟩
end
/-! ### dict comprehensions -/
def dcL (G : Sto → Prop) (g : CG) (tt : CT) (tk tv : CE) (ws : CL.Env) (Q : List (Key × Cv) → Sto → Prop) : List Cv → List (Key × Cv) → Sto → Prop
  | [], acc, S => G S ∧ Q acc S
  | x :: r, acc, S => G S ∧ g x ws S fun ws2 S2 => tt ws2 S2 fun b S3 => if b = true then tk ws2 S3 fun y S4 => tv ws2 S4 fun z S5 => (match keyC y with | some k => acc.length < sizeLine ∧ dcL G g tt tk tv ws Q r (putC acc k z) S5 | none => False) else dcL G g tt tk tv ws Q r acc S3
theorem dcL_mono {G : Sto → Prop} {g : CG} {tt : CT} {tk tv : CE} (hg : MonG g) (ht : MonT tt) (hk : MonE tk) (he : MonE tv) {ws : CL.Env} {Q Q' : List (Key × Cv) → Sto → Prop} (f : ∀ a b, Q a b → Q' a b) : ∀ xs acc S, dcL G g tt tk tv ws Q xs acc S → dcL G g tt tk tv ws Q' xs acc S
  | [], acc, S, h => ⟨h.1, f _ _ h.2⟩
  | x :: r, acc, S, h => ⟨h.1, hg _ _ _ _ _ (fun ws2 S2 q => ht _ _ _ _ (fun b S3 q3 => by
      cases b with
      | true =>
        refine hk _ _ _ _ (fun y S4 q4 => he _ _ _ _ (fun z S5 q5 => ?_) q4) q3
        split at q5
        · exact ⟨q5.1, dcL_mono hg ht hk he f r _ _ q5.2⟩
        · exact q5.elim
      | false => exact dcL_mono hg ht hk he f r _ _ q3) q) h.2⟩
theorem dcL_G {G : Sto → Prop} {g : CG} {tt : CT} {tk tv : CE} {ws : CL.Env} {Q : List (Key × Cv) → Sto → Prop} : ∀ {xs : List Cv} {acc S}, dcL G g tt tk tv ws Q xs acc S → G S
  | [], _, _, h => h.1
  | _ :: _, _, _, h => h.1
def cDcQ (ti : CI) (g : CG) (tt : CT) (tk tv : CE) (vs : List Nat) (ws : CL.Env) (S : Sto) (Q : List (Key × Cv) → Sto → Prop) : Prop := ti ws S fun xs G S1 => dcL G g tt tk tv (cwipe ws vs) Q xs [] S1
def cDc (ti : CI) (g : CG) (tt : CT) (tk tv : CE) (vs : List Nat) : CE := fun ws S Q => cDcQ ti g tt tk tv vs ws S fun ys S2 => Q (.dK ys) S2
def cDcO (ti : CI) (g : CG) (tt : CT) (tk tv : CE) (vs : List Nat) : CE := fun ws S Q => cDcQ ti g tt tk tv vs ws S fun ys S2 => ∀ p, S2 p = none → Q (.ref p) (S2.set p (.dK ys))
section
variable {K : Fg}
theorem dc_ok {ti : CI} {g : CG} {is : List Nat} {tt : CT} {tk tv : CE} {vs : List Nat} (hi : MonI ti) (hg : MonG g) (ht : MonT tt) (hk : MonE tk) (he : MonE tv) (hsub : ∀ i ∈ is, i ∈ vs) {Z : List Addr} {S : Sto} {H : Hp} {σ : L2.St} {ws : CL.Env} {Q : VK} {R : List (Key × Cv) → Sto → Prop}
    (ok : StOk K Z S H) (re : RepSt K Z S H σ ws) (h : cDcQ ti g tt tk tv vs ws S R)
    (fin : ∀ ys S' D vs' H', Fr S H S' H' → StOk K (D :: Z) S' H' → H D = none → H' D = some (.dK vs') → RepKV K (D :: Z) S' H' ys vs' → R ys S' → Q (.ref D) H') : tDc (liftI K ti) (liftG K g is) (liftT K tt) (liftE K tk) (liftE K tv) vs σ H Q := by
  refine ⟨Z, S, ws, ok, re, hi _ _ _ _ (fun xs G S1 q J H1 f1 ok1 wk => ?_) h⟩
  intro D hD
  have hD0 : H D = none := f1.dom D hD
  refine ⟨fun i m H' => m = xs.length - i ∧ i ≤ xs.length ∧ ∃ S' acc vs', Fr S1 H1 S' H' ∧ StOk K (D :: Z) S' H' ∧ H' D = some (.dK vs') ∧ RepKV K (D :: Z) S' H' acc vs' ∧ dcL G g tt tk tv (cwipe ws vs) R (xs.drop i) acc S', ⟨xs.length, rfl, Nat.zero_le _, S1, [], [], Fr.new hD, ok1.newD hD, upd_same, ⟨rfl, .nil⟩, q⟩, ?_⟩
  rintro i m H2 ⟨rfl, hl, S2, acc, vs2, f2, ok2, hD2, ra, q2⟩
  obtain ⟨wgo, wstop⟩ := wk (D :: Z) S2 H2 (fun _ z => List.mem_cons_of_mem _ z) (fun a z => (List.mem_cons.mp z).elim (fun e => .inr (by rw [e]; exact hD)) .inl) (f2.z Z) ok2 (dcL_G q2) i
  by_cases hlt : i < xs.length
  · obtain ⟨go, yl⟩ := wgo hlt
    refine .inr ⟨go, fun H' => ∃ S' acc vs', Fr S1 H1 S' H' ∧ StOk K (D :: Z) S' H' ∧ H' D = some (.dK vs') ∧ RepKV K (D :: Z) S' H' acc vs' ∧ dcL G g tt tk tv (cwipe ws vs) R (xs.drop (i + 1)) acc S', fun H' h' => ⟨xs.length - (i + 1), by omega, rfl, hlt, h'⟩, fun x H3 hy => ?_⟩
    obtain ⟨w, ew, f3, ok3, r3⟩ := yl x H3 hy
    rw [drop_cons hlt ew] at q2
    have re3 : RepSt K (D :: Z) S2 H3 (L2.wipe σ vs) (cwipe ws vs) := by
      refine RepSt.wipe ?_ vs
      refine ⟨re.1, fun j u e => ?_⟩
      obtain ⟨v, h1, h2⟩ := re.2 j u e
      exact ⟨v, h1, (((h2.fr f1).more hD).fr f2).fr f3⟩
    have nD2 : S2 D = none := (ok2.hid D List.mem_cons_self).1
    have hD3 := (f3.keep D _ hD2 nD2).1
    have ra3 := ra.fr f3
    refine ⟨D :: Z, S2, cwipe ws vs, w, ok3, re3, r3, hg _ _ _ _ _ (fun ws4 S4 q4 σ4 H4 f4 ok4 re4 o4 => ?_) q2.2⟩
    refine ⟨(o4.wipe hsub).trans (wipe_twice σ vs), ?_⟩
    refine liftT_of ht ok4 re4 q4 fun b S5 H5 f5 ok5 q5 => ?_
    cases b with
    | true =>
      simp only [if_true] at q5 ⊢
      refine liftE_of hk ok5 (re4.fr f5) q5 fun y S6 v6 H6 f6 ok6 r6 q6 => ?_
      refine liftE_of he ok6 ((re4.fr f5).fr f6) q6 fun z S7 v7 H7 f7 ok7 r7 q7 => ?_
      have n4 := (f4.keep D _ hD3 nD2)
      have n5 := f5.keep D _ n4.1 n4.2
      have n6 := f6.keep D _ n5.1 n5.2
      have n7 := f7.keep D _ n6.1 n6.2
      have ra7 := (((ra3.fr f4).fr f5).fr f6).fr f7
      split at q7
      · rename_i k ek
        have ey := keyC_rep ek r6
        refine ⟨vs2, k, ey, n7.1, by rw [← ra.len]; exact q7.1, S7, putC acc k z, putK vs2 k v7, ?_, ok7.chgG List.mem_cons_self n7.1 rfl rfl, upd_same, ?_, q7.2⟩
        · have fa : Fr S1 H1 S7 H7 := ((((f2.trans f3).trans f4).trans f5).trans f6).trans f7
          exact ⟨fun a o e n => by
            have na : a ≠ D := ne_of_none e hD
            rw [upd_ne na]
            exact fa.keep a o e n, fun a q => fa.dom a (dom_upd a q)⟩
        · have := ra7.put (k := k) r7
          exact ⟨this.1, this.2.hidG List.mem_cons_self n7.1 rfl⟩
      · exact q7.elim
    | false =>
      simp only [Bool.false_eq_true, if_false] at q5 ⊢
      have n4 := (f4.keep D _ hD3 nD2)
      have n5 := f5.keep D _ n4.1 n4.2
      exact ⟨S5, acc, vs2, ((f2.trans f3).trans f4).trans f5, ok5, n5.1, (ra3.fr f4).fr f5, q5⟩
  · have e : i = xs.length := by omega
    refine .inl ⟨wstop (by omega), ?_⟩
    rw [e, List.drop_length] at q2
    exact fin acc S2 D vs2 H2 (f1.trans f2) ok2 hD0 hD2 ra q2.2
end
section
variable {X : Cx} {pos : Pos} {kx vx tg iter : Expr} {ifs : List Expr} {scope : Scope} {own : List (Str × Nat)} {ti : CI} {g : CG} {is : List Nat} {tt : CT} {tk tv : CE}
theorem mo_dc {vs : List Nat} (hi : MonI ti) (hg : MonG g) (ht : MonT tt) (hk : MonE tk) (he : MonE tv) : MonE (cDc ti g tt tk tv vs) := fun ws S Q Q' f h => hi _ _ _ _ (fun xs G S1 q => dcL_mono hg ht hk he (fun ys S2 q => f _ _ q) xs [] S1 q) h
theorem mo_dcO {vs : List Nat} (hi : MonI ti) (hg : MonG g) (ht : MonT tt) (hk : MonE tk) (he : MonE tv) : MonE (cDcO ti g tt tk tv vs) := fun ws S Q Q' f h => hi _ _ _ _ (fun xs G S1 q => dcL_mono hg ht hk he (fun ys S2 q p hp => f _ _ (q p hp)) xs [] S1 q) h
theorem s_dc (hc : X.calm = true) (hN : X.N.Nodup) (hi : SI X tg iter ti) (ok : BlkOk X.N X.env.scope scope own)
    (hg : ∀ (s : Shared) (H : Hp) (C : Addr) (cl : List (Str × Addr)) (fp : List Addr), SG (X.blk s H scope (compEnvC scope cl C X.env) fp) tg g is)
    (ht : ∀ (s : Shared) (H : Hp) (C : Addr) (cl : List (Str × Addr)) (fp : List Addr), STs (X.blk s H scope (compEnvC scope cl C X.env) fp) ifs tt)
    (hk : ∀ (s : Shared) (H : Hp) (C : Addr) (cl : List (Str × Addr)) (fp : List Addr), SE (X.blk s H scope (compEnvC scope cl C X.env) fp) kx tk)
    (he : ∀ (s : Shared) (H : Hp) (C : Addr) (cl : List (Str × Addr)) (fp : List Addr), SE (X.blk s H scope (compEnvC scope cl C X.env) fp) vx tv)
    (hsub : ∀ i ∈ is, i ∈ own.map (·.2) := by decide) (hs : ∀ x, foldedSetIterable iter X.env x = pure x := by intro _; rfl) : SE X (.DictComp kx vx [⟨tg, iter, ifs, 0⟩] scope pos) (cDc ti g tt tk tv (own.map (·.2))) := by
  have mg : MonG g := (hg X.s_0 X.H_0 0 [] []).mono
  have mt : MonT tt := (ht X.s_0 X.H_0 0 [] []).mono
  have mk : MonE tk := (hk X.s_0 X.H_0 0 [] []).mono
  have me : MonE tv := (he X.s_0 X.H_0 0 [] []).mono
  refine ⟨mo_dc hi.mono mg mt mk me, (pe_dc (g := liftG X.K g is) (tt := liftT X.K tt) (tk := liftE X.K tk) (tv := liftE X.K tv) hc hN hi.ok ok (fun s H C cl fp => (hg s H C cl fp).ok) (fun s H C cl fp => (ht s H C cl fp).ok) (fun s H C cl fp => (hk s H C cl fp).ok) (fun s H C cl fp => (he s H C cl fp).ok) hs).imp fun σ H Q h => ?_⟩
  obtain ⟨Z, S, ws, ok', re, h⟩ := h
  refine dc_ok hi.mono mg mt mk me hsub ok' re h fun ys S' D vs' H' f ok2 hD0 hD r q => ?_
  exact q (.ref D) H' f (ok2.sub fun _ z => List.mem_cons_of_mem _ z) (.dK hD (ok2.hid D List.mem_cons_self).1 (ok'.notZ hD0) r.1 (r.2.sub fun _ z => List.mem_cons_of_mem _ z))
end
end CL

set_option Elab.async false
set_option linter.all false
set_option maxRecDepth 100000
set_option maxHeartbeats 1000000
/-! CL24: dict comprehensions computed; dicts read and written; sorted -/
namespace CL
open PySem PySem.Spec PyProof.Rows L2
def mDcL (g : MG) (tt : MT) (tk tv : ME) (gs : MEnv) : List Cv → List (Key × Cv) → Option (List (Key × Cv))
  | [], acc => some acc
  | x :: r, acc => (g x gs).bind fun g1 => (tt g1).bind fun b => if b = true then (tk g1).bind fun y => (tv g1).bind fun z => (keyC y).bind fun k => mDcL g tt tk tv gs r (putC acc k z) else mDcL g tt tk tv gs r acc
def mDc (ti : MA) (g : MG) (tt : MT) (tk tv : ME) (vs : List Nat) : ME := fun gs => (ti gs).bind fun xs => if lenOk xs.length = true then (mDcL g tt tk tv (mwipe gs vs) xs []).map .dK else none
theorem putC_len {κ : Type} [DecidableEq κ] (kws : List (κ × Cv)) (k : κ) (w : Cv) : (putC kws k w).length ≤ kws.length + 1 := by
  unfold putC
  split
  · simp
  · simp
section
variable {ti : CI} {g : CG} {tt : CT} {tk tv : CE} {mi : MA} {mg : MG} {mt : MT} {ma mb : ME} {vs : List Nat}
theorem dcL_m (hg : EvG g mg) (ht : EvT tt mt) (hk : Ev tk ma) (he : Ev tv mb) {S0 S : Sto} {gs : MEnv} {ws : CL.Env} (V : View S0 S gs ws) {Q : List (Key × Cv) → Sto → Prop} : ∀ {xs : List Cv} {acc ys : List (Key × Cv)}, mDcL mg mt ma mb gs xs acc = some ys → acc.length + xs.length ≤ sizeLine → Q ys S →
    dcL (fun _ => True) g tt tk tv ws Q xs acc S
  | [], acc, ys, e, hl, q => by
    cases e
    exact ⟨True.intro, q⟩
  | x :: r, acc, ys, e, hl, q => by
    rw [List.length_cons] at hl
    obtain ⟨gs1, e1, e⟩ := bind_some e
    obtain ⟨b, e2, e⟩ := bind_some e
    refine ⟨True.intro, hg.ok V e1 fun ws1 V1 => ht.ok V1 e2 ?_⟩
    cases b with
    | true =>
      rw [if_pos rfl] at e ⊢
      obtain ⟨y, e3, e⟩ := bind_some e
      obtain ⟨z, e4, e⟩ := bind_some e
      obtain ⟨k, e5, e⟩ := bind_some e
      refine hk.ok V1 e3 (he.ok V1 e4 ?_)
      rw [e5]
      refine ⟨by omega, dcL_m hg ht hk he V e ?_ q⟩
      have := putC_len acc k z
      omega
    | false =>
      rw [if_neg (by decide)] at e ⊢
      exact dcL_m hg ht hk he V e (by omega) q
theorem ev_dc (hi : EvI ti mi) (hg : EvG g mg) (ht : EvT tt mt) (hk : Ev tk ma) (he : Ev tv mb) : Ev (cDc ti g tt tk tv vs) (mDc mi mg mt ma mb vs) := ⟨mo_dc hi.mono hg.mono ht.mono hk.mono he.mono, fun V e q => by
  obtain ⟨xs, e1, e⟩ := bind_some e
  split at e
  · rename_i hl
    obtain ⟨ys, e2, e⟩ := map_some' e
    subst e
    exact hi.ok V e1 (dcL_m hg ht hk he (V.wipe vs) e2 (by simpa using sz_of hl) q)
  · cases e⟩
end
/-! ### reading dicts -/
section
variable {K : Fg} {Z : List Addr} {S : Sto} {H : Hp}
theorem RepD.dKH {kws : List (Key × Cv)} {v : V} (r : RepD K Z S H (.dK kws) v) : ∃ a kvs, v = .ref a ∧ H a = some (.dK kvs) ∧ RepKV K Z S H kws kvs := by
  obtain ⟨a, kvs, e, h, h1, h2⟩ := r
  exact ⟨a, kvs, e, h, h1, h2⟩
end
def derefK (w : Cv) (S : Sto) : Option (List (Key × Cv)) := match deref w S with
  | some (.dK kws) => some kws
  | _ => none
theorem derefK_ok {K : Fg} {Z : List Addr} {S : Sto} {H : Hp} {w : Cv} {v : V} {kws : List (Key × Cv)} (ok : StOk K Z S H) (r : Rep K Z S H w v) (e : derefK w S = some kws) : ∃ a kvs, v = .ref a ∧ H a = some (.dK kvs) ∧ RepKV K Z S H kws kvs := by
  unfold derefK at e
  split at e
  · rename_i ks ek
    cases e
    exact (deref_ok ok r ek).dKH
  · cases e
/-- d[k], there -/
def cDIx (td ty : CE) : CE := fun ws S Q => td ws S fun x S1 => ty ws S1 fun y S2 => match derefK x S2, keyC y with
  | some kws, some k => (match valC kws k with | some w => Q w S2 | none => False)
  | _, _ => False
/-- k in d -/
def cDIn (ng : Bool) (ty td : CE) : CE := fun ws S Q => ty ws S fun y S1 => td ws S1 fun x S2 => match derefK x S2, keyC y with
  | some kws, some k => Q (.bl (if ng = true then !(valC kws k).isSome else (valC kws k).isSome)) S2
  | _, _ => False
/-- d.get(k, z) -/
def cDGet2 (td ty tz : CE) : CE := fun ws S Q => td ws S fun x S1 => (derefK x S1).isSome = true ∧ ty ws S1 fun y S2 => tz ws S2 fun z S3 => match derefK x S3, keyC y with
  | some kws, some k => Q ((valC kws k).getD z) S3
  | _, _ => False
def cDGet1 (td ty : CE) : CE := fun ws S Q => td ws S fun x S1 => (derefK x S1).isSome = true ∧ ty ws S1 fun y S2 => match derefK x S2, keyC y with
  | some kws, some k => Q ((valC kws k).getD .non) S2
  | _, _ => False
section
variable {X : Cx} {o i e f : Expr} {td ty tz : CE} {pos apos cpos : Pos}
theorem mo_dIx (ho : MonE td) (hi : MonE ty) : MonE (cDIx td ty) := fun ws S Q Q' f h => ho _ _ _ _ (fun x S1 q => hi _ _ _ _ (fun y S2 q2 => by
  split at q2
  · split at q2
    · exact f _ _ q2
    · exact q2
  · exact q2) q) h
theorem mo_dIn {ng : Bool} (hi : MonE ty) (ho : MonE td) : MonE (cDIn ng ty td) := fun ws S Q Q' f h => hi _ _ _ _ (fun x S1 q => ho _ _ _ _ (fun y S2 q2 => by
  split at q2
  · exact f _ _ q2
  · exact q2) q) h
theorem mo_dGet2 (ho : MonE td) (hi : MonE ty) (hz : MonE tz) : MonE (cDGet2 td ty tz) := fun ws S Q Q' f h => ho _ _ _ _ (fun x S1 q => ⟨q.1, hi _ _ _ _ (fun y S2 q2 => hz _ _ _ _ (fun z S3 q3 => by
  split at q3
  · exact f _ _ q3
  · exact q3) q2) q.2⟩) h
theorem mo_dGet1 (ho : MonE td) (hi : MonE ty) : MonE (cDGet1 td ty) := fun ws S Q Q' f h => ho _ _ _ _ (fun x S1 q => ⟨q.1, hi _ _ _ _ (fun y S2 q2 => by
  split at q2
  · exact f _ _ q2
  · exact q2) q.2⟩) h
theorem s_dIx (hu : X.A.units + 1 < cLine) (ho : SE X o td) (hi : SE X i ty) (hs : NoSl i := by intro _ _; rfl) : SE X (.Subscript o i pos) (cDIx td ty) := ⟨mo_dIx ho.mono hi.mono, (pe_dget hu ho.ok hi.ok hs).imp fun σ H Q h => by
  obtain ⟨Z, S, ws, ok, re, h⟩ := h
  refine liftE_of ho.mono ok re h fun x S1 vx H1 f1 ok1 r1 q1 => ?_
  refine liftE_of hi.mono ok1 (re.fr f1) q1 fun y S2 vy H2 f2 ok2 r2 q2 => ?_
  split at q2
  · rename_i kws k ek ey
    split at q2
    · rename_i w ew
      obtain ⟨a, kvs, rfl, hh, rk⟩ := derefK_ok ok2 (r1.fr f2) ek
      rcases rk.val (k := k) with ⟨e1, _⟩ | ⟨w', v, e1, e2, r3⟩
      · rw [ew] at e1; cases e1
      · rw [ew] at e1; cases e1
        exact ⟨a, v, rfl, .inl ⟨kvs, k, .inl hh, keyC_rep ey r2, e2.symm⟩, q2 v H2 (f1.trans f2) ok2 r3⟩
    · exact q2.elim
  · exact q2.elim⟩
theorem dget_of {K : Fg} {Z : List Addr} {S : Sto} {H : Hp} {kws : List (Key × Cv)} {kvs : List (Key × V)} {a : Addr} {k : Key} {y : Cv} {vy : V} (hh : H a = some (.dK kvs)) (rk : RepKV K Z S H kws kvs) (ey : keyC y = some k) (ry : Rep K Z S H y vy) :
    DGet H a vy (valV kvs k) ∧ (valV kvs k).isSome = (valC kws k).isSome ∧ ∀ z vz, Rep K Z S H z vz → Rep K Z S H ((valC kws k).getD z) ((valV kvs k).getD vz) := by
  refine ⟨.inl ⟨kvs, k, .inl hh, keyC_rep ey ry, rfl⟩, ?_, fun z vz rz => ?_⟩
  · rcases rk.val (k := k) with ⟨e1, e2⟩ | ⟨w', v, e1, e2, r3⟩ <;> rw [e1, e2] <;> rfl
  · rcases rk.val (k := k) with ⟨e1, e2⟩ | ⟨w', v, e1, e2, r3⟩
    · rw [e1, e2]; exact rz
    · rw [e1, e2]; exact r3
theorem s_dIn (hu : X.A.units + 1 < cLine) (hi : SE X i ty) (ho : SE X o td) (hm : behindInMarks .In o = false := by first | exact nomark _ | rfl) : SE X (.Compare i [.In] [o] pos) (cDIn false ty td) := ⟨mo_dIn hi.mono ho.mono, (pe_cmp (pc_din hu hi.ok ho.ok) hm).imp fun σ H Q h => by
  obtain ⟨Z, S, ws, ok, re, h⟩ := h
  refine liftE_of hi.mono ok re h fun y S1 vy H1 f1 ok1 r1 q1 => ?_
  refine liftE_of ho.mono ok1 (re.fr f1) q1 fun x S2 vx H2 f2 ok2 r2 q2 => ?_
  split at q2
  · rename_i kws k ek ey
    obtain ⟨a, kvs, rfl, hh, rk⟩ := derefK_ok ok2 r2 ek
    obtain ⟨g1, g2, _⟩ := dget_of hh rk ey (r1.fr f2)
    exact ⟨a, _, rfl, g1, q2 _ H2 (f1.trans f2) ok2 (by rw [g2]; exact .bl _)⟩
  · exact q2.elim⟩
theorem s_dNotIn (hu : X.A.units + 1 < cLine) (hi : SE X i ty) (ho : SE X o td) (hm : behindInMarks .NotIn o = false := by first | exact nomark _ | rfl) : SE X (.Compare i [.NotIn] [o] pos) (cDIn true ty td) := ⟨mo_dIn hi.mono ho.mono, (pe_cmp (pc_dnotin hu hi.ok ho.ok) hm).imp fun σ H Q h => by
  obtain ⟨Z, S, ws, ok, re, h⟩ := h
  refine liftE_of hi.mono ok re h fun y S1 vy H1 f1 ok1 r1 q1 => ?_
  refine liftE_of ho.mono ok1 (re.fr f1) q1 fun x S2 vx H2 f2 ok2 r2 q2 => ?_
  split at q2
  · rename_i kws k ek ey
    obtain ⟨a, kvs, rfl, hh, rk⟩ := derefK_ok ok2 r2 ek
    obtain ⟨g1, g2, _⟩ := dget_of hh rk ey (r1.fr f2)
    exact ⟨a, _, rfl, g1, q2 _ H2 (f1.trans f2) ok2 (by rw [g2]; exact .bl _)⟩
  · exact q2.elim⟩
theorem s_dGet2 (hu : X.A.units + 1 < cLine) (ho : SE X o td) (he : SE X e ty) (hf : SE X f tz) (m : M2 X o "get" apos e f cpos := by constructor <;> rfl) : SE X (.Call (.Attribute o "get" apos) [e, f] [] cpos) (cDGet2 td ty tz) := ⟨mo_dGet2 ho.mono he.mono hf.mono, (pe_dget2 hu ho.ok he.ok hf.ok m).imp fun σ H Q h => by
  obtain ⟨Z, S, ws, ok, re, h⟩ := h
  refine liftE_of ho.mono ok re h fun x S1 vx H1 f1 ok1 r1 q1 => ?_
  obtain ⟨kws0, ek0⟩ := Option.isSome_iff_exists.mp q1.1
  obtain ⟨a, kvs0, rfl, hh0, rk0⟩ := derefK_ok ok1 r1 ek0
  refine ⟨a, rfl, .inl ⟨kvs0, .inl hh0⟩, ?_⟩
  refine liftE_of he.mono ok1 (re.fr f1) q1.2 fun y S2 vy H2 f2 ok2 r2 q2 => ?_
  refine liftE_of hf.mono ok2 ((re.fr f1).fr f2) q2 fun z S3 vz H3 f3 ok3 r3 q3 => ?_
  split at q3
  · rename_i kws k ek ey
    obtain ⟨a', kvs, ea, hh, rk⟩ := derefK_ok ok3 ((r1.fr f2).fr f3) ek
    cases ea
    obtain ⟨g1, g2, g3⟩ := dget_of hh rk ey (r2.fr f3)
    exact ⟨_, g1, q3 _ H3 ((f1.trans f2).trans f3) ok3 (g3 z vz r3)⟩
  · exact q3.elim⟩
theorem s_dGet1 (hu : X.A.units + 1 < cLine) (ho : SE X o td) (he : SE X e ty) (m : M1 X o "get" apos e cpos := by constructor <;> rfl) : SE X (.Call (.Attribute o "get" apos) [e] [] cpos) (cDGet1 td ty) := ⟨mo_dGet1 ho.mono he.mono, (pe_dget1 hu ho.ok he.ok m).imp fun σ H Q h => by
  obtain ⟨Z, S, ws, ok, re, h⟩ := h
  refine liftE_of ho.mono ok re h fun x S1 vx H1 f1 ok1 r1 q1 => ?_
  obtain ⟨kws0, ek0⟩ := Option.isSome_iff_exists.mp q1.1
  obtain ⟨a, kvs0, rfl, hh0, rk0⟩ := derefK_ok ok1 r1 ek0
  refine ⟨a, rfl, .inl ⟨kvs0, .inl hh0⟩, ?_⟩
  refine liftE_of he.mono ok1 (re.fr f1) q1.2 fun y S2 vy H2 f2 ok2 r2 q2 => ?_
  split at q2
  · rename_i kws k ek ey
    obtain ⟨a', kvs, ea, hh, rk⟩ := derefK_ok ok2 (r1.fr f2) ek
    cases ea
    obtain ⟨g1, g2, g3⟩ := dget_of hh rk ey r2
    exact ⟨_, g1, q2 _ H2 (f1.trans f2) ok2 (g3 .non .non .non)⟩
  · exact q2.elim⟩
end
end CL

set_option Elab.async false
set_option linter.all false
set_option maxRecDepth 100000
set_option maxHeartbeats 1000000
/-! CL25: dicts computed; made, written; sorted -/
namespace CL
open PySem PySem.Spec PyProof.Rows L2
def fDIx : Cv → Cv → Option Cv
  | .dK kws, y => (keyC y).bind (valC kws)
  | _, _ => none
def fDIn (ng : Bool) (y d : Cv) : Option Cv := match d with
  | .dK kws => (keyC y).map fun k => .bl (if ng = true then !(valC kws k).isSome else (valC kws k).isSome)
  | _ => none
def fDGet2 : Cv → Cv → Cv → Option Cv
  | .dK kws, y, z => (keyC y).map fun k => (valC kws k).getD z
  | _, _, _ => none
def fDGet1 (d y : Cv) : Option Cv := fDGet2 d y .non
def dkOnly : Cv → Option Cv
  | .dK kws => some (.dK kws)
  | _ => none
def mDGet2 (a b c : ME) : ME := fun gs => ((a gs).bind dkOnly).bind fun d => (b gs).bind fun y => (c gs).bind fun z => fDGet2 d y z
def mDGet1 (a b : ME) : ME := fun gs => ((a gs).bind dkOnly).bind fun d => (b gs).bind fun y => fDGet1 d y
theorem derefK_dK {kws : List (Key × Cv)} {S : Sto} : derefK (.dK kws) S = some kws := rfl
section
variable {td ty tz : CE} {a b c : ME}
theorem ev_dIx (ha : Ev td a) (hb : Ev ty b) : Ev (cDIx td ty) (mOp fDIx a b) := ⟨mo_dIx ha.mono hb.mono, fun V e q => by
  obtain ⟨d, e1, e⟩ := bind_some e
  obtain ⟨y, e2, e⟩ := bind_some e
  refine ha.ok V e1 (hb.ok V e2 ?_)
  unfold fDIx at e
  split at e
  · obtain ⟨k, e3, e⟩ := bind_some e
    rw [derefK_dK, e3]
    show match valC _ k with | some w => _ | none => False
    rw [e]; exact q
  · cases e⟩
theorem ev_dIn {ng : Bool} (hb : Ev ty b) (ha : Ev td a) : Ev (cDIn ng ty td) (mOp (fDIn ng) b a) := ⟨mo_dIn hb.mono ha.mono, fun V e q => by
  obtain ⟨y, e2, e⟩ := bind_some e
  obtain ⟨d, e1, e⟩ := bind_some e
  refine hb.ok V e2 (ha.ok V e1 ?_)
  unfold fDIn at e
  split at e
  · obtain ⟨k, e3, e⟩ := map_some' e
    subst e
    rw [derefK_dK, e3]
    exact q
  · cases e⟩
theorem ev_dGet2 (ha : Ev td a) (hb : Ev ty b) (hc : Ev tz c) : Ev (cDGet2 td ty tz) (mDGet2 a b c) := ⟨mo_dGet2 ha.mono hb.mono hc.mono, fun V e q => by
  obtain ⟨d, e1, e⟩ := bind_some e
  obtain ⟨y, e2, e⟩ := bind_some e
  obtain ⟨z, e3, e⟩ := bind_some e
  obtain ⟨d0, e1', e4⟩ := bind_some e1
  cases d0 <;> cases e4
  refine ha.ok V e1' ⟨rfl, hb.ok V e2 (hc.ok V e3 ?_)⟩
  obtain ⟨k, e5, e⟩ := map_some' e
  subst e
  rw [derefK_dK, e5]
  exact q⟩
theorem ev_dGet1 (ha : Ev td a) (hb : Ev ty b) : Ev (cDGet1 td ty) (mDGet1 a b) := ⟨mo_dGet1 ha.mono hb.mono, fun V e q => by
  obtain ⟨d, e1, e⟩ := bind_some e
  obtain ⟨y, e2, e⟩ := bind_some e
  obtain ⟨d0, e1', e4⟩ := bind_some e1
  cases d0 <;> cases e4
  refine ha.ok V e1' ⟨rfl, hb.ok V e2 ?_⟩
  obtain ⟨k, e5, e⟩ := map_some' e
  subst e
  rw [derefK_dK, e5]
  exact q⟩
end
/-! ### made -/
def cDNew : CE := fun _ S Q => ∀ p, S p = none → Q (.ref p) (S.set p (.dK []))
def cDNewF : CE := fun _ S Q => Q (.dK []) S
section
variable {X : Cx} {pos pos' : Pos} {o i e f value : Expr} {td ty tz tv : CE}
theorem mo_dNew : MonE cDNew := fun ws S Q Q' f h p hp => f _ _ (h p hp)
theorem mo_dNewF : MonE cDNewF := fun ws S Q Q' f h => f _ _ h
theorem s_dNew : SE X (.Dict [] [] pos) cDNew := ⟨mo_dNew, pe_dnewK.imp fun σ H Q h => by
  obtain ⟨Z, S, ws, ok, re, h⟩ := h
  exact fun p hp => h p (ok.free hp) (.ref p) _ (Fr.own hp) (ok.own hp ⟨[], upd_same, rfl, .nil⟩) (.ref p)⟩
theorem s_dNewF : SE X (.Dict [] [] pos) cDNewF := ⟨mo_dNewF, pe_dnewK.imp fun σ H Q h => by
  obtain ⟨Z, S, ws, ok, re, h⟩ := h
  exact fun p hp => h (.ref p) _ (Fr.new hp) (ok.new hp) (.dK upd_same (ok.free hp) (ok.notZ hp) rfl .nil)⟩
theorem en_dNew : EvN cDNew (mC (.dK [])) := ⟨mo_dNew, fun V e q => by cases e; exact fun p hp => q p _ hp rfl⟩
theorem ev_dNewF : Ev cDNewF (mC (.dK [])) := ⟨mo_dNewF, fun V e q => by cases e; exact q⟩
/-! ### written -/
def ownD (S : Sto) (a : Addr) (Q : List (Key × Cv) → Prop) : Prop := match S a with
  | some (.dK kws) => Q kws
  | _ => False
theorem ownD_imp {S : Sto} {a : Addr} {Q Q' : List (Key × Cv) → Prop} (f : ∀ xs, Q xs → Q' xs) (h : ownD S a Q) : ownD S a Q' := by
  unfold ownD at h ⊢
  split at h
  · exact f _ h
  · exact h.elim
theorem ownD_of {S : Sto} {a : Addr} {Q : List (Key × Cv) → Prop} (h : ownD S a Q) : ∃ xs, S a = some (.dK xs) ∧ Q xs := by
  unfold ownD at h
  split at h
  · exact ⟨_, by assumption, h⟩
  · exact h.elim
theorem ownD_to {S : Sto} {a : Addr} {Q : List (Key × Cv) → Prop} {xs : List (Key × Cv)} (e : S a = some (.dK xs)) (h : Q xs) : ownD S a Q := by
  unfold ownD; rw [e]; exact h
/-- d[k] = v -/
def cDPut (td ty tv : CE) : CS := fun D ws S => tv ws S fun v S1 => td ws S1 fun x S2 => ty ws S2 fun y S3 => match x, keyC y with
  | .ref p, some k => ownD S3 p fun kws => kws.length < sizeLine ∧ D.nx ws (S3.set p (.dK (putC kws k v)))
  | _, _ => False
theorem mo_dPut (hv : MonE tv) (hd : MonE td) (hy : MonE ty) : MonS (cDPut td ty tv) := fun D D' ws S l h => hv _ _ _ _ (fun v S1 h1 => hd _ _ _ _ (fun x S2 h2 => hy _ _ _ _ (fun y S3 h3 => by
  split at h3
  · exact ownD_imp (fun xs q => ⟨q.1, l.nx _ _ q.2⟩) h3
  · exact h3.elim) h2) h1) h
theorem own_dput {K : Fg} {Z : List Addr} {S : Sto} {H : Hp} {p : Addr} {kws : List (Key × Cv)} {kvs : List (Key × V)} {k : Key} {w : Cv} {v : V} (ok : StOk K Z S H) (e : S p = some (.dK kws)) (hh : H p = some (.dK kvs)) (rk : RepKV K Z S H kws kvs) (r : Rep K Z S H w v) :
    Fr S H (S.set p (.dK (putC kws k w))) (upd H p (.dK (putK kvs k v))) ∧ StOk K Z (S.set p (.dK (putC kws k w))) (upd H p (.dK (putK kvs k v))) := by
  have f : Fr S H (S.set p (.dK (putC kws k w))) (upd H p (.dK (putK kvs k v))) := Fr.wr e
  have := rk.put (k := k) r
  exact ⟨f, ok.wr e ⟨_, upd_same, this.1, this.2.fr f⟩⟩
theorem ss_dput (hu : X.A.units + 1 < cLine) (ho : SE X o td) (hi : SE X i ty) (hv : SE X value tv) (hs : swapsWith value (some (.Subscript o i pos')) pos.line X.env = pure false := by rfl) : SS X (.Assign [.Subscript o i pos'] value pos) (cDPut td ty tv) := ⟨mo_dPut hv.mono ho.mono hi.mono, (ps_dput hu ho.ok hi.ok hv.ok hs).imp fun D σ H h => by
  obtain ⟨Z, S, ws, ok, re, h⟩ := h
  refine liftE_of hv.mono ok re h fun w S1 vw H1 f1 ok1 r1 q1 => ?_
  refine liftE_of ho.mono ok1 (re.fr f1) q1 fun x S2 vx H2 f2 ok2 r2 q2 => ?_
  refine liftE_of hi.mono ok2 ((re.fr f1).fr f2) q2 fun y S3 vy H3 f3 ok3 r3 q3 => ?_
  split at q3
  · rename_i p k ey
    have r2' := r2.fr f3
    cases r2'
    obtain ⟨kws, e, hl, q⟩ := ownD_of q3
    obtain ⟨kvs, hh, rk⟩ := ok3.ob p _ e
    obtain ⟨f4, ok4⟩ := own_dput (k := k) ok3 e hh rk ((r1.fr f2).fr f3)
    refine ⟨p, _, rfl, .inl ⟨kvs, k, hh, keyC_rep ey r3, by rw [← RepKV.len rk]; exact hl, rfl⟩, ?_⟩
    exact q σ _ (((f1.trans f2).trans f3).trans f4) ok4 ((((re.fr f1).fr f2).fr f3).fr f4)
  · exact q3.elim⟩
/-- d.setdefault(k, z), d an own dict -/
def cDSetd (td ty tz : CE) : CE := fun ws S Q => td ws S fun x S1 => (derefK x S1).isSome = true ∧ ty ws S1 fun y S2 => tz ws S2 fun z S3 => match x, keyC y with
  | .ref p, some k => ownD S3 p fun kws => kws.length < sizeLine ∧ (match valC kws k with | some w => Q w S3 | none => Q z (S3.set p (.dK (putC kws k z))))
  | _, _ => False
theorem mo_dSetd (hd : MonE td) (hy : MonE ty) (hz : MonE tz) : MonE (cDSetd td ty tz) := fun ws S Q Q' f h => hd _ _ _ _ (fun x S1 h1 => ⟨h1.1, hy _ _ _ _ (fun y S2 h2 => hz _ _ _ _ (fun z S3 h3 => by
  split at h3
  · refine ownD_imp (fun xs q => ⟨q.1, ?_⟩) h3
    have q2 := q.2
    split at q2 <;> exact f _ _ q2
  · exact h3.elim) h2) h1.2⟩) h
theorem s_dSetd (ho : SE X o td) (he : SE X e ty) (hf : SE X f tz) {apos cpos : Pos} (m : M2 X o "setdefault" apos e f cpos := by constructor <;> rfl) : SE X (.Call (.Attribute o "setdefault" apos) [e, f] [] cpos) (cDSetd td ty tz) := ⟨mo_dSetd ho.mono he.mono hf.mono, (pe_dsetd ho.ok he.ok hf.ok m).imp fun σ H Q h => by
  obtain ⟨Z, S, ws, ok, re, h⟩ := h
  refine liftE_of ho.mono ok re h fun x S1 vx H1 f1 ok1 r1 q1 => ?_
  obtain ⟨kws0, ek0⟩ := Option.isSome_iff_exists.mp q1.1
  obtain ⟨a, kvs0, rfl, hh0, rk0⟩ := derefK_ok ok1 r1 ek0
  refine ⟨a, rfl, .inl ⟨kvs0, .inl hh0⟩, ?_⟩
  refine liftE_of he.mono ok1 (re.fr f1) q1.2 fun y S2 vy H2 f2 ok2 r2 q2 => ?_
  refine liftE_of hf.mono ok2 ((re.fr f1).fr f2) q2 fun z S3 vz H3 f3 ok3 r3 q3 => ?_
  split at q3
  · rename_i p k ey
    cases r1
    obtain ⟨kws, e, hl, q⟩ := ownD_of q3
    obtain ⟨kvs, hh, rk⟩ := ok3.ob _ _ e
    have rk : RepKV X.K Z S3 H3 kws kvs := rk
    have fa := (f1.trans f2).trans f3
    refine ⟨kvs, k, hh, keyC_rep ey (r2.fr f3), by rw [← rk.len]; exact hl, fun v hv => ?_, fun hn => ?_⟩
    · rcases rk.val (k := k) with ⟨e1, e2⟩ | ⟨w', v', e1, e2, r4⟩
      · rw [hv] at e2; cases e2
      · rw [hv] at e2; cases e2
        rw [e1] at q
        exact q v H3 fa ok3 r4
    · rcases rk.val (k := k) with ⟨e1, e2⟩ | ⟨w', v', e1, e2, r4⟩
      · rw [e1] at q
        obtain ⟨f4, ok4⟩ := own_dput (k := k) ok3 e hh rk r3
        exact q vz _ (fa.trans f4) ok4 (r3.fr f4)
      · rw [hn] at e2; cases e2
  · exact q3.elim⟩
/-! ### sorted -/
def asStrs : List Cv → Option (List Str)
  | [] => some []
  | .str x :: r => (asStrs r).map fun l => x :: l
  | _ :: _ => none
theorem asStrs_map : ∀ l : List Str, asStrs (l.map Cv.str) = some l
  | [] => rfl
  | x :: r => by rw [List.map_cons, asStrs, asStrs_map r]; rfl
theorem asStrs_ok {K : Fg} {Z : List Addr} {S : Sto} {H : Hp} : ∀ {ws : List Cv} {vs : List V} {ns : List Str}, Reps K Z S H ws vs → asStrs ws = some ns → vs = ns.map V.str
  | [], _, _, .nil, e => by cases e; rfl
  | w :: ws, _, ns, .cons a r, e => by
    cases w with
    | str x =>
      obtain ⟨l, e1, e2⟩ := map_some' (show (asStrs ws).map (fun l => x :: l) = some ns from e)
      subst e2
      cases a
      rw [asStrs_ok r e1]; rfl
    | _ => cases e
theorem asStrs_eq : ∀ {ws : List Cv} {ns : List Str}, asStrs ws = some ns → ws = ns.map Cv.str
  | [], _, e => by cases e; rfl
  | w :: ws, ns, e => by
    cases w with
    | str x =>
      obtain ⟨l, e1, e2⟩ := map_some' (show (asStrs ws).map (fun l => x :: l) = some ns from e)
      subst e2
      rw [asStrs_eq e1]; rfl
    | _ => cases e
def keysS : List (Key × Cv) → Option (List Str)
  | [] => some []
  | (.inr x, _) :: r => (keysS r).map fun l => x :: l
  | _ :: _ => none
theorem keysS_ok : ∀ {kws : List (Key × Cv)} {ks : List Str}, keysS kws = some ks → kws.map Prod.fst = ks.map Sum.inr
  | [], _, e => by cases e; rfl
  | (.inl i, w) :: r, ks, e => by cases e
  | (.inr x, w) :: r, ks, e => by
    obtain ⟨l, e1, e2⟩ := map_some' (show (keysS r).map (fun l => x :: l) = some ks from e)
    subst e2
    rw [List.map_cons, List.map_cons, keysS_ok e1]
/-- sorted, of a list of texts, or of a dict by its keys (texts): fewer than 64 -/
def cSorted : CC := fun us S Q => match us with
  | [w] => (match deref w S with
    | some (.lst xs) => (match asStrs xs with | some ss => ss.length < 64 ∧ ∀ ys : List Str, ys.Perm ss → sortedS ys = true → Q (.lst (ys.map Cv.str)) S | none => False)
    | some (.dK kws) => (match keysS kws with | some ss => ss.length < 64 ∧ ∀ ys : List Str, ys.Perm ss → sortedS ys = true → Q (.lst (ys.map Cv.str)) S | none => False)
    | _ => False)
  | _ => False
theorem mo_sorted : MonC cSorted := fun us S Q Q' f h => by
  unfold cSorted at h ⊢
  repeat' split at h
  all_goals first | exact h.elim | exact ⟨h.1, fun ys a b => f _ _ (h.2 ys a b)⟩
theorem reps_strs {K : Fg} {Z : List Addr} {S : Sto} {H : Hp} : ∀ l : List Str, Reps K Z S H (l.map Cv.str) (l.map V.str)
  | [] => .nil
  | x :: r => .cons (.str x) (reps_strs r)
theorem b_sorted (hc : X.calm = true) : SC X (.builtin "sorted") cSorted := sc_of mo_sorted fun pins s σ H xs us Q Z S ws I rv ok re q => by
  unfold cSorted at q
  split at q
  · cases re with
    | cons a b =>
      cases b
      split at q
      · rename_i w ew
        split at q
        · rename_i ys ey
          obtain ⟨p, vs, rfl, hs, rr⟩ := RepD.lstH (deref_ok ok a ew)
          have ev := asStrs_ok rr ey
          subst ev
          exact cr_sortedS pins s σ H _ us Q I rv ⟨p, ys, rfl, .inl (.inl hs), q.1, fun zs l hp hs' hl => q.2 zs hp hs' _ _ (Fr.new hl) (ok.new hl) (.lst upd_same (ok.free hl) (ok.notZ hl) (reps_strs zs))⟩
        · exact q.elim
      · rename_i w ew
        split at q
        · rename_i ys ey
          obtain ⟨p, kvs, rfl, hh, rk⟩ := (deref_ok ok a ew).dKH
          exact call_sortedD hc pins s σ H _ us Q I rv ⟨p, kvs, ys, rfl, .inl hh, by
            have := keysS_ok ey
            rw [← this]; exact rk.1.symm, q.1, fun zs l hp hs' hl => q.2 zs hp hs' _ _ (Fr.new hl) (ok.new hl) (.lst upd_same (ok.free hl) (ok.notZ hl) (reps_strs zs))⟩
        · exact q.elim
      · exact q.elim
  · exact q.elim
end
end CL

set_option Elab.async false
set_option linter.all false
set_option maxRecDepth 100000
set_option maxHeartbeats 1000000
/-! CL26: sorted, computed -/
namespace CL
open PySem PySem.Spec PyProof.Rows L2
def leS (a b : Str) : Bool := !ltCps b.cps.toList a.cps.toList
theorem ltc_irr : ∀ l : List Nat, ltCps l l = false
  | [] => by simp [ltCps]
  | x :: r => by simp [ltCps, ltc_irr r]
theorem ltc_tri : ∀ a b : List Nat, ltCps a b = false → ltCps b a = false → a = b
  | [], [], _, _ => rfl
  | [], y :: r, h, _ => by simp [ltCps] at h
  | x :: r, [], _, h => by simp [ltCps] at h
  | x :: r, y :: l, h, h' => by
    simp [ltCps] at h h'
    have e : x = y := by
      first | omega | (rcases Nat.lt_trichotomy x y with q | q | q <;> simp_all <;> omega)
    subst e
    have e2 : r = l := ltc_tri r l (by simp_all) (by simp_all)
    rw [e2]
theorem ltc_trans : ∀ a b c : List Nat, ltCps a b = true → ltCps b c = true → ltCps a c = true
  | [], [], _, h, _ => by simp [ltCps] at h
  | _ :: _, [], _, h, _ => by simp [ltCps] at h
  | [], _ :: _, [], _, h => by simp [ltCps] at h
  | _ :: _, _ :: _, [], _, h => by simp [ltCps] at h
  | [], _ :: _, _ :: _, _, _ => by simp [ltCps]
  | x :: r, y :: l, z :: t, h, h' => by
    simp only [ltCps, Bool.or_eq_true, decide_eq_true_eq, Bool.and_eq_true, beq_iff_eq] at h h' ⊢
    rcases h with h | ⟨h, h1⟩
    · rcases h' with h' | ⟨h', h2⟩
      · left; omega
      · left; omega
    · rcases h' with h' | ⟨h', h2⟩
      · left; omega
      · right; exact ⟨by omega, ltc_trans r l t h1 h2⟩
theorem leS_refl (a : Str) : leS a a = true := by unfold leS; rw [ltc_irr]; rfl
theorem leS_total (a b : Str) : leS a b = true ∨ leS b a = true := by
  unfold leS
  cases h : ltCps b.cps.toList a.cps.toList with
  | false => left; rfl
  | true =>
    right
    cases h2 : ltCps a.cps.toList b.cps.toList with
    | false => rfl
    | true =>
      have := ltc_trans _ _ _ h h2
      rw [ltc_irr] at this; cases this
theorem leS_antisymm {a b : Str} (h : leS a b = true) (h' : leS b a = true) : a = b := by
  unfold leS at h h'
  have e := ltc_tri a.cps.toList b.cps.toList (by simpa using h') (by simpa using h)
  cases a; cases b
  simp only [Str.mk.injEq]
  exact Array.toList_inj.mp e
theorem leS_trans {a b c : Str} (h : leS a b = true) (h' : leS b c = true) : leS a c = true := by
  unfold leS at h h' ⊢
  cases hc : ltCps c.cps.toList a.cps.toList with
  | false => rfl
  | true =>
    exfalso
    have h1 : ltCps b.cps.toList a.cps.toList = false := by simpa using h
    have h2 : ltCps c.cps.toList b.cps.toList = false := by simpa using h'
    cases h3 : ltCps a.cps.toList b.cps.toList with
    | true =>
      rw [ltc_trans _ _ _ hc h3] at h2; cases h2
    | false =>
      have e := ltc_tri _ _ h3 h1
      rw [e] at hc
      rw [hc] at h2; cases h2
def insS (x : Str) : List Str → List Str
  | [] => [x]
  | y :: r => if leS x y = true then x :: y :: r else y :: insS x r
def sortS : List Str → List Str
  | [] => []
  | x :: r => insS x (sortS r)
theorem insS_perm (x : Str) : ∀ l, (insS x l).Perm (x :: l)
  | [] => .refl _
  | y :: r => by
    rw [insS]
    split
    · exact .refl _
    · exact ((insS_perm x r).cons y).trans (.swap x y r)
theorem sortS_perm : ∀ l, (sortS l).Perm l
  | [] => .refl _
  | x :: r => (insS_perm x _).trans ((sortS_perm r).cons x)
abbrev UpS (l : List Str) : Prop := l.Pairwise fun a b => leS a b = true
theorem insS_up (x : Str) : ∀ {l}, UpS l → UpS (insS x l)
  | [], _ => List.pairwise_singleton _ _
  | y :: r, h => by
    rw [insS]
    have h := List.pairwise_cons.mp h
    split
    · rename_i c
      refine List.pairwise_cons.mpr ⟨fun z hz => ?_, List.pairwise_cons.mpr h⟩
      rcases List.mem_cons.mp hz with e | e
      · rw [e]; exact c
      · exact leS_trans c (h.1 z e)
    · rename_i c
      refine List.pairwise_cons.mpr ⟨fun z hz => ?_, insS_up x h.2⟩
      rcases List.mem_cons.mp ((insS_perm x r).mem_iff.mp hz) with e | e
      · rw [e]
        rcases leS_total x y with q | q
        · exact absurd q c
        · exact q
      · exact h.1 z e
theorem sortS_up : ∀ l, UpS (sortS l)
  | [] => List.Pairwise.nil
  | x :: r => insS_up x (sortS_up r)
theorem rising_up : ∀ {l : List Str} {p : Str}, risingS p l = true → UpS (p :: l)
  | [], p, _ => List.pairwise_singleton _ _
  | x :: r, p, h => by
    obtain ⟨h1, h2⟩ := Bool.and_eq_true_iff.mp (show (!ltCps x.cps.toList p.cps.toList && risingS x r) = true from h)
    have ih := rising_up h2
    refine List.pairwise_cons.mpr ⟨fun z hz => ?_, ih⟩
    rcases List.mem_cons.mp hz with e | e
    · rw [e]; exact h1
    · exact leS_trans (show leS p x = true from h1) ((List.pairwise_cons.mp ih).1 z e)
theorem sortedS_up {l : List Str} (h : sortedS l = true) : UpS l := by
  cases l with
  | nil => exact List.Pairwise.nil
  | cons x r => exact rising_up h
theorem up_uniq : ∀ {l m : List Str}, UpS l → UpS m → l.Perm m → l = m
  | [], m, _, _, p => (List.nil_perm.mp p).symm
  | x :: r, [], _, _, p => by cases List.perm_nil.mp p
  | x :: r, y :: t, h, h', p => by
    have a := List.pairwise_cons.mp h
    have b := List.pairwise_cons.mp h'
    have e : x = y := by
      have hx : x ∈ y :: t := p.mem_iff.mp List.mem_cons_self
      have hy : y ∈ x :: r := p.mem_iff.mpr List.mem_cons_self
      rcases List.mem_cons.mp hx with e | e
      · exact e
      · rcases List.mem_cons.mp hy with e2 | e2
        · exact e2.symm
        · exact leS_antisymm (a.1 y e2) (b.1 x e)
    subst e
    rw [up_uniq a.2 b.2 ((List.perm_cons x).mp p)]
theorem sortS_eq {l m : List Str} (h : l.Perm m) (u : UpS l) : l = sortS m := up_uniq u (sortS_up m) (h.trans (sortS_perm m).symm)
theorem sortS_congr {l m : List Str} (h : l.Perm m) : sortS l = sortS m := sortS_eq ((sortS_perm l).trans h) (sortS_up l)
def fSorted : List Cv → Option Cv
  | [.lst xs] => (asStrs xs).bind fun ss => if decide (ss.length < 64) = true then some (.lst ((sortS ss).map Cv.str)) else none
  | [.dK kws] => (keysS kws).bind fun ss => if decide (ss.length < 64) = true then some (.lst ((sortS ss).map Cv.str)) else none
  | _ => none
theorem ec_sorted : EC cSorted fSorted := ⟨mo_sorted, fun {us S Q v} e q => by
  unfold fSorted at e
  split at e
  · obtain ⟨ss, e1, e⟩ := bind_some e
    obtain ⟨h1, e⟩ := ite_some e
    subst e
    show match asStrs _ with | some ss => _ | none => False
    rw [e1]
    refine ⟨of_decide_eq_true h1, fun ys p u => ?_⟩
    rw [sortS_eq p (sortedS_up u)]; exact q
  · obtain ⟨ss, e1, e⟩ := bind_some e
    obtain ⟨h1, e⟩ := ite_some e
    subst e
    show match keysS _ with | some ss => _ | none => False
    rw [e1]
    refine ⟨of_decide_eq_true h1, fun ys p u => ?_⟩
    rw [sortS_eq p (sortedS_up u)]; exact q
  · cases e⟩
theorem q_sortedL {ss : List Str} (h : ss.length < 64) : fSorted [.lst (ss.map Cv.str)] = some (.lst ((sortS ss).map Cv.str)) := by
  show (asStrs (ss.map Cv.str)).bind _ = _
  rw [asStrs_map]; exact if_pos (decide_eq_true h)
/-! own dicts -/
def mDPut (i : Nat) (k a : ME) : MS := fun gs => ((slO gs[i]?).bind dkOnly).bind fun d => (a gs).bind fun v => (k gs).bind fun y => (fDPut d y v).map fun d => .nx (gs.set i (.ow d)) where
  fDPut : Cv → Cv → Cv → Option Cv
  | .dK kws, y, v => if decide (kws.length < 1000000) = true then (keyC y).map fun k => .dK (putC kws k v) else none
  | _, _, _ => none
theorem obv_dK {o : Ob} {xs : List (Key × Cv)} (h : obv o = some (.dK xs)) : o = .dK xs := by
  cases o <;> simp [obv] at h
  rw [h]
theorem es_dput {ty tv : CE} {k a : ME} {i : Nat} (hk : Ev ty k) (h : Ev tv a) : EvS (cDPut (cVar i) ty tv) (mDPut i k a) := ⟨mo_dPut h.mono mo_var hk.mono, fun V e q => by
  obtain ⟨d, e0, e⟩ := bind_some e
  obtain ⟨v, e1, e⟩ := bind_some e
  obtain ⟨y, e2, e⟩ := bind_some e
  obtain ⟨d', e3, e⟩ := map_some' e
  subst e
  obtain ⟨d0, e0', e4⟩ := bind_some e0
  cases d0 <;> cases e4
  have e0' := slO_some e0'
  obtain ⟨p, o, f1, f2, f3, f4⟩ := V.ow _ _ e0'
  cases obv_dK f3
  refine h.ok V e1 (x_var f1 (hk.ok V e2 ?_))
  unfold mDPut.fDPut at e3
  simp only [] at e3
  split at e3
  · rename_i hl
    obtain ⟨key, e5, e3⟩ := map_some' e3
    subst e3
    rw [e5]
    exact ownD_to f2 ⟨Nat.lt_of_lt_of_le (of_decide_eq_true hl) (by decide), q _ _ (V.chg e0' f1 rfl)⟩
  · cases e3⟩
end CL

set_option Elab.async false
set_option linter.all false
set_option maxRecDepth 100000
set_option maxHeartbeats 1000000
/-! CL27: times, of ints, tuples and lists -/
namespace CL
open PySem PySem.Spec PyProof.Rows L2
section
variable {X : Cx}
def cMulT (xs : List Cv) : Cv → Sto → (Cv → Sto → Prop) → Prop
  | .int k, S, Q => (xs ≠ [] ∧ 2 ≤ k ∧ k ≤ 1000 ∧ xs.length ≤ 1000) ∧ Q (.tup (List.replicate k.toNat xs).flatten) S
  | _, _, _ => False
def cMulA : C2 := fun a b S Q => match a with
  | .int i => cMul (.int i) b S Q
  | .tup xs => cMulT xs b S Q
  | a => cRepL a b S Q
theorem cMulA_mono : Mon2 cMulA := fun a b S Q Q' f h => by
  unfold cMulA at h ⊢
  cases a with
  | int i => exact cI2_mono _ _ _ _ _ f h
  | tup xs =>
    cases b with
    | int k => exact ⟨h.1, f _ _ h.2⟩
    | _ => exact h.elim
  | _ => exact cRepL_mono _ _ _ _ _ f h
theorem o_mulA : S2 X (binaryOp .Mult) cMulA := s2_of cMulA_mono fun pins s σ H x y v u Q Z S a b I rx ry ok ra rb q => by
  unfold cMulA at q
  cases a with
  | int i => exact (o_mul (X := X)).ok pins s σ H x y v u Q I rx ry ⟨Z, S, _, b, ok, ra, rb, q⟩
  | tup xs =>
    cases b with
    | int k =>
      cases rb
      obtain ⟨a1, v1, rfl, t1, r1⟩ := RepD.tupH ra
      obtain ⟨⟨h1, h2, h3, h4⟩, q⟩ := q
      refine op_repT pins s σ H _ _ v u Q I rx ry ⟨a1, k, v1, rfl, rfl, t1, fun e => h1 (r1.nil_iff.mp e), h2, h3, by rw [← r1.length]; exact h4, fun p hp => new_tup ok hp (reps_rep r1 _) q⟩
    | _ => exact q.elim
  | _ => exact (o_repL (X := X)).ok pins s σ H x y v u Q I rx ry ⟨Z, S, _, b, ok, ra, rb, q⟩
def fMulA : Cv → Cv → Option Cv
  | .int i, b => fMul (.int i) b
  | .tup xs, .int k => if (!xs.isEmpty && decide (2 ≤ k ∧ k ≤ 1000) && decide (xs.length ≤ 1000)) = true then some (.tup (List.replicate k.toNat xs).flatten) else none
  | .lst xs, b => fRepL (.lst xs) b
  | _, _ => none
theorem e2_mulA : E2 cMulA fMulA := ⟨cMulA_mono, fun {a b S Q v} e q => by
  unfold fMulA at e
  split at e
  · exact e2_mul.2 e q
  · obtain ⟨h1, e⟩ := ite_some e
    subst e
    rw [Bool.and_eq_true, Bool.and_eq_true] at h1
    have := of_decide_eq_true h1.1.2
    exact ⟨⟨fun e => (by have := h1.1.1; rw [e] at this; cases this), this.1, this.2, of_decide_eq_true h1.2⟩, q⟩
  · exact e2_repL.2 e q
  · cases e⟩
theorem q_mulAI {i : Int} {b : Cv} : fMulA (.int i) b = fMul (.int i) b := rfl
theorem q_mulAL {xs : List Cv} {b : Cv} : fMulA (.lst xs) b = fRepL (.lst xs) b := rfl
theorem q_mulAT {xs : List Cv} {k : Int} (h : xs ≠ []) (h2 : 2 ≤ k) (h3 : k ≤ 1000) (h4 : xs.length ≤ 1000) : fMulA (.tup xs) (.int k) = some (.tup (List.replicate k.toNat xs).flatten) := by
  have e : (!xs.isEmpty && decide (2 ≤ k ∧ k ≤ 1000) && decide (xs.length ≤ 1000)) = true := by
    rw [decide_eq_true ⟨h2, h3⟩, decide_eq_true h4]
    cases xs with
    | nil => exact absurd rfl h
    | cons a b => rfl
  exact if_pos e
theorem q_repL {xs : List Cv} {k : Int} (h : -1000000 ≤ k ∧ k ≤ 1000000) (h2 : lenOk (xs.length * k.toNat) = true) : fRepL (.lst xs) (.int k) = some (.lst (List.replicate k.toNat xs).flatten) := by
  exact if_pos (by rw [decide_eq_true h, h2]; rfl)
end
end CL

set_option Elab.async false
set_option linter.all false
set_option maxRecDepth 100000
set_option maxHeartbeats 1000000
/-! CL28: closed values, compared by the kernel -/
namespace CL
open PySem PySem.Spec PyProof.Rows L2
mutual
def cvEq : Cv → Cv → Bool
  | .non, .non => true
  | .bl a, .bl b => a == b
  | .int i, .int j => decide (i = j)
  | .str x, .str y => decide (x = y)
  | .tup xs, .tup ys => cvsEq xs ys
  | .lst xs, .lst ys => cvsEq xs ys
  | _, _ => false
def cvsEq : List Cv → List Cv → Bool
  | [], [] => true
  | x :: xs, y :: ys => cvEq x y && cvsEq xs ys
  | _, _ => false
end
mutual
theorem cvEq_eq : ∀ a b : Cv, cvEq a b = true → a = b
  | .non, b, h => by cases b <;> simp [cvEq] at h; rfl
  | .bl a, b, h => by cases b <;> simp [cvEq] at h; rw [h]
  | .int a, b, h => by cases b <;> simp [cvEq] at h; rw [h]
  | .str a, b, h => by cases b <;> simp [cvEq] at h; rw [h]
  | .tup a, b, h => by
    cases b <;> simp [cvEq] at h
    rw [cvsEq_eq a _ h]
  | .lst a, b, h => by
    cases b <;> simp [cvEq] at h
    rw [cvsEq_eq a _ h]
  | .scr a, b, h => by cases b <;> simp [cvEq] at h
  | .dK a, b, h => by cases b <;> simp [cvEq] at h
  | .dT a, b, h => by cases b <;> simp [cvEq] at h
theorem cvsEq_eq : ∀ a b : List Cv, cvsEq a b = true → a = b
  | [], [], _ => rfl
  | [], y :: r, h => by simp [cvsEq] at h
  | x :: r, [], h => by simp [cvsEq] at h
  | x :: r, y :: l, h => by
    simp [cvsEq] at h
    rw [cvEq_eq x y h.1, cvsEq_eq r l h.2]
end
/-- a reading's answer, looked at -/
def isAns (o : Option Cv) (v : Cv) : Bool := match o with | some w => cvEq w v | none => false
theorem isAns_eq {o : Option Cv} {v : Cv} (h : isAns o v = true) : o = some v := by
  cases o with
  | none => cases h
  | some w => rw [cvEq_eq w v h]
end CL

set_option Elab.async false
set_option linter.all false
set_option maxRecDepth 100000
set_option maxHeartbeats 1000000
/-! CL29: isinstance(x, a built-in type); range with a step -/
namespace CL
open PySem PySem.Spec PyProof.Rows L2
/-- the class of a clean value -/
def tyN : Cv → Option String
  | .non => some "NoneType"
  | .bl _ => some "bool"
  | .int _ => some "int"
  | .str _ => some "str"
  | .tup _ => some "tuple"
  | .lst _ => some "list"
  | .dK _ => some "dict"
  | _ => none
def isiN : List String := ["bool", "int", "str", "tuple", "list", "dict"]
def isiA (t n : String) : Bool := t == n || (t == "bool" && n == "int")
theorem isi_tab : ∀ t ∈ "NoneType" :: isiN, ∀ n ∈ isiN, kitB t n = some (isiA t n) := by decide +kernel
theorem tyN_mem {w : Cv} {t : String} (h : tyN w = some t) : t ∈ "NoneType" :: isiN := by
  cases w <;> simp only [tyN, Option.some.injEq, reduceCtorEq] at h <;> subst h <;> decide
section
variable {X : Cx}
theorem tyN_ok {K : Fg} {Z : List Addr} {S : Sto} {H : Hp} {w : Cv} {x : V} {t : String} (r : Rep K Z S H w x) (h : tyN w = some t) : TyX K H x (.type t) := by
  cases r <;> simp only [tyN, Option.some.injEq, reduceCtorEq] at h <;> subst h
  · exact .base .non
  · exact .base (.bl _)
  · exact .base (.int _)
  · exact .base (.str _)
  · rename_i hr _ _
    rcases hr with e | ⟨o, e⟩
    · exact .base (.tup e)
    · exact .fTuple e
  · rename_i hr _
    rcases hr H with (e | ⟨o, e⟩) | ⟨o, _, _, e, c, _⟩
    · exact .base (.tup e)
    · exact .fTuple e
    · exact .kTuple e c
  · rename_i hr _ _ _; exact .base (.lst hr)
  · rename_i hr _ _ _ _; exact .base (.dK hr)
theorem ty_der {K : Fg} {Z : List Addr} {S : Sto} {H : Hp} {w v : Cv} {x : V} {t : String} (ok : StOk K Z S H) (r1 : Rep K Z S H w x) (a : deref w S = some v) (b : tyN v = some t) : TyX K H x (.type t) := by
  cases w with
  | ref l =>
    cases r1
    simp only [deref] at a
    cases e : S l with
    | none => rw [e] at a; cases a
    | some ob =>
      rw [e] at a
      have := ok.ob l _ e
      cases ob with
      | lst ys => cases a; obtain ⟨vs, hh, _⟩ := this; simp only [tyN, Option.some.injEq] at b; subst b; exact .base (.lst hh)
      | dK ys => cases a; obtain ⟨vs, hh, _⟩ := this; simp only [tyN, Option.some.injEq] at b; subst b; exact .base (.dK hh)
      | dT ys => cases a; cases b
      | ins C dx fs => cases a
  | _ => first | (cases a; exact tyN_ok r1 b)
def cIsi : CC := fun us S Q => match us with
  | [w, .opq (.ty n)] => ∃ v t, deref w S = some v ∧ tyN v = some t ∧ n ∈ isiN ∧ Q (.bl (isiA t n)) S
  | _ => False
theorem mo_isi : MonC cIsi := fun us S Q Q' f h => by
  unfold cIsi at h ⊢
  split at h
  · obtain ⟨v, t, a, b, c, q⟩ := h
    exact ⟨v, t, a, b, c, f _ _ q⟩
  · exact h.elim
theorem b_isi : SC X (.builtin "isinstance") cIsi := sc_of mo_isi fun pins s σ H xs us Q Z S ws I rv ok re q => by
  unfold cIsi at q
  split at q
  · obtain ⟨v, t, a, b, c, q⟩ := q
    cases re with
    | cons r1 re =>
      cases re with
      | cons r2 re =>
        cases re
        cases r2
        exact call_isi pins s σ H _ us Q I rv ⟨_, _, _, _, _, rfl, .ty _, ty_der ok r1 a b, kit_ty (isi_tab t (tyN_mem b) _ c), q _ H (Fr.refl S H) ok (.bl _)⟩
  · exact q.elim
/-- the name of a built-in type -/
theorem s_ty {x : Str} {T : String} {pos : Pos} (hm : X.mg x = none) (hg : Gl X x := by rfl) (hv : bootBuiltins x = some (.type T) := by decide +kernel) (hn : x ≠ "__name__" := by decide) (hd : (x == ("__debug__" : Str)) = false := by decide) : SE X (.Name x pos) (cC (.opq (.ty T))) :=
  s_const (pe_bltn (v := .ty T) hg hm hv rfl hn hd) fun _ _ _ _ => .opq _
/-- range(i, j, c) -/
def rngS (i c : Int) (n : Nat) : List Cv := (List.range n).map fun (k : Nat) => .int (i + k * c)
def cRng3 (ta : CA) : CI := fun ws S Q => ta ws S fun us S1 => match us with | [.int i, .int j, .int c] => RgC i j c (Builtin.Range.rangeSize i j c).toNat ∧ Q (rngS i c (Builtin.Range.rangeSize i j c).toNat) (fun _ => True) S1 | _ => False
theorem walk_rangeC {K : Fg} {Z : List Addr} {S : Sto} {H : Hp} (lo c : Int) (n : Nat) : WalkOk K Z (Itc lo c n) (rngS lo c n) (fun _ => True) S H := by
  unfold rngS
  intro Z' S1 H1 _ hz f ok1 _ i
  refine ⟨fun hi => ?_, fun hi => by rw [List.length_map, List.length_range] at hi; exact hi⟩
  rw [List.length_map, List.length_range] at hi
  refine ⟨hi, fun x H' hy => ?_⟩
  obtain ⟨rfl, rfl⟩ := hy
  exact ⟨.int (lo + i * c), by simp [hi], Fr.refl _ _, ok1, .int _⟩
theorem mo_rng3 {ta : CA} (h : MonA ta) : MonI (cRng3 ta) := fun ws S Q Q' f q => h _ _ _ _ (fun us S1 q => by
  split at q
  · exact ⟨q.1, f _ _ _ q.2⟩
  · exact q) q
theorem si_range3 {tg : Expr} {a b c : Expr} {ta : CA} {p pos : Pos} (hg : Gl X "range") (hm : X.mg "range" = none) (ha : SA X [a, b, c] ta) (hs : starEach [a, b, c] X.env = (false, eval a X.env) :: starEach [b, c] X.env := by rfl) (hpl : (backTo pos (starEach [b, c] X.env)).any (·.1) = false := by rfl) : SI X tg (.Call (.Name "range" p) [a, b, c] [] pos) (cRng3 ta) := by
  refine ⟨mo_rng3 ha.mono, (pi_range3 hg hm ha.ok hs hpl).imp fun σ H R h => ?_⟩
  obtain ⟨Z, S, ws, ok, re, h⟩ := h
  refine liftA_of ha.mono ok re h fun us S1 vs H1 f1 ok1 r1 q1 => ?_
  split at q1
  · rename_i i j c
    cases r1 with
    | cons a r1 =>
      cases r1 with
      | cons b r1 =>
        cases r1 with
        | cons d r1 =>
          cases a; cases b; cases d; cases r1
          exact ⟨i, j, c, _, rfl, q1.1, q1.2 _ H1 f1 ok1 (walk_rangeC i c _)⟩
  · exact q1.elim
end
section
variable {X : Cx} {pos : Pos}
theorem chain_conv {op op' : CmpOp} {r r' : C2} {a b c : Expr} {tA tB tC : CE} (ho : S2 X (compareOp op) r) (ho' : S2 X (compareOp op') r') (ha : SE X a tA) (hb : SE X b tB) (hc : SE X c tC) {σ : L2.St} {H : Hp} {Q : VK}
    (h : liftE X.K (cChain r r' tA tB tC) σ H Q) : tChain (lift2 X.K r) (lift2 X.K r') (liftE X.K tA) (liftE X.K tB) (liftE X.K tC) σ H Q := by
  obtain ⟨Z, S, ws, ok, re, h⟩ := h
  refine liftE_of ha.mono ok re h fun x S1 v1 H1 f1 ok1 r1 q1 => ?_
  refine liftE_of hb.mono ok1 (re.fr f1) q1 fun y S2 v2 H2 f2 ok2 r2 q2 => ?_
  refine ⟨Z, S2, x, y, ok2, r1.fr f2, r2, ho.mono _ _ _ _ _ (fun z S3 q3 v3 H3 f3 ok3 r3 => ?_) q2⟩
  have f0 := (f1.trans f2).trans f3
  split at q3
  · cases r3
    refine ⟨true, rfl, ?_⟩
    show liftE X.K tC σ H3 _
    refine liftE_of hc.mono ok3 (re.fr f0) q3 fun u S4 v4 H4 f4 ok4 r4 q4 => ?_
    exact ⟨Z, S4, y, u, ok4, (r2.fr f3).fr f4, r4, ho'.mono _ _ _ _ _ (fun w S' g v H' a b c => g v H' ((f0.trans f4).trans a) b c) q4⟩
  · cases r3
    exact ⟨false, rfl, q3 _ H3 f0 ok3 (.bl false)⟩
  · exact q3.elim
theorem mo_chain' {r r' : C2} {tA tB tC : CE} (hr : Mon2 r) (hr' : Mon2 r') (ha : MonE tA) (hb : MonE tB) (hc : MonE tC) : MonE (cChain r r' tA tB tC) := mo_chain hr hr' ha hb hc
/-- a chain of comparisons, as a test -/
theorem st_chain {op op' : CmpOp} {r r' : C2} {a b c : Expr} {tA tB tC : CE} (ho : S2 X (compareOp op) r) (ho' : S2 X (compareOp op') r') (ha : SE X a tA) (hb : SE X b tB) (hc : SE X c tC)
    (hm : lastMarks [op, op'] [b, c] = false := by with_unfolding_all rfl) : ST X (.Compare a [op, op'] [b, c] pos) (cB (cChain r r' tA tB tC)) :=
  ⟨cB_mono (mo_chain ho.mono ho'.mono ha.mono hb.mono hc.mono), (pt_chain ho.ok ho'.ok ha.ok hb.ok hc.ok hm).imp fun σ H Q h => chain_conv ho ho' ha hb hc (cB_ok (mo_chain ho.mono ho'.mono ha.mono hb.mono hc.mono) h)⟩
end
/-! computed -/
def fIsi : List Cv → Option Cv
  | [w, .opq (.ty n)] => (tyN w).bind fun t => if isiN.contains n = true then some (.bl (isiA t n)) else none
  | _ => none
theorem tyN_der {w : Cv} {t : String} {S : Sto} (h : tyN w = some t) : deref w S = some w := by
  cases w <;> first | rfl | cases h
theorem ec_isi : EC cIsi fIsi := ⟨mo_isi, fun {us S Q v} e q => by
  unfold fIsi at e
  split at e
  · obtain ⟨t, e1, e⟩ := bind_some e
    obtain ⟨h1, e⟩ := ite_some e
    subst e
    exact ⟨_, t, tyN_der e1, e1, by simpa using h1, q⟩
  · cases e⟩
def rgcB (i j c : Int) : Bool := decide (c ≠ 0 ∧ c.natAbs < 1073741824) && (Builtin.Range.small i j c && decide (Builtin.Range.rangeSize i j c = (Builtin.Range.rangeSize i j c).toNat))
def fRng3 : List Cv → Option (List Cv)
  | [.int i, .int j, .int c] => if rgcB i j c = true then some (rngS i c (Builtin.Range.rangeSize i j c).toNat) else none
  | _ => none
def mRng3 (u : MA) : MA := fun gs => (u gs).bind fRng3
theorem ei_rng3 {ua : CA} {u : MA} (h : EvA ua u) : EvI (cRng3 ua) (mRng3 u) := ⟨mo_rng3 h.mono, fun V e q => by
  obtain ⟨v1, e1, e⟩ := bind_some e
  refine h.ok V e1 ?_
  unfold fRng3 at e
  split at e
  · obtain ⟨h1, e⟩ := ite_some e
    subst e
    unfold rgcB at h1
    rw [Bool.and_eq_true, Bool.and_eq_true] at h1
    have a := of_decide_eq_true h1.1
    exact ⟨⟨a.1, a.2, h1.2.1, of_decide_eq_true h1.2.2⟩, q⟩
  · cases e⟩
theorem q_rng3 {U : MA} {gs : MEnv} : mRng3 U gs = (U gs).bind fRng3 := rfl
section
variable {xs : List Cv} {z : Str} {i : Int} {b : Bool}
theorem q_isiTT : fIsi [.tup xs, .opq (.ty "tuple")] = some (.bl true) := rfl
theorem q_isiLT : fIsi [.lst xs, .opq (.ty "tuple")] = some (.bl false) := rfl
theorem q_isiST : fIsi [.str z, .opq (.ty "tuple")] = some (.bl false) := rfl
theorem q_isiIT : fIsi [.int i, .opq (.ty "tuple")] = some (.bl false) := rfl
theorem q_isiBT : fIsi [.bl b, .opq (.ty "tuple")] = some (.bl false) := rfl
theorem q_isiNT : fIsi [.non, .opq (.ty "tuple")] = some (.bl false) := rfl
theorem q_isiTS : fIsi [.tup xs, .opq (.ty "str")] = some (.bl false) := rfl
theorem q_isiLS : fIsi [.lst xs, .opq (.ty "str")] = some (.bl false) := rfl
theorem q_isiSS : fIsi [.str z, .opq (.ty "str")] = some (.bl true) := rfl
theorem q_isiIS : fIsi [.int i, .opq (.ty "str")] = some (.bl false) := rfl
theorem q_isiBS : fIsi [.bl b, .opq (.ty "str")] = some (.bl false) := rfl
theorem q_isiNS : fIsi [.non, .opq (.ty "str")] = some (.bl false) := rfl
theorem q_isiTI : fIsi [.tup xs, .opq (.ty "int")] = some (.bl false) := rfl
theorem q_isiLI : fIsi [.lst xs, .opq (.ty "int")] = some (.bl false) := rfl
theorem q_isiSI : fIsi [.str z, .opq (.ty "int")] = some (.bl false) := rfl
theorem q_isiII : fIsi [.int i, .opq (.ty "int")] = some (.bl true) := rfl
theorem q_isiBI : fIsi [.bl b, .opq (.ty "int")] = some (.bl true) := rfl
theorem q_isiNI : fIsi [.non, .opq (.ty "int")] = some (.bl false) := rfl
theorem q_isiTB : fIsi [.tup xs, .opq (.ty "bool")] = some (.bl false) := rfl
theorem q_isiLB : fIsi [.lst xs, .opq (.ty "bool")] = some (.bl false) := rfl
theorem q_isiSB : fIsi [.str z, .opq (.ty "bool")] = some (.bl false) := rfl
theorem q_isiIB : fIsi [.int i, .opq (.ty "bool")] = some (.bl false) := rfl
theorem q_isiBB : fIsi [.bl b, .opq (.ty "bool")] = some (.bl true) := rfl
theorem q_isiNB : fIsi [.non, .opq (.ty "bool")] = some (.bl false) := rfl
end
theorem iota_nat {i : Int} : iota 0 i.toNat = (List.range' 0 i.toNat).map fun (k : Nat) => Cv.int (k : Nat) := by
  rw [iota_map, List.range_eq_range']
  refine List.map_congr_left fun k _ => ?_
  rw [Int.zero_add]
end CL

set_option Elab.async false
set_option linter.all false
set_option maxRecDepth 100000
set_option maxHeartbeats 1000000
/-! CL30: sets of keys (ints, texts) made of a list or tuple: their number, sorted -/
namespace CL
open PySem PySem.Spec PyProof.Rows L2
theorem perm_lift {α β : Type} (f : α → β) {l' l : List β} (p : l'.Perm l) : ∀ ps : List α, ps.map f = l → ∃ ps' : List α, ps'.Perm ps ∧ ps'.map f = l' := by
  induction p with
  | nil => exact fun ps h => ⟨ps, .refl _, h⟩
  | cons x _ ih =>
    intro ps h
    cases ps with
    | nil => cases h
    | cons q ps =>
      rw [List.map_cons] at h
      injection h with h1 h2
      obtain ⟨ps', a, b⟩ := ih ps h2
      exact ⟨q :: ps', a.cons q, by rw [List.map_cons, h1, b]⟩
  | swap x y l =>
    intro ps h
    match ps, h with
    | p1 :: p2 :: ps, h =>
      rw [List.map_cons, List.map_cons] at h
      injection h with h1 h2
      injection h2 with h2 h3
      exact ⟨p2 :: p1 :: ps, .swap _ _ _, by rw [List.map_cons, List.map_cons, h1, h2, h3]⟩
    | [p1], h => cases h
    | [], h => cases h
  | trans _ _ ih1 ih2 =>
    intro ps h
    obtain ⟨p2, a, b⟩ := ih2 ps h
    obtain ⟨p1, c, d⟩ := ih1 p2 b
    exact ⟨p1, c.trans a, d⟩
/-- a key more, behind, if it is new -/
def addU {κ : Type} [DecidableEq κ] (ks : List κ) (k : κ) : List κ := if k ∈ ks then ks else ks ++ [k]
def ddU {κ : Type} [DecidableEq κ] (xs : List κ) : List κ := xs.foldl addU []
theorem addU_nodup {κ : Type} [DecidableEq κ] {ks : List κ} {k : κ} (h : ks.Nodup) : (addU ks k).Nodup := by
  unfold addU
  split
  · exact h
  · rename_i n
    exact List.nodup_append.mpr ⟨h, (by simp), fun a ha b hb e => n (by rw [List.mem_singleton] at hb; rw [← hb, ← e]; exact ha)⟩
theorem mem_addU {κ : Type} [DecidableEq κ] {ks : List κ} {k x : κ} : x ∈ addU ks k ↔ x ∈ ks ∨ x = k := by
  unfold addU
  split
  · rename_i h
    exact ⟨.inl, fun z => z.elim id fun e => e ▸ h⟩
  · rw [List.mem_append, List.mem_singleton]
theorem foldU_nodup {κ : Type} [DecidableEq κ] : ∀ {xs ks : List κ}, ks.Nodup → (xs.foldl addU ks).Nodup
  | [], _, h => h
  | x :: xs, ks, h => foldU_nodup (xs := xs) (addU_nodup h)
theorem mem_foldU {κ : Type} [DecidableEq κ] {x : κ} : ∀ {xs ks : List κ}, x ∈ xs.foldl addU ks ↔ x ∈ ks ∨ x ∈ xs
  | [], ks => by simp
  | y :: xs, ks => by
    rw [List.foldl_cons, mem_foldU (xs := xs), mem_addU, List.mem_cons, or_assoc]
theorem ddU_nodup {κ : Type} [DecidableEq κ] (xs : List κ) : (ddU xs).Nodup := foldU_nodup List.nodup_nil
theorem mem_ddU {κ : Type} [DecidableEq κ] {x : κ} {xs : List κ} : x ∈ ddU xs ↔ x ∈ xs := by
  unfold ddU
  rw [mem_foldU]; simp
theorem foldU_len {κ : Type} [DecidableEq κ] : ∀ {xs ks : List κ}, ks.length ≤ (xs.foldl addU ks).length
  | [], _ => Nat.le_refl _
  | x :: xs, ks => by
    refine Nat.le_trans ?_ (foldU_len (xs := xs) (ks := addU ks x))
    unfold addU
    split
    · exact Nat.le_refl _
    · simp

section
variable {P : Program} {w : World} {κ : Type} [DecidableEq κ]
/-- the set at a: its members, up to their order -/
def SetG (knd : PySem.KeyKind P w κ) (h : Heap) (a : Addr) (ks : List κ) : Prop :=
  ∃ (o : Obj) (es : Array (Int × Value)) (ep : Nat) (t : SetTable) (ps : List (κ × (Int × Value))), h.get? a = some o ∧ o.ExactSet ∧ o.data = .set es ep t ∧ ps.map Prod.snd = es.toList ∧
    (∀ p ∈ ps, knd.is p.1 p.2.2 = true ∧ p.2.1 = knd.hash p.1 ∧ p.2.2.scannable = true) ∧ (ps.map Prod.fst).Perm ks ∧ ks.Nodup ∧
    es.size < scanBound ∧ t.fits es.size = true ∧ Ris t.place.toList ∧ (w.params.followText "set-order" = true ∨ t.led = true)
variable {knd : PySem.KeyKind P w κ} {h h' : Heap} {a : Addr} {ks : List κ}
theorem SetG.at (R : SetG knd h a ks) (k : ∀ o, h.get? a = some o → h'.get? a = some o) : SetG knd h' a ks := by
  obtain ⟨o, es, ep, t, ps, ho, r⟩ := R
  exact ⟨o, es, ep, t, ps, k o ho, r⟩
theorem SetG.there (R : SetG knd h a ks) : ∃ o, h.get? a = some o := by
  obtain ⟨o, es, ep, t, ps, ho, r⟩ := R
  exact ⟨o, ho⟩
theorem setG_len {es : Array (Int × Value)} {ps : List (κ × (Int × Value))} (e : ps.map Prod.snd = es.toList) (p : (ps.map Prod.fst).Perm ks) : es.size = ks.length := by
  rw [← p.length_eq, List.length_map, ← Array.length_toList, ← e, List.length_map]
theorem setG_elems {es : Array (Int × Value)} {ps : List (κ × (Int × Value))} (e : ps.map Prod.snd = es.toList)
    (g : ∀ p ∈ ps, knd.is p.1 p.2.2 = true ∧ p.2.1 = knd.hash p.1 ∧ p.2.2.scannable = true) : ElemsOf knd es.toList := fun x hx => by
  rw [← e] at hx
  obtain ⟨p, hp, rfl⟩ := List.mem_map.mp hx
  exact ⟨⟨p.1, (g p hp).1, (g p hp).2.1⟩, (g p hp).2.2⟩
end
section
variable {P : Program} {w : World} {κ : Type} [DecidableEq κ] {knd : PySem.KeyKind P w κ} {A : Around} {E : Value → Shared → Prop} {s : Shared} {a : Addr} {ks : List κ}
theorem setG_tail {g : Bool → Sem Unit} (hg : ∀ (b : Bool) (s₁ : Shared) (Q' : Unit → Shared → Prop), Q' () s₁ → wpAny (model P w) A (g b) Q' E s₁)
    {o : Obj} {es : Array (Int × Value)} {ep : Nat} {t : SetTable} (ho : s.heap.get? a = some o) (hex : o.ExactSet) (hd : o.data = .set es ep t)
    {es1 : Array (Int × Value)} {t2 : SetTable} {ps : List (κ × (Int × Value))} (e1 : ps.map Prod.snd = es1.toList) (g1 : ∀ p ∈ ps, knd.is p.1 p.2.2 = true ∧ p.2.1 = knd.hash p.1 ∧ p.2.2.scannable = true) (p1 : (ps.map Prod.fst).Perm ks) (nd1 : ks.Nodup)
    (hb1 : es1.size < scanBound) (hf2 : t2.fits es1.size = true) (hr : Ris t2.place.toList) (hl : w.params.followText "set-order" = true ∨ t2.led = true) {wasDummy : Bool} {R : Option Bool → Shared → Prop}
    (hR : ∀ h', Heap.SameBut a s.heap h' → SetG knd h' a ks → R (some true) { s with heap := h' }) :
    wpAny (model P w) A (do
        storeSet a es1 t2
        if (!wasDummy && t2.tooFull) = true then do
            g (relayAll t2 es1 (SetTable.grown es1.size)).2.2
            storeSet a (relayAll t2 es1 (SetTable.grown es1.size)).1 (relayAll t2 es1 (SetTable.grown es1.size)).2.1
            pure (some true)
          else pure (some true)) R E s := by
  refine wpAny_bind (wpAny_storeSet_of ho hd ?_ (fits_of_scanBound hb1))
  have q1 := store_at (es' := es1) (t' := t2) ho hd
  have sb1 := Heap.SameBut.update s.heap a (Obj.putSet es1 t2)
  split
  · have pm := relayAll_perm t2 es1 (SetTable.grown es1.size)
    have hf3 := relayAll_fits t2 es1 (SetTable.grown es1.size)
    have hr3 := relayAll_ris t2 es1 (SetTable.grown es1.size)
    have hl3 := relayAll_led t2 es1 (SetTable.grown es1.size)
    generalize relayAll t2 es1 (SetTable.grown es1.size) = Z at pm hf3 hr3 hl3 ⊢
    obtain ⟨es2, t3, gave⟩ := Z
    dsimp only at pm hf3 hr3 hl3 ⊢
    have hsz : es2.size = es1.size := by rw [← Array.length_toList, pm.length_eq, Array.length_toList]
    have hb2 : es2.size < scanBound := by rw [hsz]; exact hb1
    obtain ⟨ps2, pp, e2⟩ := perm_lift Prod.snd pm ps e1
    refine wpAny_bind (hg _ _ _ ?_)
    refine wpAny_bind (wpAny_storeSet_of q1 rfl ?_ (fits_of_scanBound hb2))
    have q2 := store_at (es' := es2) (t' := t3) q1 rfl
    refine wpAny_pure (hR _ (sb1.trans (Heap.SameBut.update _ a _)) ?_)
    exact ⟨_, es2, _, t3, ps2, q2, hex, rfl, e2, fun p hp => g1 p (pp.mem_iff.mp hp), (pp.map _).trans p1, nd1, hb2, hf3, hr3, hl.imp id fun z => by rw [hl3]; exact z⟩
  · exact wpAny_pure (hR _ sb1 ⟨_, es1, _, t2, ps, q1, hex, rfl, e1, g1, p1, nd1, hb1, hf2, hr, hl⟩)
theorem setG_add {k : κ} {v : Value} {Q : Bool → Shared → Prop} (R : SetG knd s.heap a ks) (hkey : knd.is k v = true) (hsc : v.scannable = true) (room : (addU ks k).length < scanBound)
    (hQ : ∀ b h', Heap.SameBut a s.heap h' → SetG knd h' a (addU ks k) → Q b { s with heap := h' }) :
    wpAny (model P w) A (setAddHashed a v (knd.hash k)) Q E s := by
  obtain ⟨o, es, ep, t, ps, ho, hex, hd, ee, g, pm0, nd, hb, hf, hr, hl⟩ := R
  have hel := setG_elems ee g
  unfold setAddHashed setAddHashedIn
  refine wpAny_holding (wpAny_bind (wpAny_setState_of ho hd hf ?_))
  dsimp only
  rw [byScan_of hsc hb hel]
  simp only [↓reduceIte]
  unfold setAddByScan
  refine wpAny_bind ?_
  refine wpAny_bind (wpAny_rule ?_)
  refine wpAny_bind (wpAny_setScan_of hkey ho hd hf hel ?_)
  cases hfi : List.findIdx? (fun e => knd.is k e.2) es.toList with
  | some j =>
    dsimp only
    obtain ⟨hj, pj, _⟩ := List.findIdx?_eq_some_iff_getElem.mp hfi
    have hm : es.toList[j] ∈ ps.map Prod.snd := by rw [ee]; exact List.getElem_mem hj
    obtain ⟨p, hp, ep'⟩ := List.mem_map.mp hm
    have ek : p.1 = k := knd.inj _ _ _ (g p hp).1 (by rw [ep']; exact pj)
    have hk : k ∈ ks := pm0.mem_iff.mp (List.mem_map.mpr ⟨p, hp, ek⟩)
    have eu : addU ks k = ks := if_pos hk
    refine wpAny_pure (wpAny_pure ?_)
    have q := hQ false s.heap (Heap.SameBut.refl a s.heap) (by rw [eu]; exact ⟨o, es, ep, t, ps, ho, hex, hd, ee, g, pm0, nd, hb, hf, hr, hl⟩)
    exact q
  | none =>
    dsimp only
    have hnk : k ∉ ks := fun z => by
      obtain ⟨p, hp, ek⟩ := List.mem_map.mp (pm0.mem_iff.mpr z)
      have c := List.findIdx?_eq_none_iff.mp hfi p.2 (by rw [← ee]; exact List.mem_map_of_mem hp)
      rw [← ek, (g p hp).1] at c
      cases c
    have eu : addU ks k = ks ++ [k] := if_neg hnk
    have hgw : ∀ (b : Bool) {s₁ : Shared} {Q' : Unit → Shared → Prop}, Q' () s₁ → wpAny (model P w) A (match b with | true => rule "set.scan.the-table-gave-way" | false => pure ()) Q' E s₁ :=
      fun b s₁ Q' q => by cases b <;> first | exact wpAny_pure q | exact wpAny_rule q
    have pm := layNew_perm t es (knd.hash k) v
    have hf1 := layNew_fits t es (knd.hash k) v
    have hr1 := layNew_ris t es (knd.hash k) v hr
    have hl1 := layNew_led t es (knd.hash k) v
    generalize layNew t es (knd.hash k) v = Z at pm hf1 hr1 hl1 ⊢
    obtain ⟨es1, t1, wasDummy, gave⟩ := Z
    dsimp only at pm hf1 hr1 hl1 ⊢
    rw [Array.toList_push, ← ee] at pm
    obtain ⟨ps1, pp, e1⟩ := perm_lift Prod.snd pm (ps ++ [(k, (knd.hash k, v))]) (by rw [List.map_append, List.map_singleton])
    have g1 : ∀ p ∈ ps1, knd.is p.1 p.2.2 = true ∧ p.2.1 = knd.hash p.1 ∧ p.2.2.scannable = true := fun p hp => by
      rcases List.mem_append.mp (pp.mem_iff.mp hp) with z | z
      · exact g p z
      · rw [List.mem_singleton] at z
        rw [z]; exact ⟨hkey, rfl, hsc⟩
    have pf : (ps1.map Prod.fst).Perm (addU ks k) := by
      have := pp.map Prod.fst
      rw [List.map_append, List.map_singleton] at this
      rw [eu]
      exact this.trans (pm0.append_right _)
    have hsz : es1.size = (addU ks k).length := setG_len e1 pf
    have hb1 : es1.size < scanBound := by rw [hsz]; exact room
    have hled : w.params.followText "set-order" = true ∨ t1.led = true := hl.imp id fun z => by rw [hl1]; exact z
    refine wpAny_bind (hgw _ ?_)
    split
    · refine wpAny_bind ?_
      rw [hashByValue_scannable 8 hsc]
      refine wpAny_pure ?_
      refine setG_tail ?_ ho hex hd e1 g1 pf (addU_nodup nd) hb1 ?_ ?_ ?_ ?_
      · intro b s₁ Q' q; cases b <;> first | exact wpAny_pure q | exact wpAny_rule q
      · first | (split <;> first | exact hf1 | exact SetTable.fits_plain_off hf1) | exact hf1
      · first | (split <;> exact hr1) | exact hr1
      · first | (split <;> exact hled) | exact hled
      · intro h' sb r; dsimp only; exact wpAny_pure (hQ true h' sb r)
    · refine wpAny_bind (wpAny_pure ?_)
      simp only [↓reduceIte]
      refine setG_tail ?_ ho hex hd e1 g1 pf (addU_nodup nd) hb1 hf1 hr1 hled ?_
      · intro b s₁ Q' q; cases b <;> first | exact wpAny_pure q | exact wpAny_rule q
      · intro h' sb r; dsimp only; exact wpAny_pure (hQ true h' sb r)
end
section
variable {prog : Program} {w : World} {κ : Type} [DecidableEq κ] {knd : PySem.KeyKind prog w κ} {A : Around} {R : Result → Shared → Prop} {I : Addr} {fp wr : List Addr} {G : Array GenState → Array GenState → Prop} {n : Nat} {Pv : Nat → Value → Prop} {St : Nat → Shared → Prop}
theorem setG_loop (W : WalksS prog w A.in1 I fp wr G n Pv St) (S : Addr) (hSf : S ∉ fp) (xs : List κ) (hsz : xs.length = n)
    (hval : ∀ (i : Nat) (v : Value), Pv i v → ∃ k, xs[i]? = some k ∧ knd.is k v = true ∧ v.scannable = true) :
    ∀ (r : List κ) (i : Nat) (ks : List κ) (s : Shared), r = xs.drop i → i ≤ n → St i s → (r.foldl addU ks).length < scanBound →
      SetG knd s.heap S ks →
      (∀ s', Moved (S :: wr) G s s' → SetG knd s'.heap S (r.foldl addU ks) → R (.ok (.ret .none)) s') →
      codeAny (model prog w) A (.builtin "set.update.loop" ⟨[.ref S, .ref I], []⟩) R s := by
  have hSw : S ∉ wr := fun h => hSf (W.sub _ h)
  have hsub : ∀ b ∈ wr, b ∈ S :: wr := fun b hb => List.mem_cons_of_mem _ hb
  intro r
  induction r with
  | nil =>
    intro i ks s hr hi hst hb hS hR
    have hin : i = n := by
      have := congrArg List.length hr
      rw [List.length_nil, List.length_drop] at this
      omega
    subst hin
    refine codeAny_builtin PyProof.Rows.F.entry_set_update_loop ?_
    rw [Around.under_plainId PyProof.Rows.F.plain_set_update_loop _]
    show wpAny _ A.in1 (pyNext (.ref I) >>= _) _ _ s
    refine wpAny_bind (W.done s _ _ hst fun s' hm => ?_)
    show wpAny _ A.in1 (ret Value.none) _ _ s'
    exact wpAny_pure (hR s' (hm.mono hsub) (hS.at fun o e => hm.heap S o hSw e))
  | cons k0 r ih =>
    intro i ks s hr hi hst hb hS hR
    have hlt : i < n := by
      have := congrArg List.length hr
      rw [List.length_cons, List.length_drop] at this
      omega
    have hk0 : xs[i]? = some k0 := by
      have := congrArg (fun l => l[0]?) hr
      simpa using this.symm
    have hr' : r = xs.drop (i + 1) := by
      have := congrArg (fun l => l.drop 1) hr
      rw [List.drop_drop] at this
      simpa [Nat.add_comm] using this
    refine codeAny_builtin PyProof.Rows.F.entry_set_update_loop ?_
    rw [Around.under_plainId PyProof.Rows.F.plain_set_update_loop _]
    show wpAny _ A.in1 (pyNext (.ref I) >>= _) _ _ s
    refine wpAny_bind (W.item i s _ _ hlt hst fun v s' hP hst' hm => ?_)
    obtain ⟨k, hk, hkey, hsc⟩ := hval i v hP
    rw [hk0] at hk
    cases hk
    have hS' : SetG knd s'.heap S ks := hS.at fun o e => hm.heap S o hSw e
    show wpAny _ A.in1 (holding [v] (setAdd S v) >>= _) _ _ s'
    refine wpAny_bind (wpAny_holding ?_)
    unfold setAdd
    refine wpAny_holding ?_
    refine wpAny_bind (knd.pyHash hkey ?_)
    refine setG_add (s := { s' with toks := s'.toks + 1 }) hS' hkey hsc (Nat.lt_of_le_of_lt foldU_len hb) fun b h' hsb hS2 => ?_
    refine wpAny_pure ⟨plainId_quiet PyProof.Rows.F.plain_set_update_loop _, ih (i + 1) _ _ hr' hlt (W.frame _ s' _ _ hst' (Nat.le_succ _) fun b hb o e => ?_) hb hS2 fun s'' hm'' hS'' => ?_⟩
    · rw [hsb.2 b (fun h : b = S => hSf (by rw [← h]; exact hb))]; exact e
    · refine hR s'' (Moved.trans W.gtrans ((hm.mono hsub).then_heap (Nat.le_succ _) fun b o hb e => ?_) hm'') hS''
      rw [hsb.2 b (fun h : b = S => hb (by rw [h]; exact List.mem_cons_self))]; exact e
end
section
variable {prog : Program} {w : World} {κ : Type} [DecidableEq κ] {knd : PySem.KeyKind prog w κ} {A : Around} {E : Value → Shared → Prop} {s : Shared}
theorem code_setNew1 (a : Value) {Q₁ : Value → Shared → Prop}
    (h : Q₁ (.ref s.heap.objs.size) { s with heap := s.heap.push { cls := .type "set", dict := none, data := .set #[] 0 (.fresh 0 0 (!w.params.followText "set-order")) } }) :
    codeAny (model prog w) A (.call (.builtin "set.__new__") ⟨[.type "set", a], []⟩) (wants Q₁ E) s := by
  refine codeAny_of_tree ?_
  show wpAny _ A.in1 (do checkBuiltinCall "set.__new__" ⟨[.type "set", a], []⟩; again (.builtin "set.__new__" ⟨[.type "set", a], []⟩)) _ _ s
  refine wpAny_bind (wpAny_of_eq (PySem.F.newCall_set_1 a) (wpAny_pure ⟨plainId_quiet PySem.F.plain_set_new _, codeAny_builtin PySem.F.entry_set_new ?_⟩))
  rw [Around.under_plainId PySem.F.plain_set_new _]
  unfold Builtin.«set.__new__» Builtin.Frozenset.newClass
  have hsub := sub_set_self
  obtain ⟨hp, g, d, tk, os⟩ := s
  dsimp only
  wp_walk
  refine wpAny_askSetting (wpAny_pure ?_)
  dsimp only
  simp only [newObj]
  refine wpAny_bind (wpAny_alloc (wpAny_pure ?_))
  exact wpAny_pure h
theorem setG_fresh {h : Heap} : SetG knd (h.push { cls := .type "set", dict := none, data := .set #[] 0 (.fresh 0 0 (!w.params.followText "set-order")) }) h.objs.size [] :=
  ⟨_, #[], 0, _, [], Heap.get?_push_size _ rfl, ⟨rfl, rfl, rfl⟩, rfl, rfl, (fun p hp => by simp at hp), .refl _, List.nodup_nil, (by decide), (by rfl), List.Pairwise.nil, by
    show _ ∨ (!w.params.followText "set-order") = true
    cases w.params.followText "set-order"
    · exact .inr rfl
    · exact .inl rfl⟩
set_option maxHeartbeats 3200000 in
theorem call_setG_seq {T : String} {dd : Option Addr} {nl : Nat} {sl : Array (Option Value)} {itO : Obj} {l : Addr} {items : Array Value} {xs : List κ} {Q : Value → Shared → Prop}
    (hh : A.handled = none) (hsls : isSubtype (.type T) (.type "set") = pure false) (hslf : isSubtype (.type T) (.type "frozenset") = pure false) (hne : (Value.type T == Value.type "dict") = false) (hol : s.heap.get? l = some { cls := .type T, dict := dd, data := .seq items nl, slots := sl })
    (hit : ∀ (A' : Around) (s' : Shared) (Q' : Value → Shared → Prop) (E' : Value → Shared → Prop), s'.heap.get? l = some { cls := .type T, dict := dd, data := .seq items nl, slots := sl } → Q' (.ref s'.heap.objs.size) { s' with heap := s'.heap.push itO } → wpAny (model prog w) A' (pyIter (.ref l)) Q' E' s')
    (hfr : itO.isFreed = false)
    (hW : ∀ (A' : Around) (I : Addr), A'.handled = none → l ≠ I → ∃ St : Nat → Heap → Prop, Walks prog w A' I [I, l] [I] items.size (fun i v => items[i]? = some v) St ∧ ∀ h : Heap, h.get? I = some itO → h.get? l = some { cls := .type T, dict := dd, data := .seq items nl, slots := sl } → St 0 h) (hsz : xs.length = items.size) (hval : ∀ (i : Nat) (v : Value), items[i]? = some v → ∃ k, xs[i]? = some k ∧ knd.is k v = true ∧ v.scannable = true) (hb : (ddU xs).length < scanBound)
    (h : ∀ (h' : Heap) (tk : Nat), SetG knd h' s.heap.objs.size (ddU xs) →
      (∀ b o, b < s.heap.objs.size → s.heap.get? b = some o → h'.get? b = some o) → Q (.ref s.heap.objs.size) { s with heap := h', toks := tk }) :
    wpAny (model prog w) A (call (.type "set") [.ref l]) Q E s := by
  obtain ⟨c, tl, hmro⟩ := PySem.F.called_set.mro
  have hmade := PySem.F.called_set.made
  have hsub := PySem.F.called_set.sub
  refine wpAny_call (codeAny_of_tree ?_)
  show wpAny _ _ (callAny (.type "set") _) _ _ _
  refine wpAny_pure ⟨Code.quiet_builtin _ (by decide +kernel), codeAny_builtin PySem.F.entry_type_call ?_⟩
  rw [Around.under_plain (weight_type_call_type "set" [.ref l] []) rfl]
  have h1 := PySem.F.called_set.notType
  have h2 := PySem.F.called_set.canCreate
  have hct := PySem.F.typeCall_set_1 (.ref l)
  repeat (any_goals (first | assumption | wp_step))
  refine codeAny_mono (code_setNew1 (.ref l) (E := E) (Q₁ := fun obj s₁ => obj = .ref s.heap.objs.size ∧ s₁ = { s with heap := s.heap.push { cls := .type "set", dict := none, data := .set #[] 0 (.fresh 0 0 (!w.params.followText "set-order")) } }) ⟨rfl, rfl⟩) fun r s₁ hr => ?_
  cases r with
  | error e => exact hr
  | ok fl =>
    cases fl with
    | ret obj =>
      obtain ⟨rfl, rfl⟩ := hr
      generalize hled : (!w.params.followText "set-order") = led
      have hS0 : SetG knd (s.heap.push { cls := .type "set", dict := none, data := .set #[] 0 (.fresh 0 0 led) }) s.heap.objs.size [] := by rw [← hled]; exact setG_fresh
      have hS : (s.heap.push { cls := .type "set", dict := none, data := .set #[] 0 (.fresh 0 0 led) }).get? s.heap.objs.size = some { cls := .type "set", dict := none, data := .set #[] 0 (.fresh 0 0 led) } := Heap.get?_push_size _ rfl
      have hT : Shared.TypeIs { s with heap := s.heap.push { cls := .type "set", dict := none, data := .set #[] 0 (.fresh 0 0 led) } } (.ref s.heap.objs.size) "set" := ⟨_, hS, rfl⟩
      have hli := PySem.F.called_set.init.lookup
      have hbi := PySem.F.called_set.init.bind (.ref s.heap.objs.size)
      repeat (any_goals (first | assumption | wp_step))
      refine codeAny_mono (codeAny_call_builtin (R := wants (fun r s₂ => r = .none ∧ ∃ h' tk, s₂ = { s with heap := h', toks := tk } ∧
          SetG knd h' s.heap.objs.size (ddU xs) ∧
          (∀ b o, b < s.heap.objs.size → s.heap.get? b = some o → h'.get? b = some o)) E) PySem.F.called_set.init.plain PySem.F.entry_set_init (check_set_init_1 hT ?_)) fun r₂ s₂ hr₂ => ?_
      · have hol' : (s.heap.push { cls := .type "set", dict := none, data := .set #[] 0 (.fresh 0 0 led) }).get? l = some { cls := .type T, dict := dd, data := .seq items nl, slots := sl } := Heap.get?_push_of_some _ hol
        unfold Builtin.«set.__init__» noKeywords Builtin.Frozenset.updateFrom
        generalize hPI : pyIter = PI
        wp_walk
        subst hPI
        refine hit _ _ _ _ hol' ?_
        refine wpAny_bind (wpAny_runValue ?_)
        have hlS : l < s.heap.objs.size := Heap.lt_size hol
        have hh3 : A.in1.in1.in1.handled = none := by simp [hh]
        have hneI : l ≠ (s.heap.push { cls := .type "set", dict := none, data := .set #[] 0 (.fresh 0 0 led) }).objs.size := by
          rw [Heap.size_push]; exact Nat.ne_of_lt (Nat.lt_succ_of_lt hlS)
        have hSf : s.heap.objs.size ∉ [(s.heap.push { cls := .type "set", dict := none, data := .set #[] 0 (.fresh 0 0 led) }).objs.size, l] := by
          rw [Heap.size_push]; simp only [List.mem_cons, List.mem_singleton, List.not_mem_nil, or_false, not_or]
          exact ⟨Nat.ne_of_lt (Nat.lt_succ_self _), Nat.ne_of_gt hlS⟩
        obtain ⟨St, W, W0⟩ := hW _ _ hh3 hneI
        refine setG_loop W.toS s.heap.objs.size
          hSf xs hsz hval xs 0 [] _ rfl (Nat.zero_le _)
          (W0 _ (Heap.get?_push_size _ hfr) (Heap.get?_push_of_some _ hol')) hb ?hS0 ?hR
        case hS0 => exact hS0.at fun o e => Heap.get?_push_of_some _ e
        case hR =>
          intro s' hm hS'
          obtain ⟨h', g', d', tk', os'⟩ := s'
          have eg : g' = s.gens := hm.gens
          have ed : d' = s.drawn := hm.drawn
          have eo : os' = s.os := hm.os
          subst eg; subst ed; subst eo
          show wpAny _ _ _ _ _ _
          refine wpAny_pure ?_
          show wpAny _ _ (ret Value.none) _ _ _
          refine wpAny_pure ⟨rfl, h', tk', rfl, hS', fun b o hb e => ?_⟩
          have hb1 : b ≠ s.heap.objs.size := Nat.ne_of_lt hb
          have hb2 : b ≠ (s.heap.push { cls := .type "set", dict := none, data := .set #[] 0 (.fresh 0 0 led) }).objs.size := by
            rw [Heap.size_push]; exact Nat.ne_of_lt (Nat.lt_succ_of_lt hb)
          exact hm.heap b o (by simp only [List.mem_cons, List.mem_singleton, List.not_mem_nil, or_false, not_or]; exact ⟨hb1, hb2⟩) (Heap.get?_push_of_some _ (Heap.get?_push_of_some _ e))
      · cases r₂ with
        | error e => exact hr₂
        | ok fl₂ =>
          cases fl₂ with
          | ret r =>
            obtain ⟨rfl, h', tk, rfl, hS', hk'⟩ := hr₂
            repeat (any_goals (first | assumption | wp_step))
            exact h _ _ hS' hk'
          | _ => exact hr₂.elim
    | _ => exact hr.elim
theorem call_setG_list {l : Addr} {items : Array Value} {xs : List κ} {Q : Value → Shared → Prop}
    (hh : A.handled = none) (hl : s.heap.IsList l items) (hsz : xs.length = items.size) (hval : ∀ (i : Nat) (v : Value), items[i]? = some v → ∃ k, xs[i]? = some k ∧ knd.is k v = true ∧ v.scannable = true) (hb : (ddU xs).length < scanBound)
    (h : ∀ (h' : Heap) (tk : Nat), SetG knd h' s.heap.objs.size (ddU xs) →
      (∀ b o, b < s.heap.objs.size → s.heap.get? b = some o → h'.get? b = some o) → Q (.ref s.heap.objs.size) { s with heap := h', toks := tk }) :
    wpAny (model prog w) A (call (.type "set") [.ref l]) Q E s := by
  obtain ⟨⟨ocls, odict, odata, oslots⟩, hol, hcl, nl, hdl⟩ := hl
  simp only at hcl hdl
  subst hcl; subst hdl
  exact call_setG_seq (itO := { cls := .type "list_iterator", data := .fields #[.ref l, .int 0 0] }) hh PySem.F.sub_list_set PySem.F.sub_list_frozenset (by decide) hol (fun A' s' Q' E' e q => wpAny_pyIter_list ⟨_, e, rfl, nl, rfl⟩ q) rfl
    (fun A' I a b => ⟨_, Walks.list a I l b items, fun h e1 e2 => ⟨⟨_, e1, rfl, rfl⟩, ⟨_, e2, rfl, nl, rfl⟩⟩⟩) hsz hval hb h
theorem call_setG_tuple {l : Addr} {items : Array Value} {xs : List κ} {Q : Value → Shared → Prop}
    (hh : A.handled = none) (hl : s.heap.IsTuple l items) (hsz : xs.length = items.size) (hval : ∀ (i : Nat) (v : Value), items[i]? = some v → ∃ k, xs[i]? = some k ∧ knd.is k v = true ∧ v.scannable = true) (hb : (ddU xs).length < scanBound)
    (h : ∀ (h' : Heap) (tk : Nat), SetG knd h' s.heap.objs.size (ddU xs) →
      (∀ b o, b < s.heap.objs.size → s.heap.get? b = some o → h'.get? b = some o) → Q (.ref s.heap.objs.size) { s with heap := h', toks := tk }) :
    wpAny (model prog w) A (call (.type "set") [.ref l]) Q E s := by
  obtain ⟨⟨ocls, odict, odata, oslots⟩, hol, hcl, nl, hdl⟩ := hl
  simp only at hcl hdl
  subst hcl; subst hdl
  exact call_setG_seq (itO := { cls := .type "tuple_iterator", data := .fields #[.ref l, .int 0 0] }) hh PySem.F.sub_tuple_set PySem.F.sub_tuple_frozenset (by decide) hol (fun A' s' Q' E' e q => wpAny_pyIter_tuple ⟨_, e, rfl, nl, rfl⟩ q) rfl
    (fun A' I a b => ⟨_, Walks.tuple a I l b items, fun h e1 e2 => ⟨⟨_, e1, rfl, rfl⟩, ⟨_, e2, rfl, nl, rfl⟩⟩⟩) hsz hval hb h
end
end CL

set_option Elab.async false
set_option linter.all false
set_option maxRecDepth 100000
set_option maxHeartbeats 1000000
/-! CL31: len(set(xs)), sorted(set(xs)) -/
namespace CL
open PySem PySem.Spec PyProof.Rows L2
theorem foldU_map {κ μ : Type} [DecidableEq κ] [DecidableEq μ] {f : κ → μ} (inj : ∀ a b, f a = f b → a = b) : ∀ (xs ks : List κ), (xs.map f).foldl addU (ks.map f) = (xs.foldl addU ks).map f
  | [], ks => rfl
  | x :: xs, ks => by
    have e : addU (ks.map f) (f x) = (addU ks x).map f := by
      unfold addU
      by_cases h : x ∈ ks
      · rw [if_pos h, if_pos (List.mem_map_of_mem h)]
      · rw [if_neg h, if_neg (fun z => by
          obtain ⟨y, hy, e⟩ := List.mem_map.mp z
          exact h (inj _ _ e ▸ hy)), List.map_append, List.map_singleton]
    rw [List.map_cons, List.foldl_cons, List.foldl_cons, e, foldU_map inj xs (addU ks x)]
theorem ddU_map {κ μ : Type} [DecidableEq κ] [DecidableEq μ] {f : κ → μ} (inj : ∀ a b, f a = f b → a = b) (xs : List κ) : ddU (xs.map f) = (ddU xs).map f := foldU_map inj xs []
section
variable {P : Program} {w : World} {A : Around} {E : Value → Shared → Prop} {s : Shared} {a : Addr}
/-- the members, gathered, with their keys -/
theorem setG_collect {κ : Type} [DecidableEq κ] {knd : PySem.KeyKind P w κ} {ks : List κ} {Q : List Value → Shared → Prop} (R : SetG knd s.heap a ks) (hh : A.handled = none)
    (hQ : ∀ (s' : Shared) (ps : List (κ × (Int × Value))), (∀ b o, s.heap.get? b = some o → s'.heap.get? b = some o) → s.heap.objs.size ≤ s'.heap.objs.size → s'.gens = s.gens → s'.os = s.os →
      (ps.map Prod.fst).Perm ks → (∀ p ∈ ps, knd.is p.1 p.2.2 = true) → ps.length ≤ sizeLine → Q (ps.map fun p => p.2.2) s') : wpAny (model P w) A (collect (.ref a)) Q E s := by
  obtain ⟨o, es, ep, t, ps, ho, hex, hd, ee, g, pm0, nd, hb, hf, hr, hl⟩ := R
  refine collect_set hh ⟨o, ho, hex.1, hd⟩ hf hb hr hl fun s1 vs k1 hz g1 o1 pm => ?_
  rw [← ee, List.map_map] at pm
  obtain ⟨ps', pp, ev⟩ := perm_lift (fun p : κ × (Int × Value) => p.2.2) pm ps rfl
  have h := hQ s1 ps' k1 hz g1 o1 ((pp.map Prod.fst).trans pm0) (fun p hp => (g p (pp.mem_iff.mp hp)).1) (by
    rw [pp.length_eq]
    have : ps.length = es.size := by rw [← Array.length_toList, ← ee, List.length_map]
    rw [this]; exact fits_of_scanBound hb)
  rw [ev] at h
  exact h
theorem keyS_shape {x : Str} {v : Value} (h : (mixKind P w).is (Sum.inr x) v = true) : ∃ t, v = .str x t := by
  rcases keyIs_shape (show keyIs (Sum.inr x) v = true from h) with ⟨i, t, e, e2⟩ | ⟨y, t, e, e2⟩
  · cases e
  · cases e; exact ⟨t, e2⟩
theorem keyI_shape {i : Int} {v : Value} (h : (mixKind P w).is (Sum.inl i) v = true) : ∃ t, v = .int i t := by
  rcases keyIs_shape (show keyIs (Sum.inl i) v = true from h) with ⟨j, t, e, e2⟩ | ⟨y, t, e, e2⟩
  · cases e; exact ⟨t, e2⟩
  · cases e
theorem strs_keys : ∀ {ps : List (Key × (Int × Value))}, (∀ p ∈ ps, (∃ x, p.1 = Sum.inr x) ∧ (mixKind P w).is p.1 p.2.2 = true) → ∃ ys : List Str, ps.map Prod.fst = ys.map Sum.inr ∧ StrsAre (ps.map fun p => p.2.2) ys
  | [], _ => ⟨[], rfl, .nil⟩
  | p :: ps, h => by
    obtain ⟨⟨x, e⟩, q⟩ := h p List.mem_cons_self
    rw [e] at q
    obtain ⟨t, et⟩ := keyS_shape q
    obtain ⟨ys, e1, e2⟩ := strs_keys fun p hp => h p (List.mem_cons_of_mem _ hp)
    exact ⟨x :: ys, by rw [List.map_cons, List.map_cons, e, e1], by rw [List.map_cons, et]; exact .cons x t e2⟩
theorem ints_keys : ∀ {ps : List (Key × (Int × Value))}, (∀ p ∈ ps, (∃ x, p.1 = Sum.inl x) ∧ (mixKind P w).is p.1 p.2.2 = true) → ∃ ys : List Int, ps.map Prod.fst = ys.map Sum.inl ∧ IntsAre (ps.map fun p => p.2.2) ys
  | [], _ => ⟨[], rfl, .nil⟩
  | p :: ps, h => by
    obtain ⟨⟨x, e⟩, q⟩ := h p List.mem_cons_self
    rw [e] at q
    obtain ⟨t, et⟩ := keyI_shape q
    obtain ⟨ys, e1, e2⟩ := ints_keys fun p hp => h p (List.mem_cons_of_mem _ hp)
    exact ⟨x :: ys, by rw [List.map_cons, List.map_cons, e, e1], by rw [List.map_cons, et]; exact .cons x t e2⟩
theorem perm_of_map {α β : Type} {f : α → β} (g : β → Option α) (hg : ∀ a, g (f a) = some a) {l m : List α} (p : (l.map f).Perm (m.map f)) : l.Perm m := by
  have q := p.filterMap g
  have e : ∀ l : List α, (l.map f).filterMap g = l := fun l => by
    induction l with
    | nil => rfl
    | cons x r ih => rw [List.map_cons, List.filterMap_cons, hg, ih]
  rwa [e, e] at q
abbrev SortEnd (s : Shared) (Q : Value → Shared → Prop) (out : Array Value) : Prop :=
  ∀ (s' : Shared) (p : Addr) (c : Nat), (∀ b o, s.heap.get? b = some o → s'.heap.get? b = some o) → s'.gens = s.gens → s'.os = s.os → s.heap.objs.size ≤ p → s'.heap.get? p = some (seqObj "list" out c) → Q (.ref p) s'
theorem sortedG_str {ss : List Str} {Q : Value → Shared → Prop} (R : SetG (mixKind P w) s.heap a (ss.map Sum.inr)) (hh : A.handled = none)
    (hQ : ∀ (out : Array Value) (ys : List Str), StrsAre out.toList ys → ys.Perm ss → sortedS ys = true → SortEnd s Q out) :
    wpAny (model P w) A (call (.builtin "sorted") [.ref a]) Q E s := by
  refine Calls.call_function_entry kind_sorted plain_sorted entry_sorted (args_sorted1 _) ?_
  unfold Builtin.«sorted»
  refine wpAny_bind (m := checkCount "sorted" 1 1 _) (wpAny_pure ?_)
  refine wpAny_bind (setG_collect (A := A.in1) R hh fun s1 ps k1 hz g1 o1 pm hi hsz => ?_)
  obtain ⟨ys, e1, hS⟩ := strs_keys fun p hp => ⟨by
    have := pm.mem_iff.mp (List.mem_map_of_mem (f := Prod.fst) hp)
    obtain ⟨x, _, e⟩ := List.mem_map.mp this
    exact ⟨x, e.symm⟩, hi p hp⟩
  have py : ys.Perm ss := by
    rw [e1] at pm
    exact perm_of_map (fun k : Key => match k with | .inr x => some x | .inl _ => none) (fun _ => rfl) pm
  generalize hvs : (ps.map fun p => p.2.2) = vs at hS ⊢
  have hvl : vs.length ≤ sizeLine := by rw [← hvs, List.length_map]; exact hsz
  refine wpAny_bind (wpAny_newList ?_ hvl)
  have hoL : (s1.heap.push (seqObj "list" vs.toArray 0)).get? s1.heap.objs.size = some (seqObj "list" vs.toArray 0) := Heap.get?_push_size _ rfl
  refine wpAny_bind (wpAny_holding (wpAny_call_entry slot_list_sort ⟨_, hoL, rfl⟩ entry_list_sort (list_sort_treeKAny strKind_oneLt hoL hS.keysOf (fun v₁ v₂ rest e => keyKind_strs (by rw [← e]; exact hS)) hvl fun st' hp hs => ⟨_, rfl, ?_⟩) (args_list_sort _)))
  obtain ⟨zs, b1, b2, b3⟩ := sorted_out_str hS hp hs
  obtain ⟨c, hc⟩ := sortedHeap_at (vs := vs) (out := (arrOf st').map (·.2)) hoL
  refine wpAny_pure ⟨_, rfl, hQ _ zs b1 (b2.trans py) b3 _ s1.heap.objs.size c (fun b u e => ?_) g1 o1 hz hc⟩
  have q := k1 b u e
  have hlt := Heap.lt_size q
  show (sortedHeap (s1.heap.push (seqObj "list" vs.toArray 0)) s1.heap.objs.size vs _).get? b = some u
  rw [sortedHeap_old (Nat.ne_of_lt hlt) (by rw [size_push']; exact Nat.lt_succ_of_lt hlt)]
  exact Heap.get?_push_of_some _ q
theorem sortedG_int {ss : List Int} {Q : Value → Shared → Prop} (R : SetG (mixKind P w) s.heap a (ss.map Sum.inl)) (hh : A.handled = none)
    (hQ : ∀ (out : Array Value) (ys : List Int), IntsAre out.toList ys → ys.Perm ss → ys.Pairwise (· ≤ ·) → SortEnd s Q out) :
    wpAny (model P w) A (call (.builtin "sorted") [.ref a]) Q E s := by
  refine Calls.call_function_entry kind_sorted plain_sorted entry_sorted (args_sorted1 _) ?_
  unfold Builtin.«sorted»
  refine wpAny_bind (m := checkCount "sorted" 1 1 _) (wpAny_pure ?_)
  refine wpAny_bind (setG_collect (A := A.in1) R hh fun s1 ps k1 hz g1 o1 pm hi hsz => ?_)
  obtain ⟨ys, e1, hS⟩ := ints_keys fun p hp => ⟨by
    have := pm.mem_iff.mp (List.mem_map_of_mem (f := Prod.fst) hp)
    obtain ⟨x, _, e⟩ := List.mem_map.mp this
    exact ⟨x, e.symm⟩, hi p hp⟩
  have py : ys.Perm ss := by
    rw [e1] at pm
    exact perm_of_map (fun k : Key => match k with | .inl x => some x | .inr _ => none) (fun _ => rfl) pm
  generalize hvs : (ps.map fun p => p.2.2) = vs at hS ⊢
  have hvl : vs.length ≤ sizeLine := by rw [← hvs, List.length_map]; exact hsz
  refine wpAny_bind (wpAny_newList ?_ hvl)
  have hoL : (s1.heap.push (seqObj "list" vs.toArray 0)).get? s1.heap.objs.size = some (seqObj "list" vs.toArray 0) := Heap.get?_push_size _ rfl
  refine wpAny_bind (wpAny_holding (wpAny_call_entry slot_list_sort ⟨_, hoL, rfl⟩ entry_list_sort (list_sort_treeAny hoL hS hvl fun out zs b1 b2 b3 => ⟨_, rfl, ?_⟩) (args_list_sort _)))
  obtain ⟨c, hc⟩ := sortedHeap_at (vs := vs) (out := out) hoL
  refine wpAny_pure ⟨_, rfl, hQ _ zs b1 (b2.trans py) b3 _ s1.heap.objs.size c (fun b u e => ?_) g1 o1 hz hc⟩
  have q := k1 b u e
  have hlt := Heap.lt_size q
  show (sortedHeap (s1.heap.push (seqObj "list" vs.toArray 0)) s1.heap.objs.size vs _).get? b = some u
  rw [sortedHeap_old (Nat.ne_of_lt hlt) (by rw [size_push']; exact Nat.lt_succ_of_lt hlt)]
  exact Heap.get?_push_of_some _ q
end
/-! ### as calls -/
def SetGO (P : Program) (w : World) (a : Addr) (ks : List Key) : HO := .ext fun h => SetG (mixKind P w) h a ks
section
variable {X : Cx}
theorem setGO_new {w : World} {P : Program} {H : Hp} {h : Heap} {a : Addr} {ks : List Key} (R : SetG (mixKind P w) h a ks) : ObjOk P w H h a (SetGO P w a ks) :=
  ⟨R, R.there, fun h1 h2 p k => SetG.at p k⟩
theorem setGO_get {pins : List (Addr × Obj)} {σ : L2.St} {H : Hp} {s : Shared} {a : Addr} {ks : List Key} (I : Inv X pins σ H s) (ha : H a = some (SetGO X.prog X.w a ks)) : SetG (mixKind X.prog X.w) s.heap a ks := (I.hok a _ ha).1
def rSetG (K : Fg) (P : Program) (w : World) : List V → Hp → VK → Prop := fun xs H Q => ∃ (l : Addr) (ks : List Key), xs = [V.ref l] ∧ (SqL K H l (ks.map kV) ∨ SqT K H l (ks.map kV)) ∧ (ddU ks).length < scanBound ∧
  ∀ p, H p = none → Q (.ref p) (upd H p (SetGO P w p (ddU ks)))
theorem keys_at {P : Program} {w : World} : ∀ {ks : List Key} {us : List Value}, Vals (ks.map kV) us → ∀ (i : Nat) (v : Value), us[i]? = some v → ∃ k, ks[i]? = some k ∧ (mixKind P w).is k v = true ∧ v.scannable = true
  | [], _, .nil, i, v, h => by simp at h
  | k :: ks, _, .cons r t, 0, v, h => by
    simp at h; subst h
    exact ⟨k, rfl, kV_is r, key_scan r⟩
  | k :: ks, _, .cons r t, i + 1, v, h => by
    simp only [List.getElem?_cons_succ] at h ⊢
    exact keys_at t i v h
theorem cr_setG (hc : X.calm = true) : CallR X (.type "set") (rSetG X.K X.prog X.w) := by
  intro pins s σ H xs us Q I r h
  obtain ⟨l, ks, rfl, hq, hb, q⟩ := h
  rw [Vals.ref1 r]
  have fin : ∀ (h' : Heap) (tk : Nat), SetG (mixKind X.prog X.w) h' s.heap.objs.size (ddU ks) → (∀ b o, b < s.heap.objs.size → s.heap.get? b = some o → h'.get? b = some o) →
      EP X pins σ Q (.ref s.heap.objs.size) { s with heap := h', toks := tk } := fun h' tk hS hk =>
    ⟨.ref _, upd H s.heap.objs.size (SetGO X.prog X.w s.heap.objs.size (ddU ks)), I.laid (t' := tk) (fun b u e => hk b u (Heap.lt_size e) e) (Nat.le_refl _) (setGO_new hS), rfl, q _ (I.hok.fresh (Nat.le_refl _))⟩
  rcases hq with hq | hq
  · obtain ⟨its, rv, pl, hz⟩ := I.list hq
    exact call_setG_list (knd := mixKind X.prog X.w) (I.ok.hd hc) pl.isList (by rw [List.size_toArray, ← rv.length, List.length_map]) (fun i v hv => keys_at rv i v (by simpa using hv)) hb fin
  · obtain ⟨its, rv, pl, hz⟩ := I.tuple hq
    exact call_setG_tuple (knd := mixKind X.prog X.w) (I.ok.hd hc) pl (by rw [List.size_toArray, ← rv.length, List.length_map]) (fun i v hv => keys_at rv i v (by simpa using hv)) hb fin
def rLenG (P : Program) (w : World) : List V → Hp → VK → Prop := fun xs H Q => ∃ (a : Addr) (ks : List Key), xs = [V.ref a] ∧ H a = some (SetGO P w a ks) ∧ Q (.int ks.length) H
theorem cr_lenG : CallR X (.builtin "len") (rLenG X.prog X.w) := by
  intro pins s σ H xs us Q I r h
  obtain ⟨a, ks, rfl, ha, q⟩ := h
  rw [Vals.ref1 r]
  obtain ⟨o, es, ep, t, ps, ho, hex, hd, ee, g, pm0, nd, hb, hf, hr, hl⟩ := setGO_get I ha
  have hn : es.size = ks.length := setG_len ee pm0
  have hb' : es.size < 4096 := hb
  refine call_len_set ho hex hd hf (by omega) ⟨.int ks.length, H, I.tok _, ⟨_, by rw [hn]⟩, q⟩
def rSortG (P : Program) (w : World) : List V → Hp → VK → Prop := fun xs H Q => ∃ (a : Addr), xs = [V.ref a] ∧
  ((∃ ss : List Str, H a = some (SetGO P w a (ss.map Sum.inr)) ∧ ss.length ≤ sizeLine ∧ ∀ (ys : List Str) (p : Addr), ys.Perm ss → sortedS ys = true → H p = none → Q (.ref p) (upd H p (.lst (ys.map V.str)))) ∨
   (∃ ss : List Int, H a = some (SetGO P w a (ss.map Sum.inl)) ∧ ss.length ≤ sizeLine ∧ ∀ (ys : List Int) (p : Addr), ys.Perm ss → ys.Pairwise (· ≤ ·) → H p = none → Q (.ref p) (upd H p (.lst (ys.map V.int)))))
theorem sort_end {pins : List (Addr × Obj)} {σ : L2.St} {H : Hp} {s : Shared} {Q : VK} {out : Array Value} {ys : List V} (I : Inv X pins σ H s) (hl : ys.length ≤ sizeLine) (hv : Vals ys out.toList)
    (q : ∀ p : Addr, H p = none → Q (.ref p) (upd H p (.lst ys))) : SortEnd s (EP X pins σ Q) out := by
  intro s' p c k g o hp hg
  have hn : H p = none := I.hok.fresh hp
  have J : Inv X pins σ (upd H p (.lst ys)) { s with heap := s'.heap, gens := s'.gens, drawn := s'.drawn, toks := s'.toks } :=
    I.call (ch := []) (Un.laid k hp hn) (I.hok.laid k hp ⟨hl, out.toList, c, hv, hg⟩) (by rw [g]; exact I.bare) (fun _ z => nomatch z)
  have e : s' = { s with heap := s'.heap, gens := s'.gens, drawn := s'.drawn, toks := s'.toks } := by
    cases s'
    cases s
    cases o
    rfl
  rw [e]
  exact ⟨.ref p, _, J, rfl, q p hn⟩
theorem cr_sortG (hc : X.calm = true) : CallR X (.builtin "sorted") (rSortG X.prog X.w) := by
  intro pins s σ H xs us Q I r h
  obtain ⟨a, rfl, h⟩ := h
  rw [Vals.ref1 r]
  rcases h with ⟨ss, ha, hz, q⟩ | ⟨ss, ha, hz, q⟩
  · exact sortedG_str (setGO_get I ha) (I.ok.hd hc) fun out ys a1 a2 a3 => sort_end I (by rw [List.length_map, a2.length_eq]; exact hz) (vals_of_strs a1) fun p hp => q ys p a2 a3 hp
  · exact sortedG_int (setGO_get I ha) (I.ok.hd hc) fun out ys a1 a2 a3 => sort_end I (by rw [List.length_map, a2.length_eq]; exact hz) (vals_of_ints a1) fun p hp => q ys p a2 a3 hp
end
/-! ### clean readings -/
def asKeys : List Cv → Option (List Key)
  | [] => some []
  | w :: r => (keyC w).bind fun k => (asKeys r).map fun l => k :: l
theorem asKeys_ok {K : Fg} {Z : List Addr} {S : Sto} {H : Hp} : ∀ {ws : List Cv} {vs : List V} {ks : List Key}, Reps K Z S H ws vs → asKeys ws = some ks → vs = ks.map kV
  | [], _, _, .nil, e => by cases e; rfl
  | w :: ws, _, ks, .cons a r, e => by
    obtain ⟨k, e1, e⟩ := bind_some e
    obtain ⟨l, e2, e⟩ := map_some' e
    subst e
    rw [asKeys_ok r e2, keyC_rep e1 a]; rfl
theorem asKeys_strs : ∀ l : List Str, asKeys (l.map Cv.str) = some (l.map Sum.inr)
  | [] => rfl
  | x :: r => by rw [List.map_cons, asKeys, asKeys_strs r]; rfl
theorem asKeys_ints : ∀ l : List Int, asKeys (l.map Cv.int) = some (l.map Sum.inl)
  | [] => rfl
  | x :: r => by rw [List.map_cons, asKeys, asKeys_ints r]; rfl
theorem asInts_eq : ∀ {ws : List Cv} {ns : List Int}, asInts ws = some ns → ws = ns.map Cv.int
  | [], _, e => by cases e; rfl
  | w :: ws, ns, e => by
    cases w with
    | int x =>
      obtain ⟨l, e1, e2⟩ := map_some' (show (asInts ws).map (fun l => x :: l) = some ns from by unfold asInts at e; first | exact e | simpa using e)
      subst e2
      rw [asInts_eq e1]; rfl
    | _ => simp [asInts] at e
def insI (x : Int) : List Int → List Int
  | [] => [x]
  | y :: r => if x ≤ y then x :: y :: r else y :: insI x r
def sortI : List Int → List Int
  | [] => []
  | x :: r => insI x (sortI r)
theorem insI_perm (x : Int) : ∀ l, (insI x l).Perm (x :: l)
  | [] => .refl _
  | y :: r => by
    rw [insI]
    split
    · exact .refl _
    · exact ((insI_perm x r).cons y).trans (.swap x y r)
theorem sortI_perm : ∀ l, (sortI l).Perm l
  | [] => .refl _
  | x :: r => (insI_perm x _).trans ((sortI_perm r).cons x)
abbrev UpI (l : List Int) : Prop := l.Pairwise (· ≤ ·)
theorem insI_up (x : Int) : ∀ {l}, UpI l → UpI (insI x l)
  | [], _ => List.pairwise_singleton _ _
  | y :: r, h => by
    rw [insI]
    have h := List.pairwise_cons.mp h
    split
    · rename_i c
      refine List.pairwise_cons.mpr ⟨fun z hz => ?_, List.pairwise_cons.mpr h⟩
      rcases List.mem_cons.mp hz with e | e
      · rw [e]; exact c
      · have := h.1 z e; omega
    · rename_i c
      refine List.pairwise_cons.mpr ⟨fun z hz => ?_, insI_up x h.2⟩
      rcases List.mem_cons.mp ((insI_perm x r).mem_iff.mp hz) with e | e
      · rw [e]; omega
      · exact h.1 z e
theorem sortI_up : ∀ l, UpI (sortI l)
  | [] => List.Pairwise.nil
  | x :: r => insI_up x (sortI_up r)
theorem upI_uniq : ∀ {l m : List Int}, UpI l → UpI m → l.Perm m → l = m
  | [], m, _, _, p => (List.nil_perm.mp p).symm
  | x :: r, [], _, _, p => by cases List.perm_nil.mp p
  | x :: r, y :: t, h, h', p => by
    have a := List.pairwise_cons.mp h
    have b := List.pairwise_cons.mp h'
    have e : x = y := by
      have hx : x ∈ y :: t := p.mem_iff.mp List.mem_cons_self
      have hy : y ∈ x :: r := p.mem_iff.mpr List.mem_cons_self
      rcases List.mem_cons.mp hx with e | e
      · exact e
      · rcases List.mem_cons.mp hy with e2 | e2
        · exact e2.symm
        · have h1 := a.1 y e2
          have h2 := b.1 x e
          omega
    subst e
    rw [upI_uniq a.2 b.2 ((List.perm_cons x).mp p)]
theorem sortI_eq {l m : List Int} (h : l.Perm m) (u : UpI l) : l = sortI m := upI_uniq u (sortI_up m) (h.trans (sortI_perm m).symm)
/-- len(set(x)) -/
def fLenSet (x : Cv) : Option Cv := (seqOf x).bind fun xs => (asKeys xs).bind fun ks => if decide ((ddU ks).length < 4096) = true then some (.int (ddU ks).length) else none
/-- sorted(set(x)) -/
def fSortSet (x : Cv) : Option Cv := (seqOf x).bind fun xs => match asStrs xs with
  | some ss => if decide ((ddU ss).length < 4096) = true then some (.lst ((sortS (ddU ss)).map Cv.str)) else none
  | none => (asInts xs).bind fun ss => if decide ((ddU ss).length < 4096) = true then some (.lst ((sortI (ddU ss)).map Cv.int)) else none
def cOfD (f : Cv → Option Cv) (te : CE) : CE := fun ws S Q => te ws S fun x S1 => match (deref x S1).bind f with | some v => Q v S1 | none => False
theorem mo_ofD {f : Cv → Option Cv} {te : CE} (h : MonE te) : MonE (cOfD f te) := fun ws S Q Q' g q => h _ _ _ _ (fun x S1 h1 => by
  split at h1
  · exact g _ _ h1
  · exact h1) q
section
variable {X : Cx} {x : Str} {p p2 q pos : Pos} {e : Expr} {te : CE}
theorem s_lenSet (hc : X.calm = true) (hm : X.mg "len" = none) (hm2 : X.mg "set" = none) (he : SE X e te) (hg : Gl X "len" := by rfl) (hg2 : Gl X "set" := by rfl)
    (hs : starEach [e] X.env = (false, eval e X.env) :: starEach [] X.env := by rfl)
    (hs2 : starEach [Expr.Call (.Name "set" p2) [e] [] q] X.env = (false, eval (.Call (.Name "set" p2) [e] [] q) X.env) :: starEach [] X.env := by rfl) :
    SE X (.Call (.Name "len" p) [.Call (.Name "set" p2) [e] [] q] [] pos) (cOfD fLenSet te) :=
  ⟨mo_ofD he.mono, (pe_callB cr_lenG hg hm (by decide +kernel) (pa_cons (pe_callTy (cr_setG hc) hg2 hm2 (by decide +kernel) (pa_cons he.ok pa_nil hs) (by decide) (by decide) hs) pa_nil hs2) (by decide) (by decide) hs2).imp fun σ H Q h => by
    obtain ⟨Z, S, ws, ok, re, h⟩ := h
    refine liftE_of he.mono ok re h fun x S1 vx H1 f1 ok1 r1 q1 => ?_
    split at q1
    · rename_i v ev
      obtain ⟨d, e1, ev⟩ := bind_some ev
      obtain ⟨xs, e2, ev⟩ := bind_some ev
      obtain ⟨ks, e3, ev⟩ := bind_some ev
      obtain ⟨hl, ev⟩ := ite_some ev
      subst ev
      obtain ⟨l, vs, rfl, hq, rr⟩ := (deref_ok ok1 r1 e1).seq e2
      have ek := asKeys_ok rr e3
      subst ek
      refine ⟨l, ks, rfl, hq, of_decide_eq_true hl, fun p hp => ⟨p, ddU ks, rfl, upd_same, ?_⟩⟩
      exact q1 _ _ (f1.trans (Fr.new hp)) (ok1.new hp) (.int _)
    · exact q1.elim⟩
theorem s_sortSet (hc : X.calm = true) (hm : X.mg "sorted" = none) (hm2 : X.mg "set" = none) (he : SE X e te) (hg : Gl X "sorted" := by rfl) (hg2 : Gl X "set" := by rfl)
    (hs : starEach [e] X.env = (false, eval e X.env) :: starEach [] X.env := by rfl)
    (hs2 : starEach [Expr.Call (.Name "set" p2) [e] [] q] X.env = (false, eval (.Call (.Name "set" p2) [e] [] q) X.env) :: starEach [] X.env := by rfl) :
    SE X (.Call (.Name "sorted" p) [.Call (.Name "set" p2) [e] [] q] [] pos) (cOfD fSortSet te) :=
  ⟨mo_ofD he.mono, (pe_callB (cr_sortG hc) hg hm (by decide +kernel) (pa_cons (pe_callTy (cr_setG hc) hg2 hm2 (by decide +kernel) (pa_cons he.ok pa_nil hs) (by decide) (by decide) hs) pa_nil hs2) (by decide) (by decide) hs2).imp fun σ H Q h => by
    obtain ⟨Z, S, ws, ok, re, h⟩ := h
    refine liftE_of he.mono ok re h fun x S1 vx H1 f1 ok1 r1 q1 => ?_
    split at q1
    · rename_i v ev
      obtain ⟨d, e1, ev⟩ := bind_some ev
      obtain ⟨xs, e2, ev⟩ := bind_some ev
      obtain ⟨l, vs, rfl, hq, rr⟩ := (deref_ok ok1 r1 e1).seq e2
      split at ev
      · rename_i ss e3
        obtain ⟨hl, ev⟩ := ite_some ev
        subst ev
        have ek := asStrs_eq e3
        subst ek
        have ek := asKeys_ok rr (asKeys_strs ss)
        subst ek
        have em : ddU (ss.map (Sum.inr : Str → Key)) = (ddU ss).map Sum.inr := ddU_map (fun a b e => Sum.inr.inj e) ss
        have hl' : (ddU ss).length < 4096 := of_decide_eq_true hl
        refine ⟨l, _, rfl, hq, by rw [em, List.length_map]; exact hl', fun p hp => ⟨p, rfl, .inl ⟨ddU ss, by rw [em]; exact upd_same, Nat.le_trans (Nat.le_of_lt hl') (by decide), fun ys p' a1 a2 hp' => ?_⟩⟩⟩
        rw [sortS_eq a1 (sortedS_up a2)]
        have ok2 := ok1.new (o := SetGO X.prog X.w p (ddU (ss.map (Sum.inr : Str → Key)))) hp
        exact q1 _ _ ((f1.trans (Fr.new hp)).trans (Fr.new hp')) (ok2.new hp') (.lst upd_same (ok2.free hp') (ok2.notZ hp') (reps_strs _))
      · obtain ⟨ss, e3, ev⟩ := bind_some ev
        obtain ⟨hl, ev⟩ := ite_some ev
        subst ev
        have ek := asInts_eq e3
        subst ek
        have ek := asKeys_ok rr (asKeys_ints ss)
        subst ek
        have em : ddU (ss.map (Sum.inl : Int → Key)) = (ddU ss).map Sum.inl := ddU_map (fun a b e => Sum.inl.inj e) ss
        have hl' : (ddU ss).length < 4096 := of_decide_eq_true hl
        refine ⟨l, _, rfl, hq, by rw [em, List.length_map]; exact hl', fun p hp => ⟨p, rfl, .inr ⟨ddU ss, by rw [em]; exact upd_same, Nat.le_trans (Nat.le_of_lt hl') (by decide), fun ys p' a1 a2 hp' => ?_⟩⟩⟩
        rw [sortI_eq a1 a2]
        have ok2 := ok1.new (o := SetGO X.prog X.w p (ddU (ss.map (Sum.inl : Int → Key)))) hp
        exact q1 _ _ ((f1.trans (Fr.new hp)).trans (Fr.new hp')) (ok2.new hp') (.lst upd_same (ok2.free hp') (ok2.notZ hp') (reps_ints _))
    · exact q1.elim⟩
theorem ev_ofD {f : Cv → Option Cv} {a : ME} (h : Ev te a) (hn : ∀ p, f (.ref p) = none) : Ev (cOfD f te) (mUn f a) := ⟨mo_ofD h.mono, fun {S0 S gs ws Q v} V e r => by
  obtain ⟨x, e1, e⟩ := bind_some e
  refine h.ok V e1 ?_
  have ed : deref x S = some x := by
    cases x <;> first | rfl | (rw [hn] at e; cases e)
  rw [ed]
  show match f x with | some v => _ | none => False
  rw [e]; exact r⟩
theorem nr_lenSet (p : Addr) : fLenSet (.ref p) = none := rfl
theorem nr_sortSet (p : Addr) : fSortSet (.ref p) = none := rfl
theorem q_lenSetL {ss : List Str} (h : (ddU ss).length < 4096) : fLenSet (.lst (ss.map Cv.str)) = some (.int (ddU ss).length) := by
  show (asKeys (ss.map Cv.str)).bind _ = _
  rw [asKeys_strs]
  have em : ddU (ss.map (Sum.inr : Str → Key)) = (ddU ss).map Sum.inr := ddU_map (fun a b e => Sum.inr.inj e) ss
  rw [Option.bind_some, em, List.length_map]
  exact if_pos (decide_eq_true h)
theorem q_sortSetL {ss : List Str} (h : (ddU ss).length < 4096) : fSortSet (.lst (ss.map Cv.str)) = some (.lst ((sortS (ddU ss)).map Cv.str)) := by
  show (match asStrs (ss.map Cv.str) with | some ss => _ | none => _) = _
  rw [asStrs_map]
  exact if_pos (decide_eq_true h)
end
end CL

set_option Elab.async false
set_option linter.all false
set_option maxRecDepth 100000
set_option maxHeartbeats 1000000
/-! CL32: dict displays; setdefault as a statement; statements without effects in X defs; raise where it is not reached -/
namespace CL
open PySem PySem.Spec PyProof.Rows L2
section
variable {K : Fg} {Z : List Addr} {S S' : Sto} {H H' : Hp}
mutual
theorem Rep.toOwnG {D : Addr} {ho : HO} {o : Ob} {Z' : List Addr} (hD : D ∈ Z) (hl : H D = some ho) (pl : plainO ho = true) (hz : ∀ a, a ∈ Z' → a ∈ Z) : ∀ {w : Cv} {v : V}, Rep K Z S H w v → Rep K Z' (S.set D o) H w v
  | _, _, .non => .non
  | _, _, .bl b => .bl b
  | _, _, .int i => .int i
  | _, _, .str x => .str x
  | _, _, .tup h n r => .tup h (by
      rw [Sto.set_ne]
      · exact n
      · intro e
        subst e
        rcases h with h | ⟨o, h⟩ <;> (rw [hl] at h; cases h; cases pl)) (Reps.toOwnG hD hl pl hz r)
  | _, _, .tupK h r => .tupK h (Reps.toOwnG hD hl pl hz r)
  | _, _, .lst h n z r => .lst h (by rw [Sto.set_ne (fun q => z (by rw [q]; exact hD))]; exact n) (fun q => z (hz _ q)) (Reps.toOwnG hD hl pl hz r)
  | _, _, .scr h n r => .scr h (by
      rw [Sto.set_ne]
      · exact n
      · intro e
        subst e
        rw [hl] at h; cases h; cases pl) (Reps.toOwnG hD hl pl hz r)
  | _, _, .tupF h n r d => .tupF h (by
      rw [Sto.set_ne]
      · exact n
      · intro e
        subst e
        rw [hl] at h; cases h; cases pl) (Reps.toOwnG hD hl pl hz r) d
  | _, _, .scrK h r => .scrK h (Reps.toOwnG hD hl pl hz r)
  | _, _, .dK h n z e r => .dK h (by rw [Sto.set_ne (fun q => z (by rw [q]; exact hD))]; exact n) (fun q => z (hz _ q)) e (Reps.toOwnG hD hl pl hz r)
  | _, _, .dT h n z e r => .dT h (by rw [Sto.set_ne (fun q => z (by rw [q]; exact hD))]; exact n) (fun q => z (hz _ q)) e (Reps.toOwnG hD hl pl hz r)
  | _, _, .ref a => .ref a
  | _, _, .opq v => .opq v
theorem Reps.toOwnG {D : Addr} {ho : HO} {o : Ob} {Z' : List Addr} (hD : D ∈ Z) (hl : H D = some ho) (pl : plainO ho = true) (hz : ∀ a, a ∈ Z' → a ∈ Z) : ∀ {ws : List Cv} {vs : List V}, Reps K Z S H ws vs → Reps K Z' (S.set D o) H ws vs
  | _, _, .nil => .nil
  | _, _, .cons a r => .cons (Rep.toOwnG hD hl pl hz a) (Reps.toOwnG hD hl pl hz r)
end
theorem RepOb.toOwnG {D a : Addr} {ho : HO} {o u : Ob} {Z' : List Addr} (hD : D ∈ Z) (hl : H D = some ho) (pl : plainO ho = true) (hz : ∀ a, a ∈ Z' → a ∈ Z) (h : RepOb K Z S H a u) : RepOb K Z' (S.set D o) H a u := by
  cases u with
  | lst ws => obtain ⟨vs, h1, h2⟩ := h; exact ⟨vs, h1, h2.toOwnG hD hl pl hz⟩
  | dK ws => obtain ⟨vs, h1, h3, h2⟩ := h; exact ⟨vs, h1, h3, h2.toOwnG hD hl pl hz⟩
  | dT ws => obtain ⟨vs, h1, h3, h2⟩ := h; exact ⟨vs, h1, h3, h2.toOwnG hD hl pl hz⟩
  | ins C dx fs => obtain ⟨vs, h1, h3, h2⟩ := h; exact ⟨vs, h1, h3, h2.toOwnG hD hl pl hz⟩
theorem StOk.toOwnD {D : Addr} {kvs : List (Key × V)} {kws : List (Key × Cv)} (nZ : D ∉ Z) (ok : StOk K (D :: Z) S H) (hl : H D = some (.dK kvs)) (r : RepKV K (D :: Z) S H kws kvs) : StOk K Z (S.set D (.dK kws)) H where
  ob := fun a u e => by
    by_cases q : a = D
    · subst q
      rw [Sto.set_same] at e
      cases e
      exact ⟨kvs, hl, r.1, r.2.toOwnG List.mem_cons_self hl rfl fun _ z => List.mem_cons_of_mem _ z⟩
    · rw [Sto.set_ne q] at e
      exact (ok.ob a u e).toOwnG List.mem_cons_self hl rfl fun _ z => List.mem_cons_of_mem _ z
  hid := fun a z => by
    obtain ⟨n, u⟩ := ok.hid a (List.mem_cons_of_mem _ z)
    exact ⟨by rw [Sto.set_ne (fun q => nZ (by rw [← q]; exact z))]; exact n, u⟩
theorem RepKV.merge : ∀ {more : List (Key × Cv)} {ms : List (Key × V)} {kws : List (Key × Cv)} {kvs : List (Key × V)}, RepKV K Z S H more ms → RepKV K Z S H kws kvs →
    RepKV K Z S H (more.foldl (fun acc kv => putC acc kv.1 kv.2) kws) (mergeK kvs ms)
  | [], [], _, _, _, q => q
  | [], _ :: _, _, _, r, _ => by cases r.1
  | _ :: _, [], _, _, r, _ => by cases r.1
  | p :: more, m :: ms, kws, kvs, r, q => by
    obtain ⟨e, r⟩ := r
    rw [List.map_cons, List.map_cons] at e r
    injection e with e1 e2
    cases r with
    | cons a b =>
      have ih := RepKV.merge (more := more) (ms := ms) ⟨e2, b⟩ (q.put (k := p.1) a)
      rw [List.foldl_cons]
      have e3 : mergeK kvs (m :: ms) = mergeK (putK kvs p.1 m.2) ms := by rw [e1]; rfl
      rw [e3]; exact ih
end
theorem RoomG.u1 {k : Nat} {A : Around} (r : RoomG k A) : A.units + 1 < cLine := by have := r.u4; omega
/-! ### displays -/
def cPairs : List (CE × CE) → CL.Env → Sto → (List (Cv × Cv) → Sto → Prop) → Prop
  | [], _, S, Q => Q [] S
  | (tk, tv) :: r, ws, S, Q => tk ws S fun x S1 => tv ws S1 fun y S2 => cPairs r ws S2 fun ps S3 => Q ((x, y) :: ps) S3
def keysP : List (Cv × Cv) → Option (List (Key × Cv))
  | [] => some []
  | p :: r => (keyC p.1).bind fun k => (keysP r).map fun l => (k, p.2) :: l
def mergeC (kws more : List (Key × Cv)) : List (Key × Cv) := more.foldl (fun acc kv => putC acc kv.1 kv.2) kws
def cDisp (trs : List (CE × CE)) : CE := fun ws S Q => cPairs trs ws S fun ps S1 => match keysP ps with | some kws => kws.length ≤ 15 ∧ Q (.dK (mergeC [] kws)) S1 | none => False
def cDispO (trs : List (CE × CE)) : CE := fun ws S Q => cPairs trs ws S fun ps S1 => match keysP ps with | some kws => kws.length ≤ 15 ∧ ∀ p, S1 p = none → Q (.ref p) (S1.set p (.dK (mergeC [] kws))) | none => False
structure SPs (X : Cx) (pos : Pos) (keys : List (Option Expr)) (values : List Expr) (trs : List (CE × CE)) : Prop where
  mono : ∀ t ∈ trs, MonE t.1 ∧ MonE t.2
  ok : PPs X pos keys values (trs.map fun t => (liftE X.K t.1, liftE X.K t.2))
theorem sp_nil {X : Cx} {pos : Pos} : SPs X pos [] [] [] := ⟨fun t h => absurd h (by simp), pps_nil⟩
theorem sp_cons {X : Cx} {pos : Pos} {k v : Expr} {ks : List (Option Expr)} {vs : List Expr} {tk tv : CE} {trs : List (CE × CE)} (hk : SE X k tk) (hv : SE X v tv) (hr : SPs X pos ks vs trs) : SPs X pos (some k :: ks) (v :: vs) ((tk, tv) :: trs) :=
  ⟨fun t h => by
    rcases List.mem_cons.mp h with e | h
    · rw [e]; exact ⟨hk.mono, hv.mono⟩
    · exact hr.mono t h, pps_cons hk.ok hv.ok hr.ok⟩
theorem cPairs_mono : ∀ {trs : List (CE × CE)}, (∀ t ∈ trs, MonE t.1 ∧ MonE t.2) → ∀ {ws : CL.Env} {S : Sto} {Q Q' : List (Cv × Cv) → Sto → Prop}, (∀ a b, Q a b → Q' a b) → cPairs trs ws S Q → cPairs trs ws S Q'
  | [], _, _, _, _, _, f, h => f _ _ h
  | (tk, tv) :: r, m, ws, S, Q, Q', f, h => by
    have m0 := m (tk, tv) List.mem_cons_self
    exact m0.1 _ _ _ _ (fun x S1 h1 => m0.2 _ _ _ _ (fun y S2 h2 => cPairs_mono (fun t h => m t (List.mem_cons_of_mem _ h)) (fun ps S3 h3 => f _ _ h3) h2) h1) h
section
variable {K : Fg} {Z : List Addr} {σ : L2.St} {ws : CL.Env}
theorem pairs_of : ∀ {trs : List (CE × CE)} {S : Sto} {H : Hp} {R : List (Cv × Cv) → Sto → Prop} {Q : List (V × V) → Hp → Prop}, (∀ t ∈ trs, MonE t.1 ∧ MonE t.2) → StOk K Z S H → RepSt K Z S H σ ws → cPairs trs ws S R →
    (∀ ps S' vs H', Fr S H S' H' → StOk K Z S' H' → Reps K Z S' H' (ps.map Prod.fst) (vs.map Prod.fst) → Reps K Z S' H' (ps.map Prod.snd) (vs.map Prod.snd) → R ps S' → Q vs H') →
    tPairs (trs.map fun t => (liftE K t.1, liftE K t.2)) σ H Q
  | [], S, H, R, Q, _, ok, re, h, f => f [] S [] H (Fr.refl S H) ok .nil .nil h
  | (tk, tv) :: r, S, H, R, Q, m, ok, re, h, f => by
    have m0 := m (tk, tv) List.mem_cons_self
    refine liftE_of m0.1 ok re h fun x S1 v1 H1 f1 ok1 r1 h1 => ?_
    refine liftE_of m0.2 ok1 (re.fr f1) h1 fun y S2 v2 H2 f2 ok2 r2 h2 => ?_
    refine pairs_of (fun t h => m t (List.mem_cons_of_mem _ h)) ok2 ((re.fr f1).fr f2) h2 fun ps S3 vs H3 f3 ok3 a3 b3 h3 => ?_
    exact f ((x, y) :: ps) S3 ((v1, v2) :: vs) H3 ((f1.trans f2).trans f3) ok3 (.cons ((r1.fr f2).fr f3) a3) (.cons (r2.fr f3) b3) h3
theorem keysP_ok {S : Sto} {H : Hp} : ∀ {ps : List (Cv × Cv)} {vs : List (V × V)} {kws : List (Key × Cv)}, Reps K Z S H (ps.map Prod.fst) (vs.map Prod.fst) → Reps K Z S H (ps.map Prod.snd) (vs.map Prod.snd) → keysP ps = some kws →
    ∃ kvs : List (Key × V), vs = kvs.map (fun kv => (kV kv.1, kv.2)) ∧ RepKV K Z S H kws kvs
  | [], [], _, _, _, e => by cases e; exact ⟨[], rfl, rfl, .nil⟩
  | [], _ :: _, _, r, _, _ => by cases r
  | _ :: _, [], _, r, _, _ => by cases r
  | p :: ps, v :: vs, kws, r, q, e => by
    obtain ⟨k, e1, e⟩ := bind_some e
    obtain ⟨l, e2, e⟩ := map_some' e
    subst e
    rw [List.map_cons, List.map_cons] at r q
    cases r with
    | cons ra rb =>
      cases q with
      | cons qa qb =>
        obtain ⟨kvs, e3, r3⟩ := keysP_ok rb qb e2
        refine ⟨(k, v.2) :: kvs, ?_, ?_, ?_⟩
        · rw [List.map_cons, e3, ← keyC_rep e1 ra]
        · rw [List.map_cons, List.map_cons, r3.1]
        · rw [List.map_cons, List.map_cons]; exact .cons qa r3.2
end
section
variable {X : Cx} {pos : Pos} {keys : List (Option Expr)} {values : List Expr} {trs : List (CE × CE)}
theorem mo_disp (h : ∀ t ∈ trs, MonE t.1 ∧ MonE t.2) : MonE (cDisp trs) := fun ws S Q Q' f q => cPairs_mono h (fun ps S1 r => by
  split at r
  · exact ⟨r.1, f _ _ r.2⟩
  · exact r) q
theorem mo_dispO (h : ∀ t ∈ trs, MonE t.1 ∧ MonE t.2) : MonE (cDispO trs) := fun ws S Q Q' f q => cPairs_mono h (fun ps S1 r => by
  split at r
  · exact ⟨r.1, fun p hp => f _ _ (r.2 p hp)⟩
  · exact r) q
theorem RepSt.newD {K : Fg} {Z : List Addr} {S : Sto} {H : Hp} {σ : L2.St} {ws : CL.Env} {D : Addr} {o : HO} (h : RepSt K Z S H σ ws) (hD : H D = none) : RepSt K (D :: Z) S (upd H D o) σ ws :=
  ⟨h.1, fun i w e => let ⟨v, h1, h2⟩ := h.2 i w e; ⟨v, h1, h2.newD hD⟩⟩
theorem disp_core (h : SPs X pos keys values trs) (hall : keys.all (·.isSome) = true) (hl : keys.length = values.length) (h0 : keys ≠ []) (h15 : keys.length ≤ 15) {t : CE} {R : List (Key × Cv) → (Cv → Sto → Prop) → Sto → Prop} (mt : MonE t)
    (ht : ∀ ws S Q, t ws S Q → cPairs trs ws S fun ps S1 => match keysP ps with | some kws => kws.length ≤ 15 ∧ R (mergeC [] kws) Q S1 | none => False)
    (fin : ∀ (Z : List Addr) (S : Sto) (H : Hp) (p : Addr) (kws : List (Key × Cv)) (kvs : List (Key × V)) (S0 : Sto) (H0 : Hp) (Q : VK), H0 p = none → p ∉ Z → StOk X.K (p :: Z) S H → H p = some (.dK kvs) → RepKV X.K (p :: Z) S H kws kvs → Fr S0 H0 S H →
      R kws (fun w S' => ∀ v H', Fr S0 H0 S' H' → StOk X.K Z S' H' → Rep X.K Z S' H' w v → Q v H') S → Q (.ref p) H) : SE X (.Dict keys values pos) t :=
  ⟨mt, (pe_disp h.ok hall hl h0 h15).imp fun σ H Q q => by
    obtain ⟨Z, S, ws, ok, re, q⟩ := q
    intro p hp
    have ok1 : StOk X.K (p :: Z) S (upd H p (.dK [])) := ok.newD hp
    refine pairs_of h.mono ok1 (re.newD hp) (ht _ _ _ q) fun ps S1 vs H2 f ok2 ra rb q1 => ?_
    have hp2 := (f.keep p _ upd_same (ok1.hid p List.mem_cons_self).1)
    refine ⟨hp2.1, ?_⟩
    split at q1
    · rename_i kws ek
      obtain ⟨kvs, ev, rk⟩ := keysP_ok ra rb ek
      refine ⟨kvs, ev, by rw [← rk.len]; exact q1.1, ?_⟩
      have ok3 := ok2.chgG (h' := .dK (mergeK [] kvs)) List.mem_cons_self hp2.1 rfl rfl
      have rk3 : RepKV X.K (p :: Z) S1 (upd H2 p (.dK (mergeK [] kvs))) (mergeC [] kws) (mergeK [] kvs) := by
        have := RepKV.merge rk (kws := []) (kvs := []) ⟨rfl, .nil⟩
        exact ⟨this.1, this.2.hidG List.mem_cons_self hp2.1 rfl⟩
      have f3 : Fr S H S1 (upd H2 p (.dK (mergeK [] kvs))) := ⟨fun a o e n => by
        have na : a ≠ p := ne_of_none e hp
        rw [upd_ne na]
        exact f.keep a o (by rw [upd_ne na]; exact e) n, fun a z => by
          have := f.dom a (dom_upd a z)
          exact dom_upd a this⟩
      exact fin Z S1 _ p _ _ S H Q hp (ok.notZ hp) ok3 upd_same rk3 f3 q1.2
    · exact q1.elim⟩
theorem s_disp (h : SPs X pos keys values trs) (hall : keys.all (·.isSome) = true := by rfl) (hl : keys.length = values.length := by rfl) (h0 : keys ≠ [] := by decide +kernel) (h15 : keys.length ≤ 15 := by decide +kernel) : SE X (.Dict keys values pos) (cDisp trs) :=
  disp_core h hall hl h0 h15 (mo_disp h.mono) (R := fun d Q S => Q (.dK d) S) (fun _ _ _ q => q) fun Z S H p kws kvs S0 H0 Q hp nz ok e r f q =>
    q _ _ f (ok.sub fun _ z => List.mem_cons_of_mem _ z) (.dK e (ok.hid p List.mem_cons_self).1 nz r.1 (r.2.sub fun _ z => List.mem_cons_of_mem _ z))
theorem s_dispO (h : SPs X pos keys values trs) (hall : keys.all (·.isSome) = true := by rfl) (hl : keys.length = values.length := by rfl) (h0 : keys ≠ [] := by decide +kernel) (h15 : keys.length ≤ 15 := by decide +kernel) : SE X (.Dict keys values pos) (cDispO trs) :=
  disp_core h hall hl h0 h15 (mo_dispO h.mono) (R := fun d Q S => ∀ p, S p = none → Q (.ref p) (S.set p (.dK d))) (fun _ _ _ q => q) fun Z S H p kws kvs S0 H0 Q hp nz ok e r f q =>
    q p (ok.hid p List.mem_cons_self).1 _ _ ⟨fun a o ea n => by
      have na : a ≠ p := ne_of_none ea hp
      rw [Sto.set_ne na]
      exact f.keep a o ea n, f.dom⟩ (ok.toOwnD nz e r) (.ref p)
end
/-! computed -/
def mPairs : List (ME × ME) → MEnv → Option (List (Cv × Cv))
  | [], _ => some []
  | (a, b) :: r, gs => (a gs).bind fun x => (b gs).bind fun y => (mPairs r gs).map fun l => (x, y) :: l
def mDisp (ms : List (ME × ME)) : ME := fun gs => (mPairs ms gs).bind fun ps => (keysP ps).bind fun kws => if decide (kws.length ≤ 15) = true then some (.dK (mergeC [] kws)) else none
inductive EvPs : List (CE × CE) → List (ME × ME) → Prop
  | nil : EvPs [] []
  | cons {tk tv : CE} {a b : ME} {r : List (CE × CE)} {s : List (ME × ME)} : Ev tk a → Ev tv b → EvPs r s → EvPs ((tk, tv) :: r) ((a, b) :: s)
theorem EvPs.mono : ∀ {r : List (CE × CE)} {s : List (ME × ME)}, EvPs r s → ∀ t ∈ r, MonE t.1 ∧ MonE t.2
  | _, _, .nil, t, h => absurd h (by simp)
  | _, _, .cons a b c, t, h => by
    rcases List.mem_cons.mp h with e | h
    · rw [e]; exact ⟨a.mono, b.mono⟩
    · exact c.mono t h
theorem EvPs.ok : ∀ {r : List (CE × CE)} {s : List (ME × ME)}, EvPs r s → ∀ {S0 S gs ws Q v}, View S0 S gs ws → mPairs s gs = some v → Q v S → cPairs r ws S Q
  | _, _, .nil, _, _, _, _, _, _, V, e, q => by cases e; exact q
  | _, _, .cons a b c, _, _, _, _, _, _, V, e, q => by
    obtain ⟨x, e1, e⟩ := bind_some e
    obtain ⟨y, e2, e⟩ := bind_some e
    obtain ⟨l, e3, e⟩ := map_some' e
    subst e
    exact a.ok V e1 (b.ok V e2 (c.ok V e3 q))
theorem ev_disp {trs : List (CE × CE)} {ms : List (ME × ME)} (h : EvPs trs ms) : Ev (cDisp trs) (mDisp ms) := ⟨mo_disp h.mono, fun V e q => by
  obtain ⟨ps, e1, e⟩ := bind_some e
  obtain ⟨kws, e2, e⟩ := bind_some e
  obtain ⟨hl, e⟩ := ite_some e
  subst e
  refine h.ok V e1 ?_
  rw [e2]
  exact ⟨of_decide_eq_true hl, q⟩⟩
theorem en_disp {trs : List (CE × CE)} {ms : List (ME × ME)} (h : EvPs trs ms) : EvN (cDispO trs) (mDisp ms) := ⟨mo_dispO h.mono, fun V e q => by
  obtain ⟨ps, e1, e⟩ := bind_some e
  obtain ⟨kws, e2, e⟩ := bind_some e
  obtain ⟨hl, e⟩ := ite_some e
  subst e
  refine h.ok V e1 ?_
  rw [e2]
  exact ⟨of_decide_eq_true hl, fun p hp => q p _ hp rfl⟩⟩
/-! ### setdefault -/
def fSetd : Cv → Cv → Cv → Option (Cv × Cv)
  | .dK kws, y, z => (keyC y).bind fun k => if decide (kws.length < 1000000) = true then some ((valC kws k).getD z, .dK (if (valC kws k).isSome = true then kws else putC kws k z)) else none
  | _, _, _ => none
def mSetd (i : Nat) (k a : ME) : MS := fun gs => ((slO gs[i]?).bind dkOnly).bind fun d => (k gs).bind fun y => (a gs).bind fun z => (fSetd d y z).map fun r => .nx (gs.set i (.ow r.2))
def mAsgSetd (j i : Nat) (k a : ME) : MS := fun gs => ((slO gs[i]?).bind dkOnly).bind fun d => (k gs).bind fun y => (a gs).bind fun z => (fSetd d y z).map fun r => .nx ((gs.set i (.ow r.2)).set j (.pl r.1))
theorem setd_core {ty tz : CE} {k a : ME} {i : Nat} (hk : Ev ty k) (h : Ev tz a) {B S : Sto} {gs : MEnv} {ws : CL.Env} {Q : Cv → Sto → Prop} {d y z w d' : Cv} (V : View B S gs ws) (e0 : (slO gs[i]?).bind dkOnly = some d) (e1 : k gs = some y) (e2 : a gs = some z) (e3 : fSetd d y z = some (w, d'))
    (q : ∀ S', View B S' (gs.set i (.ow d')) ws → Q w S') : cDSetd (cVar i) ty tz ws S Q := by
  obtain ⟨d0, e0', e4⟩ := bind_some e0
  cases d0 <;> cases e4
  rename_i kws
  have e0 := slO_some e0'
  obtain ⟨p, o, f1, f2, f3, f4⟩ := V.ow _ _ e0
  cases obv_dK f3
  refine x_var f1 ⟨?_, ?_⟩
  · show (derefK (.ref p) S).isSome = true
    unfold derefK deref
    simp only [f2]
    rfl
  refine hk.ok V e1 (h.ok V e2 ?_)
  obtain ⟨key, e5, e3⟩ := bind_some (show (keyC y).bind _ = some (w, d') from e3)
  obtain ⟨hl, e3⟩ := ite_some e3
  rw [e5]
  refine ownD_to f2 ⟨Nat.lt_of_lt_of_le (of_decide_eq_true hl) (by decide), ?_⟩
  cases hv : valC kws key with
  | some u =>
    rw [hv] at e3
    cases e3
    have es : gs.set i (.ow (.dK kws)) = gs := by
      obtain ⟨hi, eg⟩ := List.getElem?_eq_some_iff.mp e0
      rw [← eg]
      exact List.set_getElem_self hi
    have q := q S (by rw [show (if (some u : Option Cv).isSome = true then kws else putC kws key z) = kws from rfl, es]; exact V)
    exact q
  | none =>
    rw [hv] at e3
    cases e3
    exact q _ (V.chg e0 f1 rfl)
theorem es_setd {ty tz : CE} {k a : ME} {i : Nat} (hk : Ev ty k) (h : Ev tz a) : EvS (cDrop (cDSetd (cVar i) ty tz)) (mSetd i k a) := ⟨mo_drop (mo_dSetd mo_var hk.mono h.mono), fun V e q => by
  obtain ⟨d, e0, e⟩ := bind_some e
  obtain ⟨y, e1, e⟩ := bind_some e
  obtain ⟨z, e2, e⟩ := bind_some e
  obtain ⟨⟨w, d'⟩, e3, e⟩ := map_some' e
  subst e
  exact x_drop (setd_core hk h V e0 e1 e2 e3 fun S' V' => q _ _ V')⟩
theorem es_asgSetd {ty tz : CE} {k a : ME} {i j : Nat} (hk : Ev ty k) (h : Ev tz a) : EvS (cAsg (cDSetd (cVar i) ty tz) (cgName j)) (mAsgSetd j i k a) := ⟨cAsg_mono (mo_dSetd mo_var hk.mono h.mono) mo_gname, fun V e q => by
  obtain ⟨d, e0, e⟩ := bind_some e
  obtain ⟨y, e1, e⟩ := bind_some e
  obtain ⟨z, e2, e⟩ := bind_some e
  obtain ⟨⟨w, d'⟩, e3, e⟩ := map_some' e
  subst e
  exact setd_core hk h V e0 e1 e2 e3 fun S' V' => q _ _ (V'.set j w)⟩
/-! ### statements without effects, in defs with effects -/
def xM (m : MS) : XS := fun gs => (m gs).bind fun | .nx gs' => some (.nx gs') | _ => none
theorem ss_m {W : WX'} {t : CS} {m : MS} (h : EvS t m) : EvXS false W t (xM m) := ⟨h.mono, fun {P B S gs ws D r} hb V e q => by
  obtain ⟨r1, e1, e⟩ := bind_some e
  cases r1 <;> cases e
  refine h.ok V.v e1 fun S1 ws1 V1 => q _ _ ⟨V1, fun p ep => ?_⟩
  have := hb (by rw [ep]; intro z; cases z)
  cases this⟩
/-! ### raise, not reached -/
def cFail : CS := fun _ _ _ => False
theorem ss_raise {X : Cx} {a b : Option Expr} {pos : Pos} : SS X (.Raise a b pos) cFail := ⟨fun _ _ _ _ _ h => h, ⟨fun pins s σ H D I h => by
  obtain ⟨Z, S, ws, ok, re, h⟩ := h
  exact h.elim⟩⟩
def mFail : MS := fun _ => none
theorem es_fail : EvS cFail mFail := ⟨fun _ _ _ _ _ h => h, fun V e q => by cases e⟩
def xFail : XS := fun _ => none
theorem ss_failX {b : Bool} {W : WX'} : EvXS b W cFail xFail := ⟨fun _ _ _ _ _ h => h, fun hb V e q => by cases e⟩
end CL

set_option Elab.async false
set_option linter.all false
set_option maxRecDepth 100000
set_option maxHeartbeats 1000000
/-! CL33: how the new computed readings rewrite; dicts of texts -/
namespace CL
open PySem PySem.Spec PyProof.Rows L2
theorem keys_putC {κ : Type} [DecidableEq κ] (kws : List (κ × Cv)) (k : κ) (w : Cv) : (putC kws k w).map Prod.fst = addU (kws.map Prod.fst) k := by
  unfold putC addU
  have e : (kws.any fun kv => decide (kv.1 = k)) = decide (k ∈ kws.map Prod.fst) := by
    induction kws with
    | nil => rfl
    | cons p r ih =>
      rw [List.any_cons, ih, List.map_cons]
      by_cases h : p.1 = k
      · simp [h]
      · have h' : ¬ k = p.1 := fun z => h z.symm
        simp [h, h']
  rw [e]
  by_cases h : k ∈ kws.map Prod.fst
  · rw [if_pos (decide_eq_true h), if_pos h, List.map_map]
    refine List.map_congr_left fun p _ => ?_
    show (if p.1 = k then (p.1, w) else p).1 = p.1
    split <;> rfl
  · rw [if_neg (by simpa using h), if_neg h, List.map_append]; rfl
theorem foldP_keys {κ α : Type} [DecidableEq κ] (K : α → κ) (F : α → Cv) : ∀ (xs : List α) (kws : List (κ × Cv)), (xs.foldl (fun acc x => putC acc (K x) (F x)) kws).map Prod.fst = (xs.map K).foldl addU (kws.map Prod.fst)
  | [], _ => rfl
  | x :: xs, kws => by
    rw [List.foldl_cons, foldP_keys K F xs, List.map_cons, List.foldl_cons, keys_putC]
/-- the dict that has v under each of these texts -/
def kd (v : Cv) (ws : List Str) : List (Key × Cv) := ws.foldl (fun acc x => putC acc (Sum.inr x) v) []
theorem kd_keys (v : Cv) (ws : List Str) : (kd v ws).map Prod.fst = (ddU ws).map (Sum.inr : Str → Key) := by
  unfold kd
  rw [foldP_keys (fun x : Str => (Sum.inr x : Key)) (fun _ => v) ws []]
  exact ddU_map (fun a b e => Sum.inr.inj e) ws
theorem kd_snoc (v : Cv) (ws : List Str) (x : Str) : putC (kd v ws) (Sum.inr x) v = kd v (ws ++ [x]) := by
  unfold kd; rw [List.foldl_append]; rfl
theorem kd_len (v : Cv) (ws : List Str) : (kd v ws).length = (ddU ws).length := by
  rw [← List.length_map (f := Prod.fst) (as := kd v ws), kd_keys, List.length_map]
theorem foldU_le {κ : Type} [DecidableEq κ] : ∀ (xs ks : List κ), (xs.foldl addU ks).length ≤ ks.length + xs.length
  | [], ks => by simp
  | x :: xs, ks => by
    have := foldU_le xs (addU ks x)
    have h : (addU ks x).length ≤ ks.length + 1 := by
      unfold addU
      split
      · omega
      · simp
    rw [List.foldl_cons, List.length_cons]
    omega
theorem ddU_le {κ : Type} [DecidableEq κ] (xs : List κ) : (ddU xs).length ≤ xs.length := by
  have := foldU_le xs []
  rw [List.length_nil] at this
  unfold ddU
  omega
theorem nodup_le {α : Type} [DecidableEq α] : ∀ {l m : List α}, l.Nodup → (∀ x ∈ l, x ∈ m) → l.length ≤ m.length
  | [], _, _, _ => Nat.zero_le _
  | x :: l, m, h, s => by
    obtain ⟨h1, h2⟩ := List.nodup_cons.mp h
    have hx := s x List.mem_cons_self
    have := nodup_le (l := l) (m := m.erase x) h2 fun y hy => by
      have ne : y ≠ x := fun e => h1 (e ▸ hy)
      exact (List.mem_erase_of_ne ne).mpr (s y (List.mem_cons_of_mem _ hy))
    rw [List.length_erase_of_mem hx] at this
    have hp : 0 < m.length := List.length_pos_of_mem hx
    rw [List.length_cons]; omega
theorem ddU_sub {α : Type} [DecidableEq α] {l m : List α} (s : ∀ x ∈ l, x ∈ m) : (ddU l).length ≤ m.length := nodup_le (ddU_nodup l) fun x hx => s x (mem_ddU.mp hx)
theorem keysS_of : ∀ {kws : List (Key × Cv)} {ss : List Str}, kws.map Prod.fst = ss.map (Sum.inr : Str → Key) → keysS kws = some ss
  | [], [], _ => rfl
  | [], _ :: _, e => by cases e
  | _ :: _, [], e => by cases e
  | (k, w) :: r, x :: ss, e => by
    rw [List.map_cons, List.map_cons] at e
    injection e with e1 e2
    have e1 : k = Sum.inr x := e1
    subst e1
    show (keysS r).map _ = _
    rw [keysS_of e2]; rfl
theorem q_sortedK {kws : List (Key × Cv)} {ss : List Str} (e : kws.map Prod.fst = ss.map (Sum.inr : Str → Key)) (h : ss.length < 64) : fSorted [.dK kws] = some (.lst ((sortS ss).map Cv.str)) := by
  show (keysS kws).bind _ = _
  rw [keysS_of e]; exact if_pos (decide_eq_true h)
theorem q_sortedKd {v : Cv} {ws : List Str} (h : (ddU ws).length < 64) : fSorted [.dK (kd v ws)] = some (.lst ((sortS (ddU ws)).map Cv.str)) := q_sortedK (kd_keys v ws) h
theorem mDcL_map {g : MG} {tt : MT} {tk tv : ME} {gs : MEnv} {α : Type} (h : α → Cv) (K : α → Key) (F : α → Cv) : ∀ (as : List α) (acc : List (Key × Cv)), (∀ a ∈ as, ∃ g1, g (h a) gs = some g1 ∧ tt g1 = some true ∧ (tk g1).bind keyC = some (K a) ∧ tv g1 = some (F a)) →
    mDcL g tt tk tv gs (as.map h) acc = some (as.foldl (fun acc a => putC acc (K a) (F a)) acc)
  | [], acc, _ => rfl
  | a :: as, acc, hh => by
    obtain ⟨g1, e1, e2, e3, e4⟩ := hh a List.mem_cons_self
    obtain ⟨y, e5, e6⟩ := bind_some e3
    rw [List.map_cons, mDcL, e1, Option.bind_some, e2, Option.bind_some, if_pos rfl, e5, Option.bind_some, e4, Option.bind_some, e6, Option.bind_some, List.foldl_cons]
    exact mDcL_map h K F as _ fun b hb => hh b (List.mem_cons_of_mem _ hb)
theorem q_dc {ti : MA} {g : MG} {tt : MT} {tk tv : ME} {vs : List Nat} {gs : MEnv} : mDc ti g tt tk tv vs gs = (ti gs).bind fun xs => if lenOk xs.length = true then (mDcL g tt tk tv (mwipe gs vs) xs []).map .dK else none := rfl
theorem q_disp {ms : List (ME × ME)} {gs : MEnv} : mDisp ms gs = (mPairs ms gs).bind fun ps => (keysP ps).bind fun kws => if decide (kws.length ≤ 15) = true then some (.dK (mergeC [] kws)) else none := rfl
theorem q_disp1 {a b : ME} {gs : MEnv} : mDisp [(a, b)] gs = (a gs).bind fun x => (b gs).bind fun y => (keyC x).map fun k => .dK [(k, y)] := by
  show ((a gs).bind fun x => (b gs).bind fun y => (mPairs [] gs).map fun l => (x, y) :: l).bind _ = _
  cases a gs with
  | none => rfl
  | some x =>
    cases b gs with
    | none => rfl
    | some y =>
      show ((keyC x).bind fun k => (keysP []).map fun l => (k, y) :: l).bind _ = (keyC x).map _
      cases keyC x <;> rfl
theorem q_prs0 {gs : MEnv} : mPairs [] gs = some [] := rfl
theorem q_prs {a b : ME} {r : List (ME × ME)} {gs : MEnv} : mPairs ((a, b) :: r) gs = (a gs).bind fun x => (b gs).bind fun y => (mPairs r gs).map fun l => (x, y) :: l := rfl
theorem q_keysP0 : keysP [] = some [] := rfl
theorem q_keysP {a b : Cv} {r : List (Cv × Cv)} : keysP ((a, b) :: r) = (keyC a).bind fun k => (keysP r).map fun l => (k, b) :: l := rfl
theorem q_keyS {x : Str} : keyC (.str x) = some (.inr x) := rfl
theorem q_keyI {x : Int} : keyC (.int x) = some (.inl x) := rfl
theorem q_mrg0 {kws : List (Key × Cv)} : mergeC kws [] = kws := rfl
theorem q_mrg {kws r : List (Key × Cv)} {p : Key × Cv} : mergeC kws (p :: r) = mergeC (putC kws p.1 p.2) r := rfl
theorem q_put0 {k : Key} {v : Cv} : putC [] k v = [(k, v)] := rfl
theorem q_kd1 {v : Cv} {x : Str} : [((.inr x : Key), v)] = kd v [x] := rfl
theorem q_dkOnly {kws : List (Key × Cv)} : dkOnly (.dK kws) = some (.dK kws) := rfl
theorem q_dput {i : Nat} {k a : ME} {gs : MEnv} : mDPut i k a gs = ((slO gs[i]?).bind dkOnly).bind fun d => (a gs).bind fun v => (k gs).bind fun y => (mDPut.fDPut d y v).map fun d => .nx (gs.set i (.ow d)) := rfl
theorem q_fDPut {kws : List (Key × Cv)} {y v : Cv} (h : kws.length < 1000000) : mDPut.fDPut (.dK kws) y v = (keyC y).map fun k => .dK (putC kws k v) := if_pos (decide_eq_true h)
theorem q_fDPutKd {ws : List Str} {v : Cv} {x : Str} (h : ws.length < 1000000) : mDPut.fDPut (.dK (kd v ws)) (.str x) v = some (.dK (kd v (ws ++ [x]))) := by
  rw [q_fDPut (by rw [kd_len]; exact Nat.lt_of_le_of_lt (ddU_le _) h), q_keyS, Option.map_some, kd_snoc]
theorem q_setd {i : Nat} {k a : ME} {gs : MEnv} : mSetd i k a gs = ((slO gs[i]?).bind dkOnly).bind fun d => (k gs).bind fun y => (a gs).bind fun z => (fSetd d y z).map fun r => .nx (gs.set i (.ow r.2)) := rfl
theorem q_asgSetd {i j : Nat} {k a : ME} {gs : MEnv} : mAsgSetd j i k a gs = ((slO gs[i]?).bind dkOnly).bind fun d => (k gs).bind fun y => (a gs).bind fun z => (fSetd d y z).map fun r => .nx ((gs.set i (.ow r.2)).set j (.pl r.1)) := rfl
theorem q_fDIx {kws : List (Key × Cv)} {y : Cv} : fDIx (.dK kws) y = (keyC y).bind (valC kws) := rfl
theorem q_fDIn {kws : List (Key × Cv)} {y : Cv} {ng : Bool} : fDIn ng y (.dK kws) = (keyC y).map fun k => .bl (if ng = true then !(valC kws k).isSome else (valC kws k).isSome) := rfl
theorem q_dget2 {a b c : ME} {gs : MEnv} : mDGet2 a b c gs = ((a gs).bind dkOnly).bind fun d => (b gs).bind fun y => (c gs).bind fun z => fDGet2 d y z := rfl
theorem q_dget1 {a b : ME} {gs : MEnv} : mDGet1 a b gs = ((a gs).bind dkOnly).bind fun d => (b gs).bind fun y => fDGet1 d y := rfl
theorem q_fget2 {kws : List (Key × Cv)} {y z : Cv} : fDGet2 (.dK kws) y z = (keyC y).map fun k => (valC kws k).getD z := rfl
theorem q_fget1 {kws : List (Key × Cv)} {y : Cv} : fDGet1 (.dK kws) y = (keyC y).map fun k => (valC kws k).getD .non := rfl
def rzN : Rz → Option Rx
  | .nx gs => some (.nx gs)
  | _ => none
theorem w_m {m : MS} {gs : MEnv} : xM m gs = (m gs).bind rzN := by
  unfold xM
  congr 1
theorem w_rzN {gs : MEnv} : rzN (.nx gs) = some (.nx gs) := rfl
theorem w_forS {G : MG} {p : XS} {vs : List Nat} {v : Cv} {xs : List Cv} {gs g2 : MEnv} (h : (G v gs).bind p = some (.nx g2)) : xForL G p vs (v :: xs) gs = xForL G p vs xs (mwipe g2 vs) := by
  obtain ⟨g1, e1, e2⟩ := bind_some h
  rw [w_forL, e1, Option.bind_some, e2, Option.bind_some, w_lkN]
theorem rOk_words {l : List Str} (h : ∀ x ∈ l, isWord x = true) (hl : l.length ≤ 50000) : rOk (.tup (l.map Cv.str)) = true := by
  have key : ∀ l : List Str, (∀ x ∈ l, isWord x = true) → smallVs (l.map Cv.str) = true ∧ deps (l.map Cv.str) ≤ 1 ∧ blks (l.map Cv.str) ≤ 9 * l.length := fun l h => by
    induction l with
    | nil => exact ⟨rfl, Nat.zero_le _, Nat.zero_le _⟩
    | cons x l ih =>
      obtain ⟨i1, i2, i3⟩ := ih fun y hy => h y (List.mem_cons_of_mem _ hy)
      obtain ⟨f1, f2⟩ := word_small (h x List.mem_cons_self)
      refine ⟨?_, ?_, ?_⟩
      · show (smallV (.str x) && smallVs (l.map Cv.str)) = true
        rw [f1, i1]; rfl
      · show max (dep (.str x)) (deps (l.map Cv.str)) ≤ 1
        have : dep (.str x) = 0 := rfl
        omega
      · rw [List.map_cons]
        have : blks (Cv.str x :: l.map Cv.str) ≤ 9 + blks (l.map Cv.str) := by
          simp only [blks]; omega
        rw [List.length_cons]; omega
  obtain ⟨a, b, c⟩ := key l h
  unfold rOk
  have h1 : smallV (.tup (l.map Cv.str)) = true := a
  have h2 : dep (.tup (l.map Cv.str)) ≤ 64 := by
    show deps (l.map Cv.str) + 1 ≤ 64
    omega
  have h3 : blk (.tup (l.map Cv.str)) ≤ 500000 := by
    simp only [blk]; omega
  rw [h1, decide_eq_true h2, decide_eq_true h3]; rfl
end CL

set_option Elab.async false
set_option linter.all false
set_option maxRecDepth 100000
set_option maxHeartbeats 1000000
/-! CL34: the shape of drawn conditions and rules -/
namespace CL
open PySem PySem.Spec PyProof.Rows L2
theorem q_ev0 : (true = true) = True := eq_self true
mutual
/-- all lists of parts have one to six -/
def wsh : Cd → Bool
  | .rg _ _ _ => true
  | .no c => wsh c
  | .al _ cs => decide (1 ≤ cs.length ∧ cs.length ≤ 6) && wshs cs
def wshs : List Cd → Bool
  | [] => true
  | c :: r => wsh c && wshs r
end
theorem wshs_of : ∀ {cs : List Cd}, (∀ c ∈ cs, wsh c = true) → wshs cs = true
  | [], _ => rfl
  | c :: r, h => by rw [wshs, h c List.mem_cons_self, wshs_of fun d hd => h d (List.mem_cons_of_mem _ hd)]; rfl
theorem wshs_mem : ∀ {cs : List Cd}, wshs cs = true → ∀ c ∈ cs, wsh c = true
  | [], _, c, h => absurd h (by simp)
  | d :: r, w, c, h => by
    rw [wshs, Bool.and_eq_true] at w
    rcases List.mem_cons.mp h with e | e
    · rw [e]; exact w.1
    · exact wshs_mem w.2 c e
/-- drawn at most so deep -/
def shC (k : Nat) (c : Cd) : Prop := wsh c = true ∧ dp c ≤ k ∧ (ins c).length ≤ 3 ^ k
theorem shC.mono {k l : Nat} {c : Cd} (h : shC k c) (hl : k ≤ l) : shC l c := ⟨h.1, by have := h.2.1; omega, Nat.le_trans h.2.2 (Nat.pow_le_pow_right (by decide) hl)⟩
theorem shC_rg {k : Nat} {m lo hi : Int} : shC k (.rg m lo hi) := ⟨rfl, Nat.zero_le _, by
  show 1 ≤ 3 ^ k
  exact Nat.pow_pos (by decide)⟩
theorem shC_no {k : Nat} {c : Cd} (h : shC k c) : shC (k + 1) (.no c) := ⟨h.1, by rw [dp]; have := h.2.1; omega, by rw [ins]; exact Nat.le_trans h.2.2 (Nat.pow_le_pow_right (by decide) (by omega))⟩
theorem shC_al {k : Nat} {b : Bool} {cs : List Cd} (h1 : 1 ≤ cs.length) (h3 : cs.length ≤ 3) (h : ∀ c ∈ cs, shC k c) : shC (k + 1) (.al b cs) := by
  refine ⟨?_, ?_, ?_⟩
  · rw [wsh, wshs_of fun c hc => (h c hc).1, decide_eq_true ⟨h1, by omega⟩]; rfl
  · rw [dp]; have := dps_le (n := k) fun c hc => (h c hc).2.1; omega
  · rw [ins, inss_map]
    have key : ∀ l : List Cd, (∀ c ∈ l, shC k c) → (l.flatMap ins).length ≤ 3 ^ k * l.length := fun l hl => by
      induction l with
      | nil => simp
      | cons c l ih =>
        have a := (hl c List.mem_cons_self).2.2
        have b := ih fun d hd => hl d (List.mem_cons_of_mem _ hd)
        rw [List.flatMap_cons, List.length_append, List.length_cons, Nat.mul_add]
        omega
    have a := key cs h
    have b : 3 ^ k * cs.length ≤ 3 ^ k * 3 := Nat.mul_le_mul_left _ h3
    have e : 3 ^ (k + 1) = 3 ^ k * 3 := rfl
    omega
/-- drawn rules: t, behind so many rows the conditions are small -/
structure shR (t : Nat) (r : Rl) : Prop where
  rows : r.rows.length ≤ 6
  cd : ∀ x ∈ r.rows, shC 2 x.2
  few : t < r.rows.length → ∀ x ∈ r.rows, shC 1 x.2
  names : ∃ ss : List Str, ss.length ≤ 5 ∧ (∀ x ∈ ss, x ∈ forms8) ∧ r.last ∈ ss ∧ ∀ x ∈ r.rows, x.1 ∈ ss
/-- rules near them -/
structure shB (r : Rl) : Prop where
  rows : r.rows.length ≤ 7
  cd : ∀ x ∈ r.rows, shC 2 x.2
theorem shR.B {t : Nat} {r : Rl} (h : shR t r) : shB r := ⟨by have := h.rows; omega, h.cd⟩
/-! loops, by what stands behind so many turns -/
theorem m_forS {G : MG} {p : MS} {vs : List Nat} {v : Cv} {xs : List Cv} {gs g2 : MEnv} (h : (G v gs).bind p = some (.nx g2)) : mForL G p vs (v :: xs) gs = mForL G p vs xs (mwipe g2 vs) := by
  obtain ⟨g1, e1, e2⟩ := bind_some h
  rw [q_forL, e1, Option.bind_some, e2, Option.bind_some, q_loopN]
theorem m_forP_go {α : Type} (e : α → Cv) {G : MG} {p : MS} {vs : List Nat} (St : List α → MEnv) : ∀ (l2 l1 : List α), (∀ m1 a m2, l1 ++ l2 = m1 ++ a :: m2 → ∃ g2, (G (e a) (St m1)).bind p = some (.nx g2) ∧ mwipe g2 vs = St (m1 ++ [a])) → mForL G p vs (l2.map e) (St l1) = some (.nx (St (l1 ++ l2)))
  | [], l1, _ => by rw [List.append_nil]; rfl
  | a :: l2, l1, h => by
    obtain ⟨g2, e1, e2⟩ := h l1 a l2 rfl
    rw [List.map_cons, m_forS e1, e2, m_forP_go e St l2 (l1 ++ [a]) fun m1 b m2 q => h m1 b m2 (by rw [← q, List.append_assoc]; rfl), List.append_assoc]
    rfl
theorem m_forP {α : Type} (e : α → Cv) {G : MG} {p : MS} {vs : List Nat} (St : List α → MEnv) (as : List α) (h : ∀ m1 a m2, as = m1 ++ a :: m2 → ∃ g2, (G (e a) (St m1)).bind p = some (.nx g2) ∧ mwipe g2 vs = St (m1 ++ [a])) : mForL G p vs (as.map e) (St []) = some (.nx (St as)) :=
  m_forP_go e St as [] h
theorem x_forP_go {α : Type} (e : α → Cv) {G : MG} {p : XS} {vs : List Nat} (St : List α → MEnv) : ∀ (l2 l1 : List α), (∀ m1 a m2, l1 ++ l2 = m1 ++ a :: m2 → ∃ g2, (G (e a) (St m1)).bind p = some (.nx g2) ∧ mwipe g2 vs = St (m1 ++ [a])) → xForL G p vs (l2.map e) (St l1) = some (.nx (St (l1 ++ l2)))
  | [], l1, _ => by rw [List.append_nil]; rfl
  | a :: l2, l1, h => by
    obtain ⟨g2, e1, e2⟩ := h l1 a l2 rfl
    rw [List.map_cons, w_forS e1, e2, x_forP_go e St l2 (l1 ++ [a]) fun m1 b m2 q => h m1 b m2 (by rw [← q, List.append_assoc]; rfl), List.append_assoc]
    rfl
theorem x_forP {α : Type} (e : α → Cv) {G : MG} {p : XS} {vs : List Nat} (St : List α → MEnv) (as : List α) (h : ∀ m1 a m2, as = m1 ++ a :: m2 → ∃ g2, (G (e a) (St m1)).bind p = some (.nx g2) ∧ mwipe g2 vs = St (m1 ++ [a])) : xForL G p vs (as.map e) (St []) = some (.nx (St as)) :=
  x_forP_go e St as [] h
theorem q_rngN {n : Nat} (h : n ≤ 1000000000) : fRng1 [.int ((n : Nat) : Int)] = some ((List.range' 0 n).map fun (k : Nat) => Cv.int (k : Nat)) := by
  rw [q_rngI (k := ((n : Nat) : Int)) (by omega), iota_nat, Int.toNat_natCast]
end CL

set_option Elab.async false
set_option linter.all false
set_option maxRecDepth 100000
set_option maxHeartbeats 1000000
/-! CL35: own dicts read where they stand; written in defs that draw -/
namespace CL
open PySem PySem.Spec PyProof.Rows L2
theorem slD_of {B S : Sto} {gs : MEnv} {ws : CL.Env} {i : Nat} {d : Cv} (V : View B S gs ws) (e0 : (slO gs[i]?).bind dkOnly = some d) : ∃ p kws, d = .dK kws ∧ gs[i]? = some (.ow (.dK kws)) ∧ ws[i]? = some (some (.ref p)) ∧ S p = some (.dK kws) := by
  obtain ⟨d0, e0', e4⟩ := bind_some e0
  cases d0 <;> cases e4
  have e0' := slO_some e0'
  obtain ⟨p, o, f1, f2, f3, f4⟩ := V.ow _ _ e0'
  cases obv_dK f3
  exact ⟨p, _, rfl, e0', f1, f2⟩
theorem derefK_own {S : Sto} {p : Addr} {kws : List (Key × Cv)} (h : S p = some (.dK kws)) : derefK (.ref p) S = some kws := by
  unfold derefK deref
  simp only [h]
def mOIx (i : Nat) (b : ME) : ME := fun gs => ((slO gs[i]?).bind dkOnly).bind fun d => (b gs).bind fun y => fDIx d y
def mOIn (ng : Bool) (b : ME) (i : Nat) : ME := fun gs => (b gs).bind fun y => ((slO gs[i]?).bind dkOnly).bind fun d => fDIn ng y d
def mOGet2 (i : Nat) (b c : ME) : ME := fun gs => ((slO gs[i]?).bind dkOnly).bind fun d => (b gs).bind fun y => (c gs).bind fun z => fDGet2 d y z
def mOGet1 (i : Nat) (b : ME) : ME := fun gs => ((slO gs[i]?).bind dkOnly).bind fun d => (b gs).bind fun y => fDGet1 d y
section
variable {ty tz : CE} {b c : ME} {i : Nat}
theorem ev_oIx (hb : Ev ty b) : Ev (cDIx (cVar i) ty) (mOIx i b) := ⟨mo_dIx mo_var hb.mono, fun V e q => by
  obtain ⟨d, e1, e⟩ := bind_some e
  obtain ⟨y, e2, e⟩ := bind_some e
  obtain ⟨p, kws, rfl, e3, f1, f2⟩ := slD_of V e1
  refine x_var f1 (hb.ok V e2 ?_)
  obtain ⟨k, e5, e⟩ := bind_some (show (keyC y).bind _ = some _ from e)
  rw [derefK_own f2, e5]
  show match valC _ k with | some w => _ | none => False
  rw [e]; exact q⟩
theorem ev_oIn {ng : Bool} (hb : Ev ty b) : Ev (cDIn ng ty (cVar i)) (mOIn ng b i) := ⟨mo_dIn hb.mono mo_var, fun V e q => by
  obtain ⟨y, e2, e⟩ := bind_some e
  obtain ⟨d, e1, e⟩ := bind_some e
  obtain ⟨p, kws, rfl, e3, f1, f2⟩ := slD_of V e1
  refine hb.ok V e2 (x_var f1 ?_)
  obtain ⟨k, e5, e⟩ := map_some' (show (keyC y).map _ = some _ from e)
  subst e
  rw [derefK_own f2, e5]
  exact q⟩
theorem ev_oGet2 (hb : Ev ty b) (hc : Ev tz c) : Ev (cDGet2 (cVar i) ty tz) (mOGet2 i b c) := ⟨mo_dGet2 mo_var hb.mono hc.mono, fun V e q => by
  obtain ⟨d, e1, e⟩ := bind_some e
  obtain ⟨y, e2, e⟩ := bind_some e
  obtain ⟨z, e4, e⟩ := bind_some e
  obtain ⟨p, kws, rfl, e3, f1, f2⟩ := slD_of V e1
  refine x_var f1 ⟨by rw [derefK_own f2]; rfl, hb.ok V e2 (hc.ok V e4 ?_)⟩
  obtain ⟨k, e5, e⟩ := map_some' (show (keyC y).map _ = some _ from e)
  subst e
  rw [derefK_own f2, e5]
  exact q⟩
theorem ev_oGet1 (hb : Ev ty b) : Ev (cDGet1 (cVar i) ty) (mOGet1 i b) := ⟨mo_dGet1 mo_var hb.mono, fun V e q => by
  obtain ⟨d, e1, e⟩ := bind_some e
  obtain ⟨y, e2, e⟩ := bind_some e
  obtain ⟨p, kws, rfl, e3, f1, f2⟩ := slD_of V e1
  refine x_var f1 ⟨by rw [derefK_own f2]; rfl, hb.ok V e2 ?_⟩
  obtain ⟨k, e5, e⟩ := map_some' (show (keyC y).map _ = some _ from e)
  subst e
  rw [derefK_own f2, e5]
  exact q⟩
theorem q_oIx {gs : MEnv} : mOIx i b gs = ((slO gs[i]?).bind dkOnly).bind fun d => (b gs).bind fun y => fDIx d y := rfl
theorem q_oIn {ng : Bool} {gs : MEnv} : mOIn ng b i gs = (b gs).bind fun y => ((slO gs[i]?).bind dkOnly).bind fun d => fDIn ng y d := rfl
theorem q_oGet2 {gs : MEnv} : mOGet2 i b c gs = ((slO gs[i]?).bind dkOnly).bind fun d => (b gs).bind fun y => (c gs).bind fun z => fDGet2 d y z := rfl
theorem q_oGet1 {gs : MEnv} : mOGet1 i b gs = ((slO gs[i]?).bind dkOnly).bind fun d => (b gs).bind fun y => fDGet1 d y := rfl
theorem ss_dputX {bb : Bool} {W : WX'} {tv : CE} {a : ME} (hk : Ev ty b) (h : Ev tv a) : EvXS bb W (cDPut (cVar i) ty tv) (xM (mDPut i b a)) := ⟨mo_dPut h.mono mo_var hk.mono, fun {P B S gs ws D r} hb V e q => by
  obtain ⟨r1, e1, e⟩ := bind_some e
  obtain ⟨d, e0, e1⟩ := bind_some e1
  obtain ⟨v, e2, e1⟩ := bind_some e1
  obtain ⟨y, e3, e1⟩ := bind_some e1
  obtain ⟨d', e4, e1⟩ := map_some' e1
  subst e1
  cases e
  obtain ⟨p, kws, rfl, e5, f1, f2⟩ := slD_of V.v e0
  refine h.ok V.v e2 (x_var f1 (hk.ok V.v e3 ?_))
  unfold mDPut.fDPut at e4
  simp only [] at e4
  split at e4
  · rename_i hl
    obtain ⟨key, e6, e4⟩ := map_some' e4
    subst e4
    rw [e6]
    exact ownD_to f2 ⟨Nat.lt_of_lt_of_le (of_decide_eq_true hl) (by decide), q _ _ (V.same (V.v.chg e5 f1 rfl))⟩
  · cases e4⟩
end
end CL

set_option Elab.async false
set_option linter.all false
set_option maxRecDepth 100000
set_option maxHeartbeats 1000000
/-! CL36: rules by how great they are -/
namespace CL
open PySem PySem.Spec PyProof.Rows L2
structure gC (D N : Nat) (c : Cd) : Prop where
  sh : wsh c = true
  dp : CL.dp c ≤ D
  ins : (CL.ins c).length ≤ N
  ok : ∀ g ∈ CL.ins c, okRg g
theorem gC.mono {D N D' N' : Nat} {c : Cd} (h : gC D N c) (hd : D ≤ D') (hn : N ≤ N') : gC D' N' c := ⟨h.sh, Nat.le_trans h.dp hd, Nat.le_trans h.ins hn, h.ok⟩
theorem gC_rg {D N : Nat} {g : Rg} (h : okRg g) (hn : 1 ≤ N) : gC D N (.rg g.1 g.2.1 g.2.2) := ⟨rfl, Nat.zero_le _, hn, by simpa [ins] using h⟩
mutual
theorem ins_pos : ∀ {c : Cd}, wsh c = true → 1 ≤ (ins c).length
  | .rg _ _ _, _ => Nat.le_refl _
  | .no c, h => by rw [ins]; exact ins_pos (c := c) h
  | .al b cs, h => by
    rw [wsh, Bool.and_eq_true, decide_eq_true_eq] at h
    rw [ins]
    exact Nat.le_trans h.1.1 (inss_pos h.2)
theorem inss_pos : ∀ {cs : List Cd}, wshs cs = true → cs.length ≤ (inss cs).length
  | [], _ => Nat.zero_le _
  | c :: r, h => by
    rw [wshs, Bool.and_eq_true] at h
    have a := ins_pos h.1
    have b := inss_pos h.2
    rw [inss, List.length_append, List.length_cons]; omega
end
mutual
theorem blk_le : ∀ {c : Cd}, wsh c = true → ∀ {D : Nat}, dp c ≤ D → blk (enc c) ≤ (ins c).length * (7 + 6 * D)
  | .rg _ _ _, _, D, _ => by
    show 6 ≤ 1 * (7 + 6 * D)
    omega
  | .no c, h, D, hd => by
    rw [dp] at hd
    obtain ⟨D, rfl⟩ : ∃ E, D = E + 1 := ⟨D - 1, by omega⟩
    have a := blk_le (c := c) h (D := D) (by omega)
    have p := ins_pos (c := c) h
    rw [enc, ins]
    show 3 + 1 + (blk (enc c) + 1 + 0) ≤ _
    have : (ins c).length * (7 + 6 * (D + 1)) = (ins c).length * (7 + 6 * D) + (ins c).length * 6 := by
      rw [← Nat.mul_add, show 7 + 6 * (D + 1) = 7 + 6 * D + 6 by omega]
    omega
  | .al b cs, h, D, hd => by
    rw [wsh, Bool.and_eq_true, decide_eq_true_eq] at h
    rw [dp] at hd
    obtain ⟨D, rfl⟩ : ∃ E, D = E + 1 := ⟨D - 1, by omega⟩
    have a := blks_le' h.2 (D := D) (by omega)
    have p := inss_pos h.2
    have e : blk (.str (if b = true then "all" else "any")) = 3 := by cases b <;> rfl
    rw [enc, ins]
    show blk (.str (if b = true then "all" else "any")) + 1 + (blks (encs cs) + 1 + 0) ≤ _
    rw [e]
    have : (inss cs).length * (7 + 6 * (D + 1)) = (inss cs).length * (7 + 6 * D) + (inss cs).length * 6 := by
      rw [← Nat.mul_add, show 7 + 6 * (D + 1) = 7 + 6 * D + 6 by omega]
    omega
theorem blks_le' : ∀ {cs : List Cd}, wshs cs = true → ∀ {D : Nat}, dps cs ≤ D → blks (encs cs) ≤ (inss cs).length * (7 + 6 * D) + cs.length
  | [], _, D, _ => Nat.zero_le _
  | c :: r, h, D, hd => by
    rw [wshs, Bool.and_eq_true] at h
    rw [dps] at hd
    have a := blk_le h.1 (D := D) (by omega)
    have b := blks_le' h.2 (D := D) (by omega)
    rw [encs, inss, List.length_append, List.length_cons, Nat.add_mul]
    show blk (enc c) + 1 + blks (encs r) ≤ _
    omega
end
mutual
theorem wd_le : ∀ {c : Cd}, wsh c = true → wd c ≤ 6
  | .rg _ _ _, _ => Nat.zero_le _
  | .no c, h => by rw [wd]; exact wd_le (c := c) h
  | .al b cs, h => by
    rw [wsh, Bool.and_eq_true, decide_eq_true_eq] at h
    have := wds_le6 h.2
    rw [wd]; omega
theorem wds_le6 : ∀ {cs : List Cd}, wshs cs = true → wds cs ≤ 6
  | [], _ => Nat.zero_le _
  | c :: r, h => by
    rw [wshs, Bool.and_eq_true] at h
    have a := wd_le h.1
    have b := wds_le6 h.2
    rw [wds]; omega
end
theorem gC.D {D N : Nat} {c : Cd} (h : gC D N c) (hd : D ≤ 5) (hn : N ≤ 150) : goodD c := by
  refine ⟨Nat.le_trans h.dp hd, by have := h.ins; omega, h.ok, by have := wd_le h.sh; omega, ?_⟩
  have a := blk_le h.sh (D := 5) (Nat.le_trans h.dp hd)
  have b : (CL.ins c).length ≤ 150 := Nat.le_trans h.ins hn
  omega
structure gR (D N W : Nat) (r : Rl) : Prop where
  rows : r.rows.length ≤ W
  last : isWord r.last = true
  cd : ∀ x ∈ r.rows, isWord x.1 = true ∧ gC D N x.2
theorem gR.B {D N W : Nat} {r : Rl} (h : gR D N W r) (hd : D ≤ 5 := by decide) (hn : N ≤ 150 := by decide) (hw : W ≤ 20 := by decide) : goodB r :=
  ⟨Nat.le_trans h.rows hw, h.last, fun x hx => ⟨(h.cd x hx).1, (h.cd x hx).2.D hd hn⟩⟩
theorem gR.mono {D N W D' N' W' : Nat} {r : Rl} (h : gR D N W r) (hd : D ≤ D' := by decide) (hn : N ≤ N' := by decide) (hw : W ≤ W' := by decide) : gR D' N' W' r :=
  ⟨Nat.le_trans h.rows hw, h.last, fun x hx => ⟨(h.cd x hx).1, (h.cd x hx).2.mono hd hn⟩⟩
theorem gC.shC {c : Cd} (h : gC 2 9 c) : shC 2 c := ⟨h.sh, h.dp, h.ins⟩
theorem gC_of {k : Nat} {c : Cd} (h : goodD c) (s : shC k c) : gC k (3 ^ k) c := ⟨s.1, s.2.1, s.2.2, h.2.2.1⟩
theorem gR_of {t : Nat} {r : Rl} (h : goodR r) (s : shR t r) : gR 2 9 6 r := ⟨s.rows, h.B.2.1, fun x hx => ⟨(h.B.2.2 x hx).1, gC_of (h.2.2 x hx).2 (s.cd x hx)⟩⟩
theorem gR.shB {r : Rl} (h : gR 2 9 7 r) : shB r := ⟨h.rows, fun x hx => (h.cd x hx).2.shC⟩
theorem gR_ofB {r : Rl} (h : goodB r) (s : shB r) : gR 2 9 7 r := ⟨s.rows, h.2.1, fun x hx => ⟨(h.2.2 x hx).1, gC_of (h.2.2 x hx).2 (s.cd x hx)⟩⟩
theorem gR.sub {D N W : Nat} {r s : Rl} (h : gR D N W r) (e : s.last = r.last) (hl : s.rows.length ≤ r.rows.length) (hs : ∀ x ∈ s.rows, x ∈ r.rows) : gR D N W s :=
  ⟨Nat.le_trans hl h.rows, by rw [e]; exact h.last, fun x hx => h.cd x (hs x hx)⟩
theorem goodB.small {r : Rl} (h : goodB r) : smallV (eR r) = true ∧ dep (eR r) ≤ 14 ∧ blk (eR r) ≤ 128450 := by
  obtain ⟨h1, h2, h3⟩ := h
  obtain ⟨l1, l2⟩ := word_small h2
  obtain ⟨a, b⟩ := rowsB_small h3
  refine ⟨?_, ?_, ?_⟩
  · show (smallVs (r.rows.map eRow) && (smallV (.str r.last) && true)) = true
    rw [a, l1]; rfl
  · show max (deps (r.rows.map eRow) + 1) (max (dep (.str r.last)) 0) + 1 ≤ 14
    have e : dep (.str r.last) = 0 := rfl
    omega
  · have bl : ∀ l : List (Str × Cd), (∀ x ∈ l, blk (eRow x) ≤ 6420) → blks (l.map eRow) ≤ 6421 * l.length := fun l => by
      induction l with
      | nil => intro _; exact Nat.zero_le _
      | cons x l ih =>
        intro hx
        have a := hx x List.mem_cons_self
        have b := ih fun y hy => hx y (List.mem_cons_of_mem _ hy)
        show blk (eRow x) + 1 + blks (l.map eRow) ≤ _
        rw [List.length_cons]
        omega
    have := bl r.rows fun x hx => by
      have f2 := (word_small (h3 x hx).1).2
      have c4 := (h3 x hx).2.2.2.2.2
      show blk (.str x.1) + 1 + (blk (enc x.2) + 1 + 0) ≤ 6420
      omega
    show blks (r.rows.map eRow) + 1 + (blk (.str r.last) + 1 + 0) ≤ 128450
    omega
theorem rOk_pair {a b : Cv} (h1 : smallV a = true ∧ dep a ≤ 14 ∧ blk a ≤ 128450) (h2 : smallV b = true ∧ dep b ≤ 14 ∧ blk b ≤ 128450) : rOk (.tup [a, b]) = true := by
  unfold rOk
  rw [Bool.and_eq_true, Bool.and_eq_true]
  refine ⟨⟨?_, decide_eq_true ?_⟩, decide_eq_true ?_⟩
  · show (smallV a && (smallV b && true)) = true
    rw [h1.1, h2.1]; rfl
  · show max (dep a) (max (dep b) 0) + 1 ≤ 64
    omega
  · show blk a + 1 + (blk b + 1 + 0) ≤ 500000
    omega
/-! dicts by their keys -/
theorem valC_put {κ : Type} [DecidableEq κ] {kws : List (κ × Cv)} {k k' : κ} {v : Cv} : valC (putC kws k v) k' = if k' = k then some v else valC kws k' := by
  unfold valC putC
  by_cases h : (kws.any fun kv => decide (kv.1 = k)) = true
  · rw [if_pos h]
    induction kws with
    | nil => simp at h
    | cons p r ih =>
      rw [List.map_cons, List.find?_cons, List.find?_cons]
      by_cases hp : p.1 = k
      · rw [if_pos hp]
        by_cases e : k' = k
        · rw [if_pos e, show decide (p.1 = k') = true from decide_eq_true (by rw [hp, e])]; rfl
        · rw [if_neg e, show decide (p.1 = k') = false from decide_eq_false (by rw [hp]; exact fun z => e z.symm)]
          by_cases hr : (r.any fun kv => decide (kv.1 = k)) = true
          · have := ih hr
            rw [if_neg e] at this
            exact this
          · have er : r.map (fun kv => if kv.1 = k then (kv.1, v) else kv) = r := by
              conv => rhs; rw [← List.map_id r]
              refine List.map_congr_left fun q hq => ?_
              by_cases hk : q.1 = k
              · exact absurd (List.any_eq_true.mpr ⟨q, hq, decide_eq_true hk⟩) hr
              · rw [if_neg hk]; rfl
            simp only [er]
      · rw [if_neg hp]
        rw [List.any_cons, decide_eq_false hp, Bool.false_or] at h
        cases hd : decide (p.1 = k') with
        | true =>
          have := of_decide_eq_true hd
          rw [if_neg (fun e => hp (by rw [this, e]))]
        | false => exact ih h
  · rw [if_neg h, List.find?_append]
    by_cases e : k' = k
    · subst e
      have : kws.find? (fun kv => decide (kv.1 = k')) = none := by
        rw [List.find?_eq_none]
        intro q hq hk
        exact h (List.any_eq_true.mpr ⟨q, hq, hk⟩)
      rw [this, if_pos rfl, List.find?_cons, decide_eq_true rfl]; rfl
    · rw [if_neg e, List.find?_cons, decide_eq_false (fun z => e z.symm)]
      cases kws.find? (fun kv => decide (kv.1 = k')) <;> rfl
theorem valC_fold_ne {κ α : Type} [DecidableEq κ] {K : α → κ} {F : α → Cv} {k : κ} : ∀ {as : List α} {acc : List (κ × Cv)}, (∀ a ∈ as, K a ≠ k) → valC (as.foldl (fun acc a => putC acc (K a) (F a)) acc) k = valC acc k
  | [], _, _ => rfl
  | a :: as, acc, h => by
    rw [List.foldl_cons, valC_fold_ne fun b hb => h b (List.mem_cons_of_mem _ hb), valC_put, if_neg (fun e => h a List.mem_cons_self e.symm)]
theorem valC_fold {κ α : Type} [DecidableEq κ] {K : α → κ} {F : α → Cv} {k : κ} : ∀ {as : List α} {acc : List (κ × Cv)}, (∃ a ∈ as, K a = k) → ∃ a ∈ as, K a = k ∧ valC (as.foldl (fun acc a => putC acc (K a) (F a)) acc) k = some (F a)
  | [], _, h => by obtain ⟨a, ha, _⟩ := h; cases ha
  | a :: as, acc, h => by
    by_cases hr : ∃ b ∈ as, K b = k
    · obtain ⟨b, hb, e, v⟩ := valC_fold (acc := putC acc (K a) (F a)) hr
      exact ⟨b, List.mem_cons_of_mem _ hb, e, v⟩
    · obtain ⟨b, hb, e⟩ := h
      have ea : K a = k := by
        rcases List.mem_cons.mp hb with z | z
        · rw [← z]; exact e
        · exact absurd ⟨b, z, e⟩ hr
      exact ⟨a, List.mem_cons_self, ea, by rw [List.foldl_cons, valC_fold_ne fun b hb eb => hr ⟨b, hb, eb⟩, valC_put, if_pos ea.symm]⟩
theorem pairs_zip {α : Type} (e : α → Cv) : ∀ (ws : List α) (i : Nat), pairsFrom i (ws.map e) = (ws.zipIdx i).map fun p => .tup [.int ((p.2 : Nat) : Int), e p.1]
  | [], _ => rfl
  | w :: ws, i => by rw [List.map_cons, pairsFrom, pairs_zip e ws (i + 1), List.zipIdx_cons, List.map_cons]
theorem zip_split {α : Type} : ∀ {ws : List α} {i : Nat} {m1 m2 : List (α × Nat)} {a : α × Nat}, ws.zipIdx i = m1 ++ a :: m2 → a.2 = i + m1.length ∧ ws[m1.length]? = some a.1 ∧ m1 = (ws.take m1.length).zipIdx i
  | [], _, m1, _, _, h => by
    rw [List.zipIdx_nil] at h
    cases m1 <;> cases h
  | w :: ws, i, [], m2, a, h => by
    rw [List.zipIdx_cons] at h
    injection h with h1 h2
    rw [← h1]; exact ⟨rfl, rfl, rfl⟩
  | w :: ws, i, p :: m1, m2, a, h => by
    rw [List.zipIdx_cons] at h
    injection h with h1 h2
    obtain ⟨a1, a2, a3⟩ := zip_split h2
    refine ⟨by rw [a1, List.length_cons]; omega, by rw [List.length_cons, List.getElem?_cons_succ]; exact a2, ?_⟩
    rw [List.length_cons, List.take_succ_cons, List.zipIdx_cons, ← h1, ← a3]
theorem q_ixS {z : Str} {i : Int} {c : Nat} (hl : z.length ≤ 1000000) (h : atI z.cps.toList i = some c) : fIx (.str z) (.int i) = some (.str ⟨#[c]⟩) := by
  show (if lenOk z.length = true then _ else none) = _
  rw [if_pos (decide_eq_true hl), h]; rfl
end CL

set_option Elab.async false
set_option linter.all false
set_option maxRecDepth 100000
set_option maxHeartbeats 1000000
/-! CL37: sorted(d.items()) of a dict from texts to texts -/
namespace CL
open PySem PySem.Spec PyProof.Rows L2
open Srt SrtO
section
variable {prog : Program} {w : World} {A : Around} {E : Value → Shared → Prop} {s : Shared}
/-- a tuple of two texts -/
def IsP2 (h : Heap) (v : Value) (p : Str × Str) : Prop := ∃ (a : Addr) (o : Obj) (t u : Tok) (n : Nat), v = .ref a ∧ h.get? a = some o ∧ o.cls = .type "tuple" ∧ o.data = .seq #[.str p.1 t, .str p.2 u] n
theorem IsP2.keeps {h h' : Heap} {v : Value} {p : Str × Str} (x : IsP2 h v p) (k : ∀ b o, h.get? b = some o → o.cls = .type "tuple" → h'.get? b = some o) : IsP2 h' v p := by
  obtain ⟨a, o, t, u, n, e, ho, hc, hd⟩ := x
  exact ⟨a, o, t, u, n, e, k _ _ ho hc, hc, hd⟩
def ltp (p q : Str × Str) : Bool := ltCps p.1.cps.toList q.1.cps.toList
theorem firsts2 {h : Heap} {g : Value → Str × Str} : ∀ vs : List Value, (∀ v ∈ vs, IsP2 h v (g v)) → ∃ fs : List Value, PySem.W.KatTups h vs fs ∧ fs.length = vs.length ∧ ∀ f ∈ fs, ∃ x t, f = Value.str x t
  | [], _ => ⟨[], trivial, rfl, fun _ h => nomatch h⟩
  | v :: vs, x => by
    obtain ⟨fs, k, l, i⟩ := firsts2 vs fun v hv => x v (List.mem_cons_of_mem _ hv)
    obtain ⟨a, o, t, u, n, e, ho, hc, hd⟩ := x v List.mem_cons_self
    refine ⟨.str (g v).1 t :: fs, ⟨⟨a, o, _, n, e, ho, hc, hd, rfl⟩, k⟩, by rw [List.length_cons, List.length_cons, l], fun f hf => ?_⟩
    rcases List.mem_cons.mp hf with e | hf
    · exact ⟨_, _, e⟩
    · exact i f hf
theorem ltp_asym {x y : Str × Str} (h : ltp x y = true) : ltp y x = false := by
  cases e : ltp y x with
  | false => rfl
  | true => have := ltc_trans _ _ _ h e; rw [ltc_irr] at this; cases this
theorem ltp_tr {x y z : Str × Str} (h1 : ltp y x = false) (h2 : ltp z y = false) : ltp z x = false := by
  have a : leS x.1 y.1 = true := by unfold leS; unfold ltp at h1; rw [h1]; rfl
  have b : leS y.1 z.1 = true := by unfold leS; unfold ltp at h2; rw [h2]; rfl
  have c := leS_trans a b
  unfold leS at c
  unfold ltp
  simpa using c
theorem swo_ltp (g : Value → Str × Str) : Swo fun v u => ltp (g v) (g u) := ⟨fun _ _ h => ltp_asym h, fun _ _ _ h1 h2 => ltp_tr h1 h2⟩
theorem sortable2 {a : Addr} {vs : List Value} {g : Value → Str × Str} (h0 : 0 < vs.length) (hp : ∀ v ∈ vs, IsP2 s.heap v (g v)) (hd : ∀ v ∈ vs, ∀ u ∈ vs, (g v).1 = (g u).1 → g v = g u) (ha : ∀ o, s.heap.get? a = some o → o.cls ≠ .type "tuple") : SortableO prog w A s a vs fun v u => ltp (g v) (g u) := by
  intro h' keep
  have hp' : ∀ v ∈ vs, IsP2 h' v (g v) := fun v hm => (hp v hm).keeps fun b o e c => keep b o (fun z => by subst z; exact ha o e c) e
  obtain ⟨fs, h1, h2, h3⟩ := firsts2 vs hp'
  refine ⟨tuples' true, fun Q E hq => ?_, ?_⟩
  · refine PySem.W.kat_kind (T := .type "str") h1 (by omega) (fun f hm => ?_) (by rfl) ?_
    · obtain ⟨x, t, rfl⟩ := h3 f hm
      exact PySem.W.Looks.now
    · have e : (Value.type "str" != Value.type "tuple") = true := by first | decide +kernel | rfl | decide
      rw [e]
      exact hq
  · intro p q hm hm'
    have e1 := hp' _ hm
    have e2 := hp' _ hm'
    have hdd := hd _ hm _ hm'
    show wpAny (model prog w) A (keyLt' (tuples' true) p.1 q.1) (fun r s' => s' = _ ∧ r = ltp (g p.1) (g q.1)) (fun _ _ => False) _
    unfold ltp
    generalize g p.1 = x at e1 hdd ⊢
    generalize g q.1 = y at e2 hdd ⊢
    obtain ⟨a, o, t, u, n, e, ho, hc, hd⟩ := e1
    obtain ⟨a', o', t', u', n', e', ho', hc', hd'⟩ := e2
    rw [e, e']
    refine PySem.W.kat_lt ho hd ho' hd' ?_
    show PySem.W.KatLex prog w A true (decide (2 < 2)) _ [(.str x.1 t, .str y.1 t'), (.str x.2 u, .str y.2 u')] 0 _
    refine PySem.W.kat_cons (SeqAt.EqAt.str_str x.1 t y.1 t' prog w _ _ ?_)
    refine PySem.W.kat_go (fun e1 => ?_) (fun e1 => ?_)
    · have ex : x.1 = y.1 := by simpa using e1
      have exy := hdd ex
      subst exy
      refine PySem.W.kat_yes (PySem.W.kat_cons (SeqAt.EqAt.str_str x.2 u x.2 u' prog w _ _ ?_))
      refine PySem.W.kat_go (fun e2 => ?_) (fun e2 => ?_)
      · exact PySem.W.kat_yes (PySem.W.kat_nil ⟨rfl, (ltc_irr _).symm⟩)
      · simp at e2
    · refine PySem.W.kat_no ?_
      refine oneLt_str ⟨rfl, ?_⟩
      exact lt_meets _ _
end
section
variable {X : Cx}
def rItemsK : V → List V → Hp → VK → Prop := fun x xs H Q => ∃ (a : Addr) (kvs : List (Key × V)), x = .ref a ∧ xs = [] ∧ H a = some (.dK kvs) ∧ ∀ p, H p = none → Q (.ref p) (upd H p (DX.itemsO p a))
theorem mt_itemsK : MtR X "dict.items" rItemsK := by
  intro pins s σ H x xs v us Q I rx rxs h
  obtain ⟨a, kvs, rfl, rfl, ha, q⟩ := h
  cases rx
  cases rxs
  obtain ⟨hz, hs0, vs, kv, hdo⟩ := I.hok a _ ha
  refine call_meetsIn PySem.F.slot_dict_items hdo.typeIs PySem.F.entry_dict_items (PySem.F.args_dict_items_1 _) (PySem.meets_dict_items (mixKind X.prog X.w) a hs0) ⟨⟨vs, hdo⟩, ?_⟩
  have hf : H s.heap.objs.size = none := I.hok.fresh (Nat.le_refl _)
  exact ⟨.ref s.heap.objs.size, upd H s.heap.objs.size (DX.itemsO s.heap.objs.size a), I.laid (t' := s.toks) (fun b u e => Heap.get?_push_of_some _ e) (Nat.le_refl _) (DX.itemsO_ok (Heap.get?_push_size _ rfl)), rfl, q _ hf⟩
theorem pairs_at {κ : Type} [DecidableEq κ] {P : Program} {w : World} {knd : PySem.KeyKind P w κ} : ∀ {es : List DictEntry} {kvs : List (κ × Value)} {j : Nat} {e : DictEntry}, PySem.Pairs knd es kvs → es[j]? = some e → ∃ kv, kvs[j]? = some kv ∧ knd.is kv.1 e.key = true ∧ e.val = kv.2
  | _, _, 0, _, .cons a b r, h => by cases Option.some.inj h; exact ⟨_, rfl, a, b⟩
  | _, _, j + 1, _, .cons (es := es) a b r, h => by
    obtain ⟨kv, h1, h2⟩ := pairs_at (j := j) r (show es[j]? = _ by simpa using h)
    exact ⟨kv, by simpa using h1, h2⟩
  | _, _, _, _, .nil, h => by simp at h
theorem kv_fst {κ : Type} : ∀ {kvs : List (κ × V)} {vs : List (κ × Value)}, KV kvs vs → kvs.map Prod.fst = vs.map Prod.fst
  | _, _, .nil => rfl
  | _, _, .cons a r => by rw [List.map_cons, List.map_cons, kv_fst r, a.1]
def entS (p : Str × Str) : Key × V := (Sum.inr p.1, .str p.2)
def rSortIt : List V → Hp → VK → Prop := fun vs H Q => ∃ (p a : Addr) (ks : List (Str × Str)), vs = [.ref p] ∧ H p = some (DX.itemsO p a) ∧ H a = some (.dK (ks.map entS)) ∧
  ∀ (H' : Hp) (l : Addr) (zs : List (Addr × Str × Str)), (∀ b o, H b = some o → H' b = some o) → (zs.map Prod.snd).Perm ks → (zs.map Prod.snd).Pairwise (fun e f => ltp f e = false) → H l = none → H' l = some (.lst (zs.map fun z => V.ref z.1)) →
    (∀ z ∈ zs, H z.1 = none ∧ H' z.1 = some (.tup [.str z.2.1, .str z.2.2])) → Q (.ref l) H'
theorem cr_sortIt (hc : X.calm = true) : CallR X (.builtin "sorted") rSortIt := by
  intro pins s σ H xs us Q I r h
  obtain ⟨p, a, ks, rfl, hp, ha, q⟩ := h
  rw [Vals.ref1 r]
  have view : s.heap.IsItemsView p a := (show ObjOk X.prog X.w H s.heap p (DX.itemsO p a) from I.hok p _ hp).1
  obtain ⟨hz, hs0, vs, kv, hdo⟩ := I.hok a _ ha
  obtain ⟨o, es, ep, ho, hx, hdat, hko, hpr, hnd⟩ := hdo
  have lk : (ks.map entS).length = vs.length := Paired.length kv
  have lk' : ks.length = vs.length := by rw [← lk, List.length_map]
  have nd : (ks.map Prod.fst).Nodup := by
    have e : vs.map Prod.fst = (ks.map Prod.fst).map Sum.inr := by
      rw [← kv_fst kv, List.map_map, List.map_map]
      rfl
    have hnd' : (vs.map Prod.fst).Nodup := hnd
    rw [e] at hnd'
    exact List.Pairwise.of_map _ (fun a b (h : (Sum.inr a : Key) ≠ Sum.inr b) e => h (by rw [e])) hnd'
  have les : es.size = vs.length := by rw [← Array.length_toList]; exact hpr.length
  refine DT.sortedI (es := es) (ep := ep) (I.ok.hd hc) view ⟨o, ho, hx, hdat⟩ (by omega) fun h' tk as hk hlt' hl hG => ?_
  have hlt : s.heap.objs.size ≤ h'.objs.size := Nat.le_of_lt hlt'
  have nda : as.Nodup := List.Pairwise.imp (fun h => Nat.ne_of_lt h) hG.rise
  have pr : ∀ (j : Nat) (b : Addr), as[j]? = some b → ∃ (e : Str × Str) (t u : Tok), ks[j]? = some e ∧ h'.get? b = some { cls := .type "tuple", data := .seq #[Value.str e.1 t, Value.str e.2 u] } := by
    intro j b hj
    obtain ⟨en, f1, f3⟩ := hG.pairs j b hj
    rw [← Array.getElem?_toList] at f1
    obtain ⟨kx, f4, f2, f5⟩ := pairs_at hpr f1
    obtain ⟨y, g1, g2⟩ := KV.at' kv (show vs[j]? = some (kx.1, kx.2) from f4)
    rw [List.getElem?_map] at g1
    cases e : ks[j]? with
    | none => rw [e] at g1; cases g1
    | some e' =>
      rw [e] at g1
      have ee : entS e' = (kx.1, y) := Option.some.inj g1
      obtain ⟨k0, x0⟩ := kx
      cases ee
      obtain ⟨t, et⟩ : ∃ t, en.key = Value.str e'.1 t := relV_key (k := (Sum.inr e'.1 : Key)) (show keyIs _ en.key = true from f2)
      obtain ⟨u, eu⟩ := g2
      rw [et, f5, eu] at f3
      exact ⟨e', t, u, rfl, f3⟩
  have hob : (h'.push { cls := .type "list", data := .seq (as.map Value.ref).toArray }).get? h'.objs.size = some (seqObj "list" (as.map Value.ref).toArray 0) := Heap.get?_push_size _ rfl
  have kb : ∀ b o, s.heap.get? b = some o → (h'.push { cls := .type "list", data := .seq (as.map Value.ref).toArray }).get? b = some o := fun b o e => Heap.get?_push_of_some _ (hk b o e)
  have ne0 : ∀ b o, h'.get? b = some o → b ≠ h'.objs.size := fun b o e => Nat.ne_of_lt (Heap.lt_size e)
  generalize hh2 : h'.push { cls := .type "list", data := .seq (as.map Value.ref).toArray } = h2 at hob kb ⊢
  have ka : ∀ b o, h'.get? b = some o → h2.get? b = some o := fun b o e => by rw [← hh2]; exact Heap.get?_push_of_some _ e
  -- the pair of an item
  let g : Value → Str × Str := fun v => match v with
    | .ref b => ((as.zip ks).find? fun z => decide (z.1 = b)).elim (⟨#[]⟩, ⟨#[]⟩) Prod.snd
    | _ => (⟨#[]⟩, ⟨#[]⟩)
  have gat : ∀ (j : Nat) (b : Addr) (e : Str × Str), as[j]? = some b → ks[j]? = some e → g (.ref b) = e := by
    intro j b e hj he
    show ((as.zip ks).find? fun z => decide (z.1 = b)).elim _ Prod.snd = e
    have hm : (b, e) ∈ as.zip ks := List.mem_of_getElem? (List.getElem?_zip_eq_some.mpr ⟨hj, he⟩ : (as.zip ks)[j]? = some (b, e))
    cases hf : (as.zip ks).find? fun z => decide (z.1 = b) with
    | none => exact absurd (List.find?_eq_none.mp hf _ hm) (by simp)
    | some z =>
      have h1 : z.1 = b := by simpa using List.find?_some hf
      obtain ⟨i, hi⟩ := List.mem_iff_getElem?.mp (List.mem_of_find?_eq_some hf)
      obtain ⟨i1, i2⟩ := List.getElem?_zip_eq_some.mp (show (as.zip ks)[i]? = some (z.1, z.2) from hi)
      rw [h1] at i1
      have eij : i = j := (List.getElem?_inj (List.getElem?_eq_some_iff.mp i1).1 nda).mp (i1.trans hj.symm)
      subst eij
      exact Option.some.inj (i2.symm.trans he)
  have at_ : ∀ v ∈ as.map Value.ref, ∃ (j : Nat) (b : Addr) (e : Str × Str), v = .ref b ∧ as[j]? = some b ∧ ks[j]? = some e ∧ g v = e := by
    intro v hv'
    obtain ⟨b, hb, rfl⟩ := List.mem_map.mp hv'
    obtain ⟨j, hj⟩ := List.mem_iff_getElem?.mp hb
    obtain ⟨e, _, _, he, _⟩ := pr j b hj
    exact ⟨j, b, e, rfl, hj, he, gat j b e hj he⟩
  have lak : as.length = ks.length := by omega
  refine wpAny_call_entry PyProof.Rows.slot_list_sort ⟨_, hob, rfl⟩ PyProof.Rows.entry_list_sort
    (SrtO.list_sort_ord (s := { s with heap := h2, toks := tk }) (swo_ltp g) hob (by rw [List.length_map]; omega) (fun h2' => sortable2 (s := { s with heap := h2, toks := tk }) (by omega) (fun v hv' => ?_) (fun v hv' u hu' e => ?_) (fun o e => ?_)) fun out o1 o2 => ⟨.none, rfl, ?_⟩) (PyProof.Rows.args_list_sort _)
  · obtain ⟨j, b, e, rfl, hj, he, ge⟩ := at_ v hv'
    obtain ⟨e', t, u, he', hg⟩ := pr j b hj
    have ee : e' = e := Option.some.inj (he'.symm.trans he)
    subst ee
    rw [ge]
    exact ⟨b, _, t, u, 0, rfl, ka _ _ hg, rfl, rfl⟩
  · obtain ⟨j, b, f, rfl, hj, he, ge⟩ := at_ v hv'
    obtain ⟨j2, b2, f2, rfl, hj2, he2, ge2⟩ := at_ u hu'
    rw [ge, ge2] at e ⊢
    have e1 : (ks.map Prod.fst)[j]? = some f.1 := by rw [List.getElem?_map, he]; rfl
    have e2 : (ks.map Prod.fst)[j2]? = some f2.1 := by rw [List.getElem?_map, he2]; rfl
    rw [← e] at e2
    have eij : j = j2 := (List.getElem?_inj (List.getElem?_eq_some_iff.mp e1).1 nd).mp (e1.trans e2.symm)
    subst eij
    exact Option.some.inj (he.symm.trans he2)
  · have e' : some o = some (seqObj "list" (as.map Value.ref).toArray 0) := e.symm.trans hob
    cases e'
    intro c
    exact absurd (Value.type.inj c) (by decide)
  · show EP X pins σ Q (.ref h'.objs.size) { s with heap := sortedHeap h2 h'.objs.size (as.map Value.ref) out.toArray, toks := tk }
    obtain ⟨zs, pz, ez⟩ := perm_lift (fun z : Addr × Str × Str => Value.ref z.1) o2.perm (as.zip ks) (by
      rw [show (fun z : Addr × Str × Str => Value.ref z.1) = Value.ref ∘ Prod.fst from rfl, ← List.map_map, List.map_fst_zip (by omega)])
    have idx : ∀ z ∈ zs, ∃ j : Nat, as[j]? = some z.1 ∧ ks[j]? = some z.2 := by
      intro z' hz'
      obtain ⟨j, hj⟩ := List.mem_iff_getElem?.mp (pz.mem_iff.mp hz')
      exact ⟨j, List.getElem?_zip_eq_some.mp hj⟩
    have hperm : (zs.map Prod.snd).Perm ks := by
      have e := pz.map Prod.snd
      have m2 : (as.zip ks).map Prod.snd = ks := List.map_snd_zip (by omega)
      rw [m2] at e
      exact e
    have hsort : (zs.map Prod.snd).Pairwise (fun e f => ltp f e = false) := by
      have o1' : out.Pairwise fun x y => ltp (g y) (g x) = false := o1
      rw [← ez, List.pairwise_map] at o1'
      rw [List.pairwise_map]
      refine List.Pairwise.imp_of_mem (fun {x y} hx hy h => ?_) o1'
      obtain ⟨j, j1, j2⟩ := idx x hx
      obtain ⟨i, i1, i2⟩ := idx y hy
      have h' : ltp (g (.ref y.1)) (g (.ref x.1)) = false := h
      rw [gat j _ _ j1 j2, gat i _ _ i1 i2] at h'
      exact h'
    have kF : ∀ b o, b ≠ h'.objs.size → h2.get? b = some o → (sortedHeap h2 h'.objs.size (as.map Value.ref) out.toArray).get? b = some o := fun b o hb e => (PyProof.Rows.sortedHeap_old hb (Heap.lt_size e)).trans e
    have kS : ∀ b o, s.heap.get? b = some o → (sortedHeap h2 h'.objs.size (as.map Value.ref) out.toArray).get? b = some o := fun b o e => kF b o (ne0 _ _ (hk b o e)) (kb b o e)
    obtain ⟨eF, heF⟩ := PyProof.Rows.sortedHeap_at (vs := as.map Value.ref) (out := out.toArray) hob
    have I1 : Inv X pins σ H { s with heap := sortedHeap h2 h'.objs.size (as.map Value.ref) out.toArray, toks := tk } := I.kept (t' := tk) kS
    have hn0 : H h'.objs.size = none := I.hok.fresh hlt
    have hlen : (zs.map fun z => V.ref z.1).length ≤ sizeLine := by
      have e := hperm.length_eq
      rw [List.length_map] at e ⊢
      omega
    have rv : Vals (zs.map fun z => V.ref z.1) out.toArray.toList := by
      rw [← ez]
      exact vals_maps (fun z : Addr × Str × Str => V.ref z.1) (fun z => Value.ref z.1) zs fun _ _ => rfl
    have I2 : Inv X pins σ (upd H h'.objs.size (.lst (zs.map fun z => V.ref z.1))) { s with heap := sortedHeap h2 h'.objs.size (as.map Value.ref) out.toArray, toks := tk } :=
      I1.take (h' := sortedHeap h2 h'.objs.size (as.map Value.ref) out.toArray) (t' := tk) (fun b ob _ e => e) (I.fpOk hlt hn0) ⟨hlen, out.toArray.toList, eF, rv, heF⟩
    obtain ⟨H2, I3, gg, qt⟩ := DX.takeT (P := fun b vs => ∃ (j : Nat) (e : Str × Str), as[j]? = some b ∧ ks[j]? = some e ∧ vs = [.str e.1, .str e.2]) I as _ I2 nda fun b hb => by
      obtain ⟨j, hj⟩ := List.mem_iff_getElem?.mp hb
      obtain ⟨e, t, u, he, hg⟩ := pr j b hj
      have hbl : s.heap.objs.size ≤ b := Nat.le_of_lt (hG.above b hb)
      refine ⟨hbl, ?_, [.str e.1, .str e.2], ⟨j, e, hj, he, rfl⟩, fun H3 => ⟨(by rw [sizeLine_eq]; show 2 ≤ 16777216; omega), [Value.str e.1 t, Value.str e.2 u], .cons ⟨t, rfl⟩ (.cons ⟨u, rfl⟩ .nil), ⟨_, kF _ _ (ne0 _ _ hg) (ka _ _ hg), rfl, 0, rfl⟩⟩⟩
      rw [upd_ne (ne0 _ _ hg)]
      exact I.hok.fresh hbl
    have gr : ∀ b o, H b = some o → H2 b = some o := fun b o e => gg b o (by rw [upd_ne (ne_of_none e hn0)]; exact e)
    refine ⟨.ref h'.objs.size, H2, I3, rfl, q H2 h'.objs.size zs gr hperm hsort hn0 (gg _ _ upd_same) fun z' hz' => ?_⟩
    obtain ⟨i, i1, i2⟩ := idx z' hz'
    obtain ⟨vs, ⟨j, e, j1, j2, ev⟩, hH⟩ := qt z'.1 (List.mem_of_getElem? i1)
    have eij : i = j := (List.getElem?_inj (List.getElem?_eq_some_iff.mp i1).1 nda).mp (i1.trans j1.symm)
    subst eij
    have ee : e = z'.2 := Option.some.inj (j2.symm.trans i2)
    rw [ev, ee] at hH
    exact ⟨I.hok.fresh (Nat.le_of_lt (hG.above _ (List.mem_of_getElem? i1))), hH⟩
end
/-! ### clean -/
def asSS : List (Key × Cv) → Option (List (Str × Str))
  | [] => some []
  | (.inr x, .str y) :: r => (asSS r).map fun l => (x, y) :: l
  | _ :: _ => none
theorem asSS_eq : ∀ {kws : List (Key × Cv)} {ks : List (Str × Str)}, asSS kws = some ks → kws = ks.map fun p => (Sum.inr p.1, Cv.str p.2)
  | [], _, e => by cases e; rfl
  | (k, w) :: r, ks, e => by
    cases k with
    | inl n => simp [asSS] at e
    | inr x =>
      cases w with
      | str y =>
        obtain ⟨l, e1, e2⟩ := map_some' (show (asSS r).map (fun l => (x, y) :: l) = some ks from by unfold asSS at e; exact e)
        subst e2
        rw [asSS_eq e1]; rfl
      | _ => simp [asSS] at e
theorem asSS_map : ∀ ks : List (Str × Str), asSS (ks.map fun p => (Sum.inr p.1, Cv.str p.2)) = some ks
  | [] => rfl
  | (x, y) :: r => by rw [List.map_cons, asSS, asSS_map r]; rfl
theorem rep_strs_inv {K : Fg} {Z : List Addr} {S : Sto} {H : Hp} : ∀ {ks : List (Str × Str)} {kvs : List (Key × V)}, RepKV K Z S H (ks.map fun p => (Sum.inr p.1, Cv.str p.2)) kvs → kvs = ks.map entS
  | [], [], _ => rfl
  | [], _ :: _, h => by cases h.1
  | _ :: _, [], h => by cases h.1
  | (x, y) :: ks, (k, v) :: kvs, h => by
    obtain ⟨h1, h2⟩ := h
    cases h2 with
    | cons a r =>
      have e := List.cons.inj h1
      cases a
      obtain ⟨e1, e2⟩ := e
      have e1 : (Sum.inr x : Key) = k := e1
      rw [rep_strs_inv (ks := ks) (kvs := kvs) ⟨e2, r⟩, ← e1]; rfl
def insP (x : Str × Str) : List (Str × Str) → List (Str × Str)
  | [] => [x]
  | y :: r => if leS x.1 y.1 = true then x :: y :: r else y :: insP x r
def sortP : List (Str × Str) → List (Str × Str)
  | [] => []
  | x :: r => insP x (sortP r)
theorem insP_perm (x : Str × Str) : ∀ l, (insP x l).Perm (x :: l)
  | [] => .refl _
  | y :: r => by
    rw [insP]
    split
    · exact .refl _
    · exact ((insP_perm x r).cons y).trans (.swap x y r)
theorem sortP_perm : ∀ l, (sortP l).Perm l
  | [] => .refl _
  | x :: r => (insP_perm x _).trans ((sortP_perm r).cons x)
theorem insP_fst (x : Str × Str) : ∀ l, (insP x l).map Prod.fst = insS x.1 (l.map Prod.fst)
  | [] => rfl
  | y :: r => by
    rw [insP, List.map_cons, insS]
    split
    · rfl
    · rw [List.map_cons, insP_fst x r]
theorem sortP_fst : ∀ l, (sortP l).map Prod.fst = sortS (l.map Prod.fst)
  | [] => rfl
  | x :: r => by rw [sortP, insP_fst, sortP_fst r]; rfl
theorem leS_ltp {p q : Str × Str} (h : ltp q p = false) : leS p.1 q.1 = true := by
  unfold leS; unfold ltp at h; rw [h]; rfl
/-- sorted pairs with distinct firsts are determined -/
theorem pairsP_uniq : ∀ {l m : List (Str × Str)}, UpS (l.map Prod.fst) → UpS (m.map Prod.fst) → (l.map Prod.fst).Nodup → l.Perm m → l = m
  | [], m, _, _, _, p => (List.nil_perm.mp p).symm
  | x :: r, [], _, _, _, p => by cases List.perm_nil.mp p
  | x :: r, y :: t, h, h', n, p => by
    have a := List.pairwise_cons.mp (show ((x.1 :: r.map Prod.fst).Pairwise fun a b => leS a b = true) from h)
    have b := List.pairwise_cons.mp (show ((y.1 :: t.map Prod.fst).Pairwise fun a b => leS a b = true) from h')
    have nn := List.nodup_cons.mp (show (x.1 :: r.map Prod.fst).Nodup from n)
    have e : x = y := by
      have hx : x ∈ y :: t := p.mem_iff.mp List.mem_cons_self
      have hy : y ∈ x :: r := p.mem_iff.mpr List.mem_cons_self
      rcases List.mem_cons.mp hx with e | e
      · exact e
      · rcases List.mem_cons.mp hy with e2 | e2
        · exact e2.symm
        · have e3 := leS_antisymm (a.1 _ (List.mem_map_of_mem e2)) (b.1 _ (List.mem_map_of_mem e))
          exact absurd (by rw [e3]; exact List.mem_map_of_mem e2) nn.1
    subst e
    rw [pairsP_uniq a.2 b.2 nn.2 ((List.perm_cons x).mp p)]
theorem sortP_eq {l m : List (Str × Str)} (p : l.Perm m) (n : (m.map Prod.fst).Nodup) (u : UpS (l.map Prod.fst)) : l = sortP m := by
  refine pairsP_uniq u (by rw [sortP_fst]; exact sortS_up _) ((p.map Prod.fst).nodup_iff.mpr n) (p.trans (sortP_perm m).symm)
def fSortIt : Cv → Option Cv
  | .dK kws => (asSS kws).bind fun ks => if decide (ks.map Prod.fst).Nodup = true then some (.lst ((sortP ks).map fun p => .tup [.str p.1, .str p.2])) else none
  | _ => none
theorem nr_sortIt (p : Addr) : fSortIt (.ref p) = none := rfl
theorem q_sortIt {ks : List (Str × Str)} (h : (ks.map Prod.fst).Nodup) : fSortIt (.dK (ks.map fun p => (Sum.inr p.1, Cv.str p.2))) = some (.lst ((sortP ks).map fun p => .tup [.str p.1, .str p.2])) := by
  show (asSS _).bind _ = _
  rw [asSS_map, Option.bind_some]
  exact if_pos (decide_eq_true h)
section
variable {X : Cx} {p q pos apos : Pos} {e : Expr} {te : CE}
theorem fr_ext {S : Sto} {H H' : Hp} (k : ∀ b o, H b = some o → H' b = some o) : Fr S H S H' := ⟨fun a o h n => ⟨k a o h, n⟩, fun a h => by
  cases e : H a with
  | none => rfl
  | some o => rw [k a o e] at h; cases h⟩
theorem ok_ext {K : Fg} {Z : List Addr} {S : Sto} {H H' : Hp} (ok : StOk K Z S H) (k : ∀ b o, H b = some o → H' b = some o) : StOk K Z S H' where
  ob := fun a u e => by
    have h := ok.ob a u e
    obtain ⟨o, ho⟩ := h.there
    exact h.fr (fr_ext k) (by rw [k _ _ ho, ho])
  hid := fun a z => by
    obtain ⟨n, u, e, p⟩ := ok.hid a z
    exact ⟨n, u, k _ _ e, p⟩
theorem reps_pairs {K : Fg} {Z : List Addr} {S : Sto} {H : Hp} : ∀ {zs : List (Addr × Str × Str)}, (∀ z ∈ zs, S z.1 = none ∧ H z.1 = some (.tup [.str z.2.1, .str z.2.2])) → Reps K Z S H ((zs.map Prod.snd).map fun p => Cv.tup [.str p.1, .str p.2]) (zs.map fun z => V.ref z.1)
  | [], _ => .nil
  | z :: zs, h => .cons (.tup (.inl (h z List.mem_cons_self).2) (h z List.mem_cons_self).1 (.cons (.str _) (.cons (.str _) .nil))) (reps_pairs fun y hy => h y (List.mem_cons_of_mem _ hy))
theorem s_sortIt (hc : X.calm = true) (hm : X.mg "sorted" = none) (he : SE X e te) (hg : Gl X "sorted" := by rfl)
    (hs2 : starEach [Expr.Call (.Attribute e "items" apos) [] [] q] X.env = (false, eval (.Call (.Attribute e "items" apos) [] [] q) X.env) :: starEach [] X.env := by rfl)
    (hty : typeOf (.builtin "dict.items") = pure (.type "method_descriptor") := by rfl)
    (hbase : attributeBase e "items" X.env (eval e X.env) = eval e X.env := by rfl) (hline : (apos.endLine == q.line) = true := by rfl) :
    SE X (.Call (.Name "sorted" p) [.Call (.Attribute e "items" apos) [] [] q] [] pos) (cOfD fSortIt te) :=
  ⟨mo_ofD he.mono, (pe_callB (cr_sortIt hc) hg hm (by decide +kernel) (pa_cons (pe_bm0 PySem.F.plainAttrs_dict PySem.F.slot_dict_items hty mt_itemsK he.ok hbase hline) pa_nil hs2) (by decide) (by decide) hs2).imp fun σ H Q h => by
    obtain ⟨Z, S, ws, ok, re, h⟩ := h
    refine liftE_of he.mono ok re h fun x S1 vx H1 f1 ok1 r1 q1 => ?_
    split at q1
    · rename_i v ev
      obtain ⟨d, e1, ev⟩ := bind_some ev
      cases d <;> try (cases ev; done)
      rename_i kws
      obtain ⟨ks, e2, ev⟩ := bind_some (show (asSS kws).bind _ = some v from ev)
      obtain ⟨hl, ev⟩ := ite_some ev
      subst ev
      obtain ⟨a, kvs, rfl, hh, rk⟩ := derefK_ok (kws := kws) ok1 r1 (by unfold derefK; rw [e1])
      have ek := asSS_eq e2
      subst ek
      have ev := rep_strs_inv rk
      subst ev
      refine ⟨.inr (.inr (.inl ⟨rfl, .inl ⟨_, hh⟩⟩)), a, _, rfl, rfl, hh, fun b hb => ?_⟩
      refine ⟨b, a, ks, rfl, upd_same, by rw [upd_ne (ne_of_none hh hb)]; exact hh, fun H' l zs k1 pm so hl0 hl1 hz => ?_⟩
      have k2 : ∀ c o, H1 c = some o → H' c = some o := fun c o e => k1 c o (by rw [upd_ne (ne_of_none e hb)]; exact e)
      have em : zs.map Prod.snd = sortP ks := sortP_eq pm (of_decide_eq_true hl) (List.pairwise_map.mpr (List.Pairwise.imp (fun h => leS_ltp h) so))
      have no : ∀ c, upd H1 b (DX.itemsO b a) c = none → H1 c = none := fun c h => dom_upd c h
      refine q1 _ _ (f1.trans (fr_ext k2)) (ok_ext ok1 k2) (.lst hl1 (ok1.free (no _ hl0)) (ok1.notZ (no _ hl0)) ?_)
      rw [← em]
      exact reps_pairs fun z hz' => ⟨ok1.free (no _ (hz z hz').1), (hz z hz').2⟩
    · exact q1.elim⟩
end
end CL

set_option Elab.async false
set_option linter.all false
set_option maxRecDepth 100000
set_option maxHeartbeats 1000000
/-! CL38: tuples that stand in the module; max of a tuple -/
namespace CL
open PySem PySem.Spec PyProof.Rows L2
def TupAt (K : Fg) (mg : Str → Option Value) (x : Str) (ws : List Cv) : Prop := ∃ a vs, mg x = some (.ref a) ∧ (∀ H' : Hp, SqT K H' a vs) ∧ ∀ Z S H, Reps K Z S H ws vs
section
variable {X : Cx} {x : Str} {pos : Pos} {ws : List Cv}
theorem s_gtup (hg : Gl X x) (h : TupAt X.K X.mg x ws) (hd : (x == ("__debug__" : Str)) = false := by decide) : SE X (.Name x pos) (cC (.tup ws)) := by
  obtain ⟨a, vs, hm, sq, re⟩ := h
  refine ⟨fun ws S Q Q' f h => f _ _ h, (pe_glob (v := .ref a) hg hm rfl hd).imp fun σ H Q h => ?_⟩
  obtain ⟨Z, S, ws, ok, re', h⟩ := h
  exact h _ H (Fr.refl S H) ok (.tupK sq (re _ _ _))
/-- a tuple of ints that the fragment holds -/
theorem tupAt_ints {K : Fg} {mg : Str → Option Value} {x : Str} {a : Addr} {ns : List Int} {us : List Value} {o : Obj} {n : Nat} (hm : mg x = some (.ref a)) (e : K.lookup a = some o) (hc : o.cls = .type "tuple") (hd : o.data = .seq us.toArray n) (hv : Vals (ns.map V.int) us)
    (hz : us.length ≤ sizeLine) : TupAt K mg x (ns.map Cv.int) :=
  ⟨a, ns.map V.int, hm, fun H' => .inr ⟨o, us.toArray, n, e, hc, hd, by simpa using hz, by simpa using hv⟩, fun Z S H => by
    have : ∀ ns : List Int, Reps K Z S H (ns.map Cv.int) (ns.map V.int) := fun ns => by
      induction ns with
      | nil => exact .nil
      | cons n ns ih => exact .cons (.int n) ih
    exact this ns⟩
theorem tupAt_strs {K : Fg} {mg : Str → Option Value} {x : Str} {a : Addr} {ns : List Str} {us : List Value} {o : Obj} {n : Nat} (hm : mg x = some (.ref a)) (e : K.lookup a = some o) (hc : o.cls = .type "tuple") (hd : o.data = .seq us.toArray n) (hv : Vals (ns.map V.str) us)
    (hz : us.length ≤ sizeLine) : TupAt K mg x (ns.map Cv.str) :=
  ⟨a, ns.map V.str, hm, fun H' => .inr ⟨o, us.toArray, n, e, hc, hd, by simpa using hz, by simpa using hv⟩, fun Z S H => by
    have : ∀ ns : List Str, Reps K Z S H (ns.map Cv.str) (ns.map V.str) := fun ns => by
      induction ns with
      | nil => exact .nil
      | cons n ns ih => exact .cons (.str n) ih
    exact this ns⟩
end
/-! ### max of a tuple -/
def cMaxT : CC := fun us S Q => match us with
  | [.tup ws] => (match asInts ws with | some ns => ns ≠ [] ∧ Q (.int (lmax 0 ns)) S | none => False)
  | _ => False
theorem cMaxT_mono : MonC cMaxT := fun us S Q Q' f h => by
  unfold cMaxT at h ⊢
  repeat' split at h
  all_goals first | exact h.elim | exact ⟨h.1, f _ _ h.2⟩
theorem b_maxT {X : Cx} (hc : X.calm = true) (hu : X.A.units + 64 < cLine) : SC X (.builtin "max") cMaxT := sc_of cMaxT_mono fun pins s σ H xs us Q Z S ws I rv ok re q => by
  unfold cMaxT at q
  split at q
  · rename_i ws
    split at q
    · rename_i ns en
      cases re with
      | @cons w0 v0 _ _ a b =>
        cases b
        have hq : ∃ p vs, v0 = V.ref p ∧ SqT X.K H p vs ∧ Reps X.K Z S H ws vs := by
          cases a with
          | tup h n r => exact ⟨_, _, rfl, .inl h, r⟩
          | tupK h r => exact ⟨_, _, rfl, h H, r⟩
        obtain ⟨p, vs, e, sq, rr⟩ := hq
        obtain rfl := asInts_ok rr en
        obtain ⟨its, rv', pl, _⟩ := I.tuple sq
        subst e
        rw [Vals.ref1 rv]
        cases ns with
        | nil => exact absurd rfl q.1
        | cons n ns =>
          refine PySem.W.max_tuple_datum (α := Int) (I.ok.hd hc) pl (x := n) (xs := ns) (holdAll_ints I rv') (by show X.A.units + 1 + 0 < cLine; omega) fun i v h' tk hi hol hk => ?_
          obtain ⟨t, rfl⟩ := holds_int hol
          refine ⟨.int (lmax 0 (n :: ns)), H, I.kept hk, ⟨t, ?_⟩, q.2 _ H (Fr.refl S H) ok (.int _)⟩
          rw [maxOf_eq]; rfl
    · exact q.elim
  · exact q.elim
def fMaxT : List Cv → Option Cv
  | [.tup ws] => fMaxL (lmax 0) ws
  | _ => none
theorem ec_maxT : EC cMaxT fMaxT := ⟨cMaxT_mono, fun {us S Q v} e q => by
  unfold fMaxT at e
  split at e
  · obtain ⟨ns, e1, hn, rfl⟩ := maxL_some e
    unfold cMaxT
    simp only [e1]
    exact ⟨hn, q⟩
  · cases e⟩
end CL

set_option Elab.async false
set_option linter.all false
set_option maxRecDepth 100000
set_option maxHeartbeats 1000000
/-! CL39: name = {k: v for ..}, the name a local -/
namespace CL
open PySem PySem.Spec PyProof.Rows L2
section
variable {X : Cx} {pos py spos : Pos} {kx vx tg iter : Expr} {ifs : List Expr} {scope : Scope} {own : List (Str × Nat)}
theorem sw_trueD {gs : List Comprehension} {y : Str} {l : Nat} {env : PySem.Env} (hk : env.scope.kind = .function) (hy : env.scope.names.lookup y = some .local) (hl : (py.line == pos.line) = true)
    (ha : (scope.names.any fun (n, k) => n == y && (k == .local || k == .cell)) = false) : swapsWith (.DictComp kx vx gs scope pos) (some (.Name y py)) l env = pure true := by
  have ky : env.kindOf y = some .local := hy
  have hb : env.blockKind = .function := by unfold Env.blockKind; rw [hk]; rfl
  unfold swapsWith
  simp only [hb, ky, ha, Expr.pos, hl]
  rfl
theorem ps_setDc {i : Nat} {y : Str} {wi : TI} {g : TG} {tt : TT} {tk tv : TE} (hc : X.calm = true) (hN : X.N.Nodup) (hy : X.N[i]? = some y) (hyl : X.env.scope.names.lookup y = some .local)
    (hsw : swapsWith (.DictComp kx vx [⟨tg, iter, ifs, 0⟩] scope pos) (some (.Name y py)) spos.line X.env = pure true) (hi : PI X tg iter wi) (ok : BlkOk X.N X.env.scope scope own)
    (hg : ∀ (s : Shared) (H : Hp) (C : Addr) (cl : List (Str × Addr)) (fp : List Addr), PG (X.blk s H scope (compEnvC scope cl C X.env) fp) tg g) (ht : ∀ (s : Shared) (H : Hp) (C : Addr) (cl : List (Str × Addr)) (fp : List Addr), PTs (X.blk s H scope (compEnvC scope cl C X.env) fp) ifs tt)
    (hk : ∀ (s : Shared) (H : Hp) (C : Addr) (cl : List (Str × Addr)) (fp : List Addr), PE (X.blk s H scope (compEnvC scope cl C X.env) fp) kx tk)
    (he : ∀ (s : Shared) (H : Hp) (C : Addr) (cl : List (Str × Addr)) (fp : List Addr), PE (X.blk s H scope (compEnvC scope cl C X.env) fp) vx tv) (hs : ∀ x, foldedSetIterable iter X.env x = pure x := by intro _; rfl) :
    PS X (.Assign [.Name y py] (.DictComp kx vx [⟨tg, iter, ifs, 0⟩] scope pos) spos) (tAsg (tDc wi g tt tk tv (own.map (·.2))) (gName i)) := by
  refine ⟨fun pins s σ H D I h => ?_⟩
  rw [exec_Assign_Name_used _ _ _ _ hsw]
  refine wpAny_bind (wpAny_standAt (wpAny_bind ?_))
  show wpAny _ X.A (do let _ ← comprehension (.DictComp kx vx [⟨tg, iter, ifs, 0⟩] scope pos) scope X.env (firstIterPos [⟨tg, iter, ifs, 0⟩] pos) newDict false (eval iter X.env) (some (assign (.Name y py) X.env))) _ _ s
  have h : tDc wi g tt tk tv (own.map (·.2)) σ H (fun x H1 => gName i x σ H1 D.nx) := h
  refine wpAny_bind (thn (dc_core (Qf := fun _ s' => SP X pins D .next s') hc hN I hi ok hg ht hk he hs h fun L C s' m H' I' q hn f => ?_) fun _ s' hq => wpAny_pure (wpAny_pure hq))
  show wpAny _ _ (assign (.Name y py) X.env (.ref L)) _ _ _
  refine wpAny_assign_Name (store_ok2 (v := V.ref L) I' hN hy (.inl hyl) rfl (fun s2 I2 ⟨a, sb, ha⟩ => ?_) (.inr hyl))
  obtain ⟨f0, f1, f2, f3, f4, f5⟩ := f
  have haC : C ≠ a := by
    rcases ha with z | z
    · rw [z]; exact f1
    · exact fun e => f4 y a z e.symm
  refine ⟨m, hn.sameBut sb haC, fun h3 sb3 => ?_⟩
  exact ⟨_, H', I2.turned (t' := s2.toks) (fun b o hb e => (sb3.2 b hb).trans e) f0 f1 f3 f4 f5, q⟩
variable {ti : CI} {g : CG} {is : List Nat} {tt : CT} {tk tv : CE}
theorem ss_setDc (i : Nat) {y : Str} (hc : X.calm = true) (hN : X.N.Nodup) (hi : SI X tg iter ti) (ok : BlkOk X.N X.env.scope scope own)
    (hg : ∀ (s : Shared) (H : Hp) (C : Addr) (cl : List (Str × Addr)) (fp : List Addr), SG (X.blk s H scope (compEnvC scope cl C X.env) fp) tg g is)
    (ht : ∀ (s : Shared) (H : Hp) (C : Addr) (cl : List (Str × Addr)) (fp : List Addr), STs (X.blk s H scope (compEnvC scope cl C X.env) fp) ifs tt)
    (hk : ∀ (s : Shared) (H : Hp) (C : Addr) (cl : List (Str × Addr)) (fp : List Addr), SE (X.blk s H scope (compEnvC scope cl C X.env) fp) kx tk)
    (he : ∀ (s : Shared) (H : Hp) (C : Addr) (cl : List (Str × Addr)) (fp : List Addr), SE (X.blk s H scope (compEnvC scope cl C X.env) fp) vx tv)
    (hy : X.N[i]? = some y := by rfl) (hyl : X.env.scope.names.lookup y = some .local := by rfl) (hsw : swapsWith (.DictComp kx vx [⟨tg, iter, ifs, 0⟩] scope pos) (some (.Name y py)) spos.line X.env = pure true := by exact sw_trueD rfl rfl rfl (by decide +kernel))
    (hsub : ∀ i ∈ is, i ∈ own.map (·.2) := by decide) (hs : ∀ x, foldedSetIterable iter X.env x = pure x := by intro _; rfl) : SS X (.Assign [.Name y py] (.DictComp kx vx [⟨tg, iter, ifs, 0⟩] scope pos) spos) (cAsg (cDc ti g tt tk tv (own.map (·.2))) (cgName i)) := by
  have mg : MonG g := (hg X.s_0 X.H_0 0 [] []).mono
  have mt : MonT tt := (ht X.s_0 X.H_0 0 [] []).mono
  have mk : MonE tk := (hk X.s_0 X.H_0 0 [] []).mono
  have me : MonE tv := (he X.s_0 X.H_0 0 [] []).mono
  have mm : MonE (cDc ti g tt tk tv (own.map (·.2))) := mo_dc hi.mono mg mt mk me
  refine ⟨cAsg_mono mm fun w ws S Q Q' f h => f _ _ h,
    (ps_setDc (g := liftG X.K g is) (tt := liftT X.K tt) (tk := liftE X.K tk) (tv := liftE X.K tv) hc hN hy hyl hsw hi.ok ok (fun s H C cl fp => (hg s H C cl fp).ok) (fun s H C cl fp => (ht s H C cl fp).ok) (fun s H C cl fp => (hk s H C cl fp).ok) (fun s H C cl fp => (he s H C cl fp).ok) hs).imp fun D σ H h => ?_⟩
  have h2 := cAsgN_ok mm h
  refine tAsg_imp (fun σ H Q h => ?_) D σ H h2
  obtain ⟨Z, S, ws, ok', re, h⟩ := h
  refine dc_ok hi.mono mg mt mk me hsub ok' re h fun ys S' D vs' H' f ok2 hD0 hD r q => ?_
  exact q (.ref D) H' f (ok2.sub fun _ z => List.mem_cons_of_mem _ z) (.dK hD (ok2.hid D List.mem_cons_self).1 (ok'.notZ hD0) r.1 (r.2.sub fun _ z => List.mem_cons_of_mem _ z))
end
end CL


set_option Elab.async false
set_option linter.all false
set_option maxRecDepth 100000
set_option maxHeartbeats 1000000
/-! CL41: a sign in a text -/
namespace CL
open PySem PySem.Spec PyProof.Rows L2
def cInS : C2 := fun a b S Q => match a, b with
  | .str x, .str z => ∃ c : Nat, x = ⟨#[c]⟩ ∧ Q (.bl (decide (c ∈ z.cps.toList))) S
  | _, _ => False
theorem cInS_mono : Mon2 cInS := fun a b S Q Q' f h => by
  unfold cInS at h ⊢
  split at h
  · obtain ⟨c, e, h⟩ := h; exact ⟨c, e, f _ _ h⟩
  · exact h
theorem o_inS {X : Cx} : S2 X (compareOp .In) cInS := by
  refine ⟨cInS_mono, fun pins s σ H x y v u Q I rx ry q => ?_⟩
  obtain ⟨Z, S, a, b, ok, ra, rb, q⟩ := q
  unfold cInS at q
  split at q
  · obtain ⟨c, rfl, q⟩ := q
    cases ra; cases rb
    exact op_in_sign pins s σ H _ _ v u Q I rx ry ⟨c, _, rfl, rfl, q _ H (Fr.refl S H) ok (.bl _)⟩
  · exact q.elim
def fInS : Cv → Cv → Option Cv
  | .str x, .str z => match x.cps.toList with
    | [c] => some (.bl (decide (c ∈ z.cps.toList)))
    | _ => none
  | _, _ => none
theorem e2_inS : E2 cInS fInS := ⟨cInS_mono, fun {a b S Q v} e q => by
  unfold fInS at e
  split at e
  · rename_i x z
    split at e
    · rename_i c hc
      cases e
      refine ⟨c, ?_, q⟩
      cases x with
      | mk cps =>
        have : cps = [c].toArray := by rw [← hc]
        subst this; rfl
    · cases e
  · cases e⟩
theorem q_inS {c : Nat} {z : Str} : fInS (.str ⟨#[c]⟩) (.str z) = some (.bl (decide (c ∈ z.cps.toList))) := rfl
end CL

set_option Elab.async false
set_option linter.all false
set_option maxRecDepth 100000
set_option maxHeartbeats 1000000
/-! CL42: t[::-1] of a tuple -/
namespace CL
open PySem PySem.Spec PyProof.Rows L2
section
variable {prog : Program} {w : World} {A : Around} {E : Value → Shared → Prop} {s : Shared}
theorem places_rev (n : Nat) : Builtin.Slice.slicePlaces ((n : Int) - 1) (-1) (-1) = n := by
  unfold Builtin.Slice.slicePlaces
  have h1 : ¬ ((-1 : Int) > 0) := by decide
  simp only [h1, if_false]
  have e : ((n : Int) - 1 - -1 - 1) / (- -1) = (n : Int) - 1 := by
    rw [show (- -1 : Int) = 1 by decide, Int.ediv_one]
    omega
  split <;> omega
theorem sliceApplied_rev {sl : Addr} {vs : Value} {n : Nat} {Q : Int × Int × Nat → Shared → Prop} (hs : s.heap.IsSliceOf sl .none .none vs) (ps : IsPart vs (some (-1)))
    (h : Q ((n : Int) - 1, -1, n) s) : wpAny (model prog w) A (Builtin.Slice.sliceApplied (.ref sl) (pure (n : Int))) Q E s := by
  obtain ⟨os, hos, hcs, hds⟩ := id hs
  unfold Builtin.Slice.sliceApplied Builtin.Slice.sliceFields
  refine wpAny_bind (wpAny_bind (wpAny_field hos hds (x := .none) rfl (wpAny_bind (wpAny_field hos hds (x := .none) rfl (wpAny_bind (wpAny_field hos hds (x := vs) rfl (wpAny_pure ?_)))))))
  refine wpAny_bind (HT.slicePart_ ps ?_)
  show wpAny _ _ (if ((-1 : Int) == 0) = true then _ else _) _ _ s
  rw [if_neg (by decide)]
  refine wpAny_bind (slicePart_none (wpAny_bind (slicePart_none (wpAny_bind (wpAny_pure ?_)))))
  show wpAny _ _ (match Builtin.Slice.sliceAdjust none none (-1) (n : Int) with | (lo, hi) => pure (lo, (-1 : Int), Builtin.Slice.slicePlaces lo hi (-1))) _ _ s
  rw [show Builtin.Slice.sliceAdjust none none (-1) (n : Int) = ((n : Int) - 1, -1) from rfl]
  show wpAny _ _ (pure ((n : Int) - 1, (-1 : Int), Builtin.Slice.slicePlaces ((n : Int) - 1) (-1) (-1))) _ _ s
  rw [places_rev]
  exact wpAny_pure h
theorem pick_rev (xs : Array Value) : ((List.range xs.size).filterMap fun (m : Nat) => xs[((xs.size : Int) - 1 + (m : Int) * (-1)).toNat]?).toArray = xs.toList.reverse.toArray := by
  have e : (fun (m : Nat) => xs[((xs.size : Int) - 1 + (m : Int) * (-1)).toNat]?) = (fun k => xs[k]?) ∘ fun m => xs.size - 1 - m := by
    funext m
    show _ = xs[xs.size - 1 - m]?
    congr 1
    omega
  rw [e, ← List.filterMap_map, PySem.W.krv_range, List.filterMap_reverse, PySem.W.krv_all]
theorem getItem_tuple_rev {t sl : Addr} {items : Array Value} {vs : Value} {Q : Value → Shared → Prop} (ht : IsTup s.heap t items) (hs : s.heap.IsSliceOf sl .none .none vs) (ps : IsPart vs (some (-1)))
    (h : Q (.ref s.heap.objs.size) { s with heap := s.heap.push { cls := .type "tuple", data := .seq items.toList.reverse.toArray } })
    (hsz : items.size ≤ sizeLine) : wpAny (model prog w) A (getItem (.ref t) (.ref sl)) Q E s := by
  have hrev : sizeOk (.seq items.toList.reverse.toArray) := by
    show items.toList.reverse.toArray.size ≤ sizeLine
    rw [List.size_toArray, List.length_reverse, Array.length_toList]
    exact hsz
  obtain ⟨os, hos, hcs, hds⟩ := id hs
  have hTs : s.TypeIs (.ref sl) "slice" := ⟨os, hos, hcs⟩
  unfold getItem
  try with_reducible refine wpAny_holding ?_
  first | refine wpAny_bind (wpAny_pure ?_) | skip
  refine wpAny_bind (wpAny_sequenceKey ht.typeIs (by decide) ?_)
  refine wpAny_bind (wpAny_callSpecial?_slot (name := Str.ofString "__getitem__") ht.typeIs PyProof.Rows.slot_tuple_getitem
    (wpAny_call_entry PyProof.Rows.slot_tuple_getitem ht.typeIs entry_tuple_getitem ?_ (args_tuple_getitem _ _)))
  show wpAny _ _ (Builtin.Tuple.tupleItemsOf (.ref t) >>= _) _ _ s
  refine wpAny_bind (tupleItemsOf_ ht ?_)
  refine wpAny_bind (wpAny_typeOf hTs ?_)
  rw [if_pos (by decide)]
  refine wpAny_bind (sliceApplied_rev hs ps ?_)
  have hno : ¬ ((((items.size : Int) - 1) == 0 && (-1 : Int) == 1 && items.size == items.size) = true) := by
    intro q
    rw [Bool.and_eq_true, Bool.and_eq_true] at q
    have q1 : (-1 : Int) = 1 := eq_of_beq q.1.2
    omega
  show wpAny _ _ (if (((items.size : Int) - 1) == 0 && (-1 : Int) == 1 && items.size == items.size) = true then _ else _) _ _ s
  rw [if_neg hno, pick_rev]
  first
    | exact wpAny_bind (m := Builtin.Tuple.tupleExact _) (wpAny_newObj_type (wpAny_pure ⟨_, rfl, wpAny_pure h⟩) hrev)
    | exact wpAny_bind (m := Builtin.Tuple.tupleExact _) (wpAny_newObj_type (wpAny_bind (wpAny_pure (wpAny_pure ⟨_, rfl, wpAny_pure h⟩))) hrev)
    | exact wpAny_bind (wpAny_bind (m := Builtin.Tuple.tupleExact _) (wpAny_newObj_type (wpAny_pure (wpAny_pure ⟨_, rfl, wpAny_pure h⟩)) hrev))
    | exact wpAny_bind (wpAny_bind (m := Builtin.Tuple.tupleExact _) (wpAny_newObj_type (wpAny_pure ⟨_, rfl, wpAny_pure h⟩) hrev))
end
section
variable {X : Cx}
def tRevT (K : PySem.W.Frag) (te : TE) : TE := fun σ H Q => te σ H fun x H1 => ∃ a xs, x = .ref a ∧ SqT K H1 a xs ∧ ∀ p, H1 p = none → Q (.ref p) (upd H1 p (.tup xs.reverse))
theorem pe_revT {e : Expr} {te : TE} {k : Nat} {p1 p2 p3 pos : Pos} (he : PE X e te) : PE X (.Subscript e (.Slice none none (some (.UnaryOp .USub (.Constant (.int 1) k p1) p2)) p3) pos) (tRevT X.K te) := by
  refine ⟨fun pins s σ H Q I h => ?_⟩
  refine Subscript_ (thn (he.run pins s σ H _ I h) fun v s1 ⟨x, H1, I1, r1, q1⟩ => ?_)
  obtain ⟨a, xs, ex, hx, q⟩ := q1
  subst ex
  cases r1
  have hst : PO X (some (.UnaryOp .USub (.Constant (.int 1) k p1) p2)) (tPart (tUn (rU fun i => .int (-i)) (tC (.int 1)))) := po_some (pe_un un_neg pe_int)
  refine wpAny_Slice (thn (po_none.run pins s1 σ H1 (fun o H2 => o = none ∧ H2 = H1) I1 ⟨rfl, rfl⟩) fun vl s2 ⟨l, H2, I2, pl, el, e2⟩ => ?_)
  subst el e2
  cases pl
  refine thn (po_none.run pins s2 σ H2 (fun o H3 => o = none ∧ H3 = H2) I2 ⟨rfl, rfl⟩) fun vu s3 ⟨u, H3, I3, pu, eu, e3⟩ => ?_
  subst eu e3
  cases pu
  refine thn (hst.run pins s3 σ H3 (fun o H4 => o = some (-1) ∧ H4 = H3) I3 ⟨1, rfl, -1, rfl, rfl, rfl⟩) fun vs s4 ⟨o, H4, I4, ps, eo, e4⟩ => ?_
  subst eo e4
  have I5 : Inv X pins σ H4 { s4 with heap := s4.heap.push { cls := .type "slice", data := .fields #[.none, .none, vs] } } := I4.kept (t' := s4.toks) fun b ob q => Heap.get?_push_of_some _ q
  obtain ⟨its, r, ht, hz⟩ := I5.tuple hx
  have hlen := r.length
  show wpAny (model X.prog X.w) X.A (subscriptTail e (.Slice none none (some (.UnaryOp .USub (.Constant (.int 1) k p1) p2)) p3) (.ref a) (.ref s4.heap.objs.size)) (EP X pins σ Q) X.xe { s4 with heap := s4.heap.push { cls := .type "slice", data := .fields #[.none, .none, vs] } }
  refine tail_any (ops := [.ref a, .ref s4.heap.objs.size]) (IsTup.typeIs ht) (PyProof.Rows.slot_tuple_getitem.lookup) ?_ (by with_unfolding_all rfl)
  refine getItem_tuple_rev ht (Heap.IsSliceOf.new _ .none .none vs) ps ?_ (by rw [List.size_toArray]; omega)
  refine ⟨.ref _, _, I5.laid (t' := s4.toks) (o := .tup xs.reverse) (fun b ob q => Heap.get?_push_of_some _ q) (Nat.le_refl _) ?_, rfl, q _ (I5.hok.fresh (Nat.le_refl _))⟩
  exact ⟨by rw [List.length_reverse]; exact hz, _, r.reverse, IsTup.new _ _⟩
/-- x[::-1] of a tuple -/
def kRevT (Q : Cv → Sto → Prop) : Cv → Sto → Prop := fun w S1 => match w with | .tup xs => Q (.tup xs.reverse) S1 | _ => False
def cRevT (te : CE) : CE := fun ws S Q => te ws S (kRevT Q)
theorem mo_revT {te : CE} (h : MonE te) : MonE (cRevT te) := fun ws S Q Q' f q => h _ _ _ _ (fun w S1 q1 => by
  unfold kRevT at q1 ⊢
  split at q1
  · exact f _ _ q1
  · exact q1.elim) q
theorem s_revT {e : Expr} {te : CE} {k} {p1 p2 p3 pos} (he : SE X e te) : SE X (.Subscript e (.Slice none none (some (.UnaryOp .USub (.Constant (.int 1) k p1) p2)) p3) pos) (cRevT te) :=
  ⟨mo_revT he.mono, (pe_revT he.ok).imp fun σ H Q h => by
    obtain ⟨Z, S, ws, ok, re, h⟩ := h
    refine liftE_of he.mono ok re h fun x S1 v1 H1 f1 ok1 r1 q1 => ?_
    unfold kRevT at q1
    split at q1
    · have go : ∀ {a : Addr} {vs : List V} {xs : List Cv}, SqT X.K H1 a vs → Reps X.K Z S1 H1 xs vs → (∀ v H', Fr S H S1 H' → StOk X.K Z S1 H' → Rep X.K Z S1 H' (.tup xs.reverse) v → Q v H') → ∃ a' xs', (V.ref a) = .ref a' ∧ SqT X.K H1 a' xs' ∧ ∀ p, H1 p = none → Q (.ref p) (upd H1 p (.tup xs'.reverse)) := fun {a vs xs} h r q =>
        ⟨a, vs, rfl, h, fun p hp => q _ _ (f1.trans (Fr.new hp)) (ok1.new hp) (.tup (.inl upd_same) (ok1.free hp) (r.rev.fr (Fr.new hp)))⟩
      cases r1 with
      | tup hr n rr => exact go (.inl hr) rr q1
      | tupK hr rr => exact go (hr H1) rr q1
    · exact q1.elim⟩
def fRevT : Cv → Option Cv
  | .tup xs => some (.tup xs.reverse)
  | _ => none
def mRevT (a : ME) : ME := fun gs => (a gs).bind fRevT
theorem ev_revT {te : CE} {a : ME} (h : Ev te a) : Ev (cRevT te) (mRevT a) := ⟨mo_revT h.mono, fun V e q => by
  obtain ⟨v, e1, e⟩ := bind_some e
  unfold fRevT at e
  split at e
  · cases e
    exact h.ok V e1 q
  · cases e⟩
/-- is True, is not False: of bools -/
def cIsBB (g : Bool → Bool) : C2 := fun a b S Q => match a, b with
  | .bl a, .bl b => Q (.bl (g (decide (a = b)))) S
  | _, _ => False
theorem cIsBB_mono {g : Bool → Bool} : Mon2 (cIsBB g) := fun a b S Q Q' f h => by
  unfold cIsBB at h ⊢
  split at h
  · exact f _ _ h
  · exact h.elim
theorem isBB_ok {f : Value → Value → Sem Value} {g : Bool → Bool} (h1 : OpR X f (fun x y H Q => ∃ a b : Bool, x = .bl a ∧ y = .bl b ∧ Q (.bl (g (decide (a = b)))) H)) : S2 X f (cIsBB g) :=
  s2_of cIsBB_mono fun pins s σ H x y v u Q Z S a b I rx ry ok ra rb q => by
    unfold cIsBB at q
    split at q
    · cases ra; cases rb
      exact h1 pins s σ H _ _ v u Q I rx ry ⟨_, _, rfl, rfl, q _ H (Fr.refl S H) ok (.bl _)⟩
    · exact q.elim
abbrev cIsB : C2 := cIsBB fun b => b
abbrev cNotB : C2 := cIsBB fun b => !b
theorem o_isB : S2 X (compareOp .Is) cIsB := isBB_ok op_isBl
theorem o_notB : S2 X (compareOp .IsNot) cNotB := isBB_ok op_notBl
def fIsBB (g : Bool → Bool) : Cv → Cv → Option Cv
  | .bl a, .bl b => some (.bl (g (decide (a = b))))
  | _, _ => none
abbrev fIsB := fIsBB fun b => b
abbrev fNotB := fIsBB fun b => !b
theorem e2_isBB {g : Bool → Bool} : E2 (cIsBB g) (fIsBB g) := ⟨cIsBB_mono, fun {a b S Q v} e q => by
  unfold fIsBB at e
  split at e
  · cases e; exact q
  · cases e⟩
theorem q_isBB {g : Bool → Bool} {a b : Bool} : fIsBB g (.bl a) (.bl b) = some (.bl (g (decide (a = b)))) := rfl
theorem q_revT {a : ME} {gs : MEnv} : mRevT a gs = (a gs).bind fRevT := rfl
theorem q_fRevT {xs : List Cv} : fRevT (.tup xs) = some (.tup xs.reverse) := rfl
end
end CL

set_option Elab.async false
set_option linter.all false
set_option maxRecDepth 100000
set_option maxHeartbeats 1000000
/-! CL43: l[i] = v of an own list, in readings that compute -/
namespace CL
open PySem PySem.Spec PyProof.Rows L2
def fSetV : Cv → Cv → Cv → Option Cv
  | .lst xs, .int n, v => (ixN xs.length n).map fun j => .lst (xs.set j v)
  | _, _, _ => none
theorem q_msetL {i : Nat} {k a : ME} {gs : MEnv} : mSetL i k a gs = ((slO gs[i]?).bind lstOnly).bind fun o => (a gs).bind fun v => (k gs).bind fun n => (fSetV o n v).map fun o => .nx (gs.set i (.ow o)) := by
  unfold mSetL
  cases gs[i]? with
  | none => rfl
  | some s => cases s with
    | no => rfl
    | pl v => rfl
    | ow v =>
      cases v <;> first | rfl | skip
      show (a gs).bind _ = (a gs).bind _
      congr 1; funext v
      congr 1; funext n
      cases n <;> first | rfl | skip
      unfold fSetV
      simp only
      split
      · rename_i h; rw [h]; rfl
      · rename_i h; rw [h]; rfl
theorem q_setLast {xs : List Cv} {y v : Cv} : fSetV (.lst (xs ++ [y])) (.int (-1)) v = some (.lst (xs ++ [v])) := by
  have e : ixN (xs ++ [y]).length (-1) = some xs.length := by
    unfold ixN
    rw [List.length_append, List.length_singleton]
    first
      | (rw [if_neg (by decide), if_pos (by omega)]; congr 1; omega)
      | (rw [if_neg (by decide)]; rw [if_pos (by push_cast; omega)]; congr 1; push_cast; omega)
  show (ixN (xs ++ [y]).length (-1)).map _ = _
  rw [e, Option.map_some]
  congr 2
  rw [List.set_append_right _ _ (Nat.le_refl _), Nat.sub_self]; rfl
end CL

set_option Elab.async false
set_option linter.all false
set_option maxRecDepth 100000
set_option maxHeartbeats 1000000
/-! CL40: tuples that are known to have no dict of their own: made by tuple(a list); dict(them) -/
namespace CL
open PySem PySem.Spec PyProof.Rows L2
section
variable {X : Cx}
theorem tup_plain {pins : List (Addr × Obj)} {σ : L2.St} {H : Hp} {s : Shared} {a : Addr} {o : Obj} {vs : List V} (I : Inv X pins σ H s) (h : H a = some (.frz o (.tup vs))) (d : o.dict = none) :
    ∃ its : List Value, Vals vs its ∧ PySem.PlainSeq "tuple" s.heap a its.toArray ∧ vs.length ≤ sizeLine := by
  obtain ⟨e, hz, its, rv, o', ho, hc, n, hd⟩ := (show ObjOk X.prog X.w H s.heap a (.frz o (.tup vs)) from I.hok a _ h)
  rw [e] at ho
  cases ho
  exact ⟨its, rv, ⟨o, n, e, hc, d, hd⟩, hz⟩
def rDictT (K : Fg) : List V → Hp → VK → Prop := fun xs H Q => ∃ (a : Addr) (o : Obj) (ps : List Addr) (kvs : List (Key × V)), xs = [.ref a] ∧ H a = some (.frz o (.tup (ps.map V.ref))) ∧ o.dict = none ∧ Paired (fun p kv => SqT K H p [kV kv.1, kv.2]) ps kvs ∧
    ∀ p, H p = none → Q (.ref p) (upd H p (.dK (mergeK [] kvs)))
theorem call_dictT (hc : X.calm = true) : CallR X (.type "dict") (rDictT X.K) := by
  intro pins s σ H xs us Q I r q
  obtain ⟨a, o, ps, kvs, rfl, ha, hd, hp, q⟩ := q
  rw [Vals.ref1 r]
  obtain ⟨its, rv, pl, hz⟩ := tup_plain I ha hd
  have ei := refs_at rv
  subst ei
  rw [List.length_map] at hz
  obtain ⟨prs, rel, hl, hpr⟩ := L2.pairs_of I hp
  have hf : ∀ j : Nat, ∃ u : Value, ∀ q, prs[j]? = some q → ∃ b, ps[j]? = some b ∧ IsTup s.heap b #[u, q.2] ∧ keyIs q.1 u = true := fun j => by
    cases e : prs[j]? with
    | none => exact ⟨.none, fun q h => by cases h⟩
    | some q =>
      obtain ⟨b, u, e1, e2, e3⟩ := hpr j q e
      exact ⟨u, fun q' h => by cases h; exact ⟨b, e1, e2, e3⟩⟩
  obtain ⟨f, hf⟩ := Classical.axiomOfChoice hf
  have hhs : ∀ (j : Nat) (x : Value × Value), (prs.zipIdx.map fun z => (f z.2, z.1.2))[j]? = some x → ∃ q, prs[j]? = some q ∧ x = (f j, q.2) := fun j x h => by
    rw [List.getElem?_map, List.getElem?_zipIdx] at h
    cases e : prs[j]? with
    | none => rw [e] at h; cases h
    | some q => rw [e] at h; cases h; exact ⟨q, rfl, by simp⟩
  have hsl : (prs.zipIdx.map fun z => (f z.2, z.1.2)).length = prs.length := by rw [List.length_map, List.length_zipIdx]
  generalize (prs.zipIdx.map fun z => (f z.2, z.1.2)) = hs at hhs hsl
  refine PySem.call_dict_pairs (knd := mixKind X.prog X.w) (kvs := prs) (PySem.PairArg.tuple a (ps.map Value.ref).toArray (fun j => ps.getD j 0) hs) (I.ok.hd hc) ⟨pl, by simp [hsl, hl], fun j k v e => ?_⟩ ⟨hsl.symm, fun i key v e => ?_⟩ (by omega) fun h' tk hd' k => ?_
  · obtain ⟨q', e1, e2⟩ := hhs j _ e
    obtain ⟨b, e3, e4, _⟩ := hf j q' e1
    cases e2
    refine ⟨by simp [List.getD_eq_getElem?_getD, e3], .inl ?_⟩
    show s.heap.IsTuple (ps.getD j 0) _
    rw [show ps.getD j 0 = b from by simp [List.getD_eq_getElem?_getD, e3]]
    exact e4
  · obtain ⟨q', e1, e2⟩ := hhs i _ e
    obtain ⟨b, e3, e4, e5⟩ := hf i q' e1
    cases e2
    exact ⟨q'.1, e1, e5⟩
  · have hm : (s.heap.objs.size == sysModules) = false := beq_eq_false_iff_ne.mpr (Nat.ne_of_gt I.big)
    have hlen : (mergeK [] kvs).length ≤ sizeLine := by
      refine Nat.le_trans (length_mergeK kvs []) ?_
      rw [List.length_nil, Nat.zero_add, rel.length, hl]
      exact hz
    exact ⟨.ref s.heap.objs.size, upd H s.heap.objs.size (.dK (mergeK [] kvs)), I.laid (t' := tk) (fun b o e => k b o (by simp) e) (Nat.le_refl _) (show ObjOk X.prog X.w _ _ _ (.dK (mergeK [] kvs)) from ⟨hlen, hm, merged [] prs, KV.merge rel .nil, hd'⟩), rfl, q _ (I.hok.fresh (Nat.le_refl _))⟩
/-- tuple(a list): the new tuple in full -/
def rTupF (K : Fg) : List V → Hp → VK → Prop := fun xs H Q => ∃ (p : Addr) (ys : List V), xs = [.ref p] ∧ SqL K H p ys ∧ ∀ (q : Addr) (o : Obj), H q = none → o.dict = none → Q (.ref q) (upd H q (.frz o (.tup ys)))
theorem call_tupF : CallR X (.type "tuple") (rTupF X.K) := by
  intro pins s σ H xs us Q I r h
  obtain ⟨p, ys, rfl, hs, q⟩ := h
  rw [Vals.ref1 r]
  obtain ⟨its, rv, pl, hz⟩ := I.list hs
  refine call_tuple_list pl.isList (fun h' hk => ?_) (by rw [List.size_toArray, ← rv.length]; exact hz)
  have I1 : Inv X pins σ H { s with heap := h' } := I.kept (t' := s.toks) hk
  have I2 : Inv X pins σ (upd H h'.objs.size (.frz { cls := .type "tuple", data := .seq its.toArray } (.tup ys))) { s with heap := h'.push { cls := .type "tuple", data := .seq its.toArray } } :=
    I1.laid (t' := s.toks) (fun b o e => Heap.get?_push_of_some _ e) (Nat.le_refl _) (show ObjOk X.prog X.w _ _ _ (.frz _ (.tup ys)) from ⟨Heap.get?_push_size _ rfl, hz, its, rv, IsTup.new _ _⟩)
  exact ⟨.ref h'.objs.size, _, I2, rfl, q _ _ (I1.hok.fresh (Nat.le_refl _)) rfl⟩
end
end CL

set_option Elab.async false
set_option linter.all false
set_option maxRecDepth 100000
set_option maxHeartbeats 1000000
/-! CL44: plain tuples; dict(pairs); l.index(x); divmod -/
namespace CL
open PySem PySem.Spec PyProof.Rows L2
/-! ### a plain tuple as a tuple -/
def wkC : Cv → Cv
  | .tupF xs => .tup xs
  | w => w
theorem rep_wk {K : Fg} {Z : List Addr} {S : Sto} {H : Hp} {w : Cv} {v : V} (r : Rep K Z S H w v) : Rep K Z S H (wkC w) v := by
  cases r with
  | tupF h n r d => exact .tup (.inr ⟨_, h⟩) n r
  | non => exact .non
  | bl b => exact .bl b
  | int i => exact .int i
  | str x => exact .str x
  | tup h n r => exact .tup h n r
  | tupK h r => exact .tupK h r
  | lst h n z r => exact .lst h n z r
  | scr h n r => exact .scr h n r
  | scrK h r => exact .scrK h r
  | dK h n z e r => exact .dK h n z e r
  | dT h n z e r => exact .dT h n z e r
  | ref a => exact .ref a
  | opq v => exact .opq v
def cWk (te : CE) : CE := fun ws S Q => te ws S fun w S1 => Q (wkC w) S1
theorem mo_wk {te : CE} (h : MonE te) : MonE (cWk te) := fun ws S Q Q' f q => h _ _ _ _ (fun w S1 q1 => f _ _ q1) q
theorem s_wk {X : Cx} {e : Expr} {te : CE} (he : SE X e te) : SE X e (cWk te) :=
  ⟨mo_wk he.mono, he.ok.imp fun σ H Q h => by
    obtain ⟨Z, S, ws, ok, re, h⟩ := h
    exact ⟨Z, S, ws, ok, re, he.mono _ _ _ _ (fun w S1 q v H' f o r => q v H' f o (rep_wk r)) h⟩⟩
def fWk : Cv → Option Cv := fun v => some (wkC v)
theorem ev_wk {te : CE} {a : ME} (h : Ev te a) : Ev (cWk te) (mUn fWk a) := ⟨mo_wk h.mono, fun V e q => by
  obtain ⟨v, e1, e⟩ := bind_some e
  cases e
  exact h.ok V e1 q⟩
theorem ex_wk {W : WX'} {te : CE} {a : XE} (h : EvX W te a) : EvX W (cWk te) (xUn fWk a) := ⟨mo_wk h.mono, fun V e q => by
  rcases bx_some e with ⟨v1, g1, e1, e⟩ | ⟨x, g1, e1, rfl⟩
  · refine h.ok V e1 fun S1 V1 => ?_
    obtain ⟨v, e3, rfl⟩ := lift_some e
    cases e3
    exact q _ V1
  · exact h.ok V e1 q⟩
theorem q_wkF {xs : List Cv} : fWk (.tupF xs) = some (.tup xs) := rfl
theorem q_wkT {xs : List Cv} : fWk (.tup xs) = some (.tup xs) := rfl
theorem q_wkL {xs : List Cv} : fWk (.lst xs) = some (.lst xs) := rfl
theorem q_wkN : fWk .non = some .non := rfl
theorem q_wkS {x : Str} : fWk (.str x) = some (.str x) := rfl
theorem q_wkI {i : Int} : fWk (.int i) = some (.int i) := rfl
theorem q_wkB {b : Bool} : fWk (.bl b) = some (.bl b) := rfl
section
variable {X : Cx}
/-! ### tuple(a list), plain -/
def cTupleF : CC := fun us S Q => match us with
  | [.lst xs] => Q (.tupF xs) S
  | _ => False
theorem mo_tupleF : MonC cTupleF := fun us S Q Q' f h => by
  unfold cTupleF at h ⊢
  split at h
  · exact f _ _ h
  · exact h
theorem b_tupleF : SC X (.type "tuple") cTupleF := sc_of mo_tupleF fun pins s σ H xs us Q Z S ws I rv ok re q => by
  unfold cTupleF at q
  split at q
  · cases re with
    | cons a b =>
      cases b
      cases a with
      | lst hh n z rr => exact call_tupF pins s σ H _ us Q I rv ⟨_, _, rfl, .inl (.inl hh), fun p o hp hd => q _ _ (Fr.new hp) (ok.new hp) (.tupF upd_same (ok.free hp) (rr.fr (Fr.new hp)) hd)⟩
  · exact q.elim
def fTupleF : List Cv → Option Cv
  | [.lst xs] => some (.tupF xs)
  | _ => none
theorem ec_tupleF : EC cTupleF fTupleF := ⟨mo_tupleF, fun {us S Q v} e q => by
  unfold fTupleF at e
  split at e
  · cases e; exact q
  · cases e⟩
theorem q_tupleF {xs : List Cv} : fTupleF [.lst xs] = some (.tupF xs) := rfl
/-! ### dict(pairs) -/
def pairsC : List Cv → Option (List (Key × Cv))
  | [] => some []
  | .tup [k, w] :: r => (keyC k).bind fun k => (pairsC r).map fun l => (k, w) :: l
  | _ :: _ => none
theorem pairsC_rep {K : Fg} {Z : List Addr} {S : Sto} {H : Hp} : ∀ {ws : List Cv} {vs : List V} {l : List (Key × Cv)}, Reps K Z S H ws vs → pairsC ws = some l →
    ∃ (ps : List Addr) (kvs : List (Key × V)), vs = ps.map V.ref ∧ Paired (fun p kv => SqT K H p [kV kv.1, kv.2]) ps kvs ∧ RepKV K Z S H l kvs
  | [], _, l, .nil, e => by cases e; exact ⟨[], [], rfl, .nil, rfl, .nil⟩
  | w :: ws, _, l, .cons a r, e => by
    cases w with
    | tup xs =>
      match xs, a, e with
      | [k, w], a, e =>
        obtain ⟨k', e1, e⟩ := bind_some e
        obtain ⟨l', e2, e⟩ := map_some' e
        subst e
        obtain ⟨ps, kvs, rfl, hp, hr⟩ := pairsC_rep r e2
        have go : ∀ {p : Addr} {us : List V}, SqT K H p us → Reps K Z S H [k, w] us → ∃ (ps' : List Addr) (kvs' : List (Key × V)), V.ref p :: ps.map V.ref = ps'.map V.ref ∧ Paired (fun p kv => SqT K H p [kV kv.1, kv.2]) ps' kvs' ∧ RepKV K Z S H ((k', w) :: l') kvs' := fun {p us} hs rr => by
          cases rr with
          | cons r1 rr =>
            cases rr with
            | cons r2 rr =>
              cases rr
              have ek := keyC_rep e1 r1
              subst ek
              exact ⟨p :: ps, (k', _) :: kvs, rfl, .cons hs hp, by rw [List.map_cons, List.map_cons, hr.1], .cons r2 hr.2⟩
        cases a with
        | tup hr n rr => exact go (.inl hr) rr
        | tupK hr rr => exact go (hr H) rr
      | [], _, e => cases e
      | [_], _, e => cases e
      | _ :: _ :: _ :: _, _, e => cases e
    | _ => cases e
theorem merge_rep {K : Fg} {Z : List Addr} {S : Sto} {H : Hp} : ∀ {l : List (Key × Cv)} {kvs : List (Key × V)} {acc : List (Key × Cv)} {acc' : List (Key × V)}, RepKV K Z S H l kvs → RepKV K Z S H acc acc' → RepKV K Z S H (mergeC acc l) (mergeK acc' kvs)
  | [], [], _, _, _, h => h
  | [], _ :: _, _, _, r, _ => by cases r.1
  | _ :: _, [], _, _, r, _ => by cases r.1
  | p :: l, q :: kvs, acc, acc', r, h => by
    have h1 := r.1
    simp only [List.map_cons, List.cons.injEq] at h1
    have h2 : Reps K Z S H (p.2 :: l.map Prod.snd) (q.2 :: kvs.map Prod.snd) := r.2
    cases h2 with
    | cons a b =>
      have hp := RepKV.put (k := p.1) h a
      have := merge_rep (l := l) (kvs := kvs) ⟨h1.2, b⟩ hp
      show RepKV K Z S H (mergeC (putC acc p.1 p.2) l) (mergeK (putK acc' q.1 q.2) kvs)
      rw [← h1.1]
      exact this
def fDictOf : List Cv → Option Cv
  | [.lst ws] => (pairsC ws).map fun l => .dK (mergeC [] l)
  | [.tupF ws] => (pairsC ws).map fun l => .dK (mergeC [] l)
  | _ => none
def cDictOf : CC := fun us S Q => match fDictOf us with
  | some v => Q v S
  | none => False
theorem mo_dictOf : MonC cDictOf := fun us S Q Q' f h => by
  unfold cDictOf at h ⊢
  split at h
  · exact f _ _ h
  · exact h
theorem b_dictOf (hc : X.calm = true) : SC X (.type "dict") cDictOf := sc_of mo_dictOf fun pins s σ H xs us Q Z S ws I rv ok re q => by
  unfold cDictOf at q
  split at q
  · rename_i v ev
    unfold fDictOf at ev
    have fin : ∀ {ws : List Cv} {l : List (Key × Cv)} {kvs : List (Key × V)} {p : Addr}, RepKV X.K Z S H l kvs → H p = none → (∀ v H', Fr S H S H' → StOk X.K Z S H' → Rep X.K Z S H' (.dK (mergeC [] l)) v → Q v H') → Q (.ref p) (upd H p (.dK (mergeK [] kvs))) := fun {ws l kvs p} r hp q => by
      have m := (merge_rep r (acc := []) (acc' := []) ⟨rfl, .nil⟩).fr (Fr.new (o := .dK (mergeK [] kvs)) hp)
      exact q _ _ (Fr.new hp) (ok.new hp) (.dK upd_same (ok.free hp) (ok.notZ hp) m.1 m.2)
    split at ev
    · obtain ⟨l, e1, ev⟩ := map_some' ev
      subst ev
      cases re with
      | cons a b =>
        cases b
        cases a with
        | lst hh n z rr =>
          obtain ⟨ps, kvs, e2, hp, r⟩ := pairsC_rep rr e1
          subst e2
          exact call_dictP hc pins s σ H _ us Q I rv ⟨_, ps, kvs, rfl, .inl (.inl hh), hp, fun p h0 => fin (ws := []) r h0 q⟩
    · obtain ⟨l, e1, ev⟩ := map_some' ev
      subst ev
      cases re with
      | cons a b =>
        cases b
        cases a with
        | tupF hh n rr hd =>
          obtain ⟨ps, kvs, e2, hp, r⟩ := pairsC_rep rr e1
          subst e2
          exact call_dictT hc pins s σ H _ us Q I rv ⟨_, _, ps, kvs, rfl, hh, hd, hp, fun p h0 => fin (ws := []) r h0 q⟩
    · cases ev
  · exact q.elim
theorem ec_dictOf : EC cDictOf fDictOf := ⟨mo_dictOf, fun {us S Q v} e q => by
  unfold cDictOf
  rw [e]; exact q⟩
theorem q_dictL {ws : List Cv} : fDictOf [.lst ws] = (pairsC ws).map fun l => .dK (mergeC [] l) := rfl
theorem q_dictF {ws : List Cv} : fDictOf [.tupF ws] = (pairsC ws).map fun l => .dK (mergeC [] l) := rfl
theorem pairsC_map {α : Type} (K : α → Key) (F : α → Cv) (kc : α → Cv) (hk : ∀ a, keyC (kc a) = some (K a)) : ∀ (as : List α), pairsC (as.map fun a => .tup [kc a, F a]) = some (as.map fun a => (K a, F a))
  | [] => rfl
  | a :: as => by
    rw [List.map_cons, pairsC, hk a, Option.bind_some, pairsC_map K F kc hk as]; rfl
theorem mergeC_map {α : Type} (K : α → Key) (F : α → Cv) (as : List α) (acc : List (Key × Cv)) : mergeC acc (as.map fun a => (K a, F a)) = as.foldl (fun acc a => putC acc (K a) (F a)) acc := by
  unfold mergeC
  rw [List.foldl_map]
/-! ### l.index(x) -/
def idxC (xs : List Cv) (y : Cv) : Option Nat := if flatC y = true ∧ xs.all flatC = true then xs.findIdx? (fun z => ceq z y) else none
def fIndexL : Cv → List Cv → Option Cv
  | .lst xs, [y] => (idxC xs y).map fun j => .int ((j : Nat) : Int)
  | _, _ => none
def cIndexL : CM := fun o us S Q => match fIndexL o us with
  | some v => Q v S
  | none => False
theorem mo_indexL : MonM cIndexL := fun o us S Q Q' f h => by
  unfold cIndexL at h ⊢
  split at h
  · exact f _ _ h
  · exact h
theorem m_indexL : SM X "list.index" cIndexL := sm_of (fun o us S Q Q' f h => by
    unfold cIndexL at h ⊢
    split at h
    · exact f _ _ h
    · exact h) fun pins s σ H x xs v us Q Z S o ws I rx rv ok ro re q => by
  unfold cIndexL at q
  split at q
  · rename_i v' ev
    unfold fIndexL at ev
    split at ev
    · obtain ⟨j, e1, ev⟩ := map_some' ev
      subst ev
      unfold idxC at e1
      split at e1
      · rename_i zs y hh
        rw [List.findIdx?_eq_some_iff_getElem] at e1
        obtain ⟨hj, h1, h2⟩ := e1
        cases re with
        | cons a b =>
          cases b
          cases ro with
          | lst h0 n z rr =>
            obtain ⟨u, hu, ru⟩ := rr.get (List.getElem?_eq_getElem hj)
            have fl := List.all_eq_true.mp hh.2
            refine mt_index pins s σ H _ _ v us Q I rx rv ⟨_, _, _, j, u, rfl, rfl, .inl (.inl h0), rep_flat a hh.1, reps_flat rr hh.2, hu, ?_, fun m z' hm hz => ?_, q _ H (Fr.refl S H) ok (.int _)⟩
            · rw [rep_eqV ru a (fl _ (List.getElem_mem hj)) hh.1]; exact h1
            · obtain ⟨w, hw, rw'⟩ := rr.getV hz
              have hml : m < zs.length := by omega
              rw [List.getElem?_eq_getElem hml] at hw
              cases hw
              rw [rep_eqV rw' a (fl _ (List.getElem_mem hml)) hh.1]
              have := h2 m hm
              simpa using this
      · cases e1
    · cases ev
  · exact q.elim
def mMth (f : Cv → List Cv → Option Cv) (a : ME) (u : MA) : ME := fun gs => (a gs).bind fun o => (u gs).bind fun us => f o us
theorem ev_bmL {r : CM} {f : Cv → List Cv → Option Cv} {to : CE} {ta : CA} {a : ME} {u : MA} (hr : MonM r) (hl : ∀ o us v, f o us = some v → ∃ xs, o = .lst xs) (hf : ∀ o us v S (Q : Cv → Sto → Prop), f o us = some v → Q v S → r o us S Q) (ho : Ev to a) (hu : EvA ta u) : Ev (cBM "list" r to ta) (mMth f a u) := ⟨cBM_mono hr ho.mono hu.mono, fun V e q => by
  obtain ⟨o, e1, e⟩ := bind_some e
  obtain ⟨us, e2, e⟩ := bind_some e
  refine ho.ok V e1 ⟨?_, hu.ok V e2 (hf _ _ _ _ _ e q)⟩
  obtain ⟨xs, rfl⟩ := hl _ _ _ e
  rfl⟩
theorem ev_indexL {to : CE} {ta : CA} {a : ME} {u : MA} (ho : Ev to a) (hu : EvA ta u) : Ev (cBM "list" cIndexL to ta) (mMth fIndexL a u) :=
  ev_bmL mo_indexL (fun o us v e => by
    unfold fIndexL at e
    split at e
    · exact ⟨_, rfl⟩
    · cases e) (fun o us v S Q e q => by unfold cIndexL; rw [e]; exact q) ho hu
theorem q_mth {f : Cv → List Cv → Option Cv} {a : ME} {u : MA} {gs : MEnv} : mMth f a u gs = (a gs).bind fun o => (u gs).bind fun us => f o us := rfl
theorem q_fIndexL {xs : List Cv} {y : Cv} : fIndexL (.lst xs) [y] = (idxC xs y).map fun j => .int ((j : Nat) : Int) := rfl
end
end CL

set_option Elab.async false
set_option linter.all false
set_option maxRecDepth 100000
set_option maxHeartbeats 1000000
/-! CL45: list(range(..)); for a, b in zip(..); divmod -/
namespace CL
open PySem PySem.Spec PyProof.Rows L2
section
variable {X : Cx}
/-! ### list(range(..)) -/
def rgB (i j : Int) : Bool := decide (-1000000 ≤ i ∧ i ≤ 1000000 ∧ -1000000 ≤ j ∧ j ≤ 1000000)
theorem rgB_ok {i j : Int} (h : rgB i j = true) : RgOk i j := by
  have := of_decide_eq_true h
  exact ⟨by omega, by omega, by omega, by omega, by omega⟩
theorem reps_iota {K : Fg} {Z : List Addr} {S : Sto} {H : Hp} (a : Int) (l : List Nat) : Reps K Z S H (l.map fun (i : Nat) => Cv.int (a + i)) (l.map fun i => V.int (a + (i : Nat))) := by
  induction l with
  | nil => exact .nil
  | cons i l ih => exact .cons (.int _) ih
def fLr1 : Cv → Option Cv
  | .int j => if rgB 0 j = true then some (.lst (iota 0 j.toNat)) else none
  | _ => none
def cLr1 : C1 := fun a S Q => match fLr1 a with | some v => Q v S | none => False
theorem mo_lr1 : Mon1 cLr1 := fun a S Q Q' f h => by
  unfold cLr1 at h ⊢
  split at h
  · exact f _ _ h
  · exact h
theorem e1_lr1 : E1 cLr1 fLr1 := ⟨mo_lr1, fun {a S Q v} e q => by unfold cLr1; rw [e]; exact q⟩
theorem s_listRg1 {e : Expr} {te : CE} {p p2 pos pos2 : Pos} (hc : X.calm = true) (hm : X.mg "list" = none) (hm2 : X.mg "range" = none) (he : SE X e te) (hg : Gl X "list" := by rfl) (hg2 : Gl X "range" := by rfl) (na : starEach [e] X.env = (false, eval e X.env) :: starEach [] X.env := by rfl) : SE X (.Call (.Name "list" p) [.Call (.Name "range" p2) [e] [] pos2] [] pos) (cUn cLr1 te) :=
  ⟨mo_un mo_lr1 he.mono, (pe_listRg hc hg hm (prg_1 hg2 hm2 he.ok (na := na))).imp fun σ H Q h => by
    obtain ⟨Z, S, ws, ok, re, h⟩ := h
    refine liftE_of he.mono ok re h fun x S1 v1 H1 f1 ok1 r1 q1 => ?_
    unfold cLr1 at q1
    split at q1
    · rename_i v ev
      unfold fLr1 at ev
      split at ev
      · obtain ⟨hb, ev⟩ := ite_some ev
        subst ev
        cases r1
        refine ⟨_, rfl, rgB_ok hb, fun q hq => ?_⟩
        refine q1 _ _ (f1.trans (Fr.new hq)) (ok1.new hq) (.lst upd_same (ok1.free hq) (ok1.notZ hq) ?_)
        unfold iota rgV
        rw [Int.sub_zero]
        exact reps_iota 0 _
      · cases ev
    · exact q1.elim⟩
def fLr2 : Cv → Cv → Option Cv
  | .int i, .int j => if rgB i j = true then some (.lst (iota i (j - i).toNat)) else none
  | _, _ => none
def cLr2 : C2 := fun a b S Q => match fLr2 a b with | some v => Q v S | none => False
theorem mo_lr2 : Mon2 cLr2 := fun a b S Q Q' f h => by
  unfold cLr2 at h ⊢
  split at h
  · exact f _ _ h
  · exact h
theorem e2_lr2 : E2 cLr2 fLr2 := ⟨mo_lr2, fun {a b S Q v} e q => by unfold cLr2; rw [e]; exact q⟩
theorem s_listRg2 {e e2 : Expr} {te te2 : CE} {p p2 pos pos2 : Pos} (hc : X.calm = true) (hm : X.mg "list" = none) (hm2 : X.mg "range" = none) (he : SE X e te) (he2 : SE X e2 te2) (hg : Gl X "list" := by rfl) (hg2 : Gl X "range" := by rfl) (na : starEach [e, e2] X.env = (false, eval e X.env) :: starEach [e2] X.env := by rfl) (nb : starEach [e2] X.env = (false, eval e2 X.env) :: starEach [] X.env := by rfl) (hp : ((backTo pos2 (starEach [e2] X.env)).any fun x => x.1) = false := by rfl) : SE X (.Call (.Name "list" p) [.Call (.Name "range" p2) [e, e2] [] pos2] [] pos) (cOp cLr2 te te2) :=
  ⟨cOp_mono mo_lr2 he.mono he2.mono, (pe_listRg hc hg hm (prg_2 hg2 hm2 he.ok he2.ok (na := na) (nb := nb) (hp := hp))).imp fun σ H Q h => by
    obtain ⟨Z, S, ws, ok, re, h⟩ := h
    refine liftE_of he.mono ok re h fun x S1 v1 H1 f1 ok1 r1 q1 => ?_
    refine liftE_of he2.mono ok1 (re.fr f1) q1 fun y S2 v2 H2 f2 ok2 r2 q2 => ?_
    unfold cLr2 at q2
    split at q2
    · rename_i v ev
      unfold fLr2 at ev
      split at ev
      · obtain ⟨hb, ev⟩ := ite_some ev
        subst ev
        cases r1
        cases r2
        refine ⟨_, _, rfl, rfl, rgB_ok hb, fun q hq => ?_⟩
        refine q2 _ _ ((f1.trans f2).trans (Fr.new hq)) (ok2.new hq) (.lst upd_same (ok2.free hq) (ok2.notZ hq) ?_)
        unfold iota rgV
        exact reps_iota _ _
      · cases ev
    · exact q2.elim⟩
theorem q_lr1 {k : Int} (h : -1000000 ≤ k ∧ k ≤ 1000000) : fLr1 (.int k) = some (.lst (iota 0 k.toNat)) := if_pos (decide_eq_true ⟨by decide, by decide, h.1, h.2⟩)
theorem q_lr2 {k l : Int} (h : -1000000 ≤ k ∧ k ≤ 1000000) (h' : -1000000 ≤ l ∧ l ≤ 1000000) : fLr2 (.int k) (.int l) = some (.lst (iota k (l - k).toNat)) := if_pos (decide_eq_true ⟨h.1, h.2, h'.1, h'.2⟩)
/-! ### zip -/
def zipC : List Cv → List Cv → List Cv
  | x :: xs, y :: ys => .tup [x, y] :: zipC xs ys
  | _, _ => []
theorem zipC_len : ∀ xs ys : List Cv, (zipC xs ys).length = min xs.length ys.length
  | [], _ => by simp [zipC]
  | _ :: _, [] => by simp [zipC]
  | x :: xs, y :: ys => by rw [zipC, List.length_cons, zipC_len xs ys, List.length_cons, List.length_cons]; omega
theorem zipC_get : ∀ (k : Nat) (xs ys : List Cv) {x y : Cv}, xs[k]? = some x → ys[k]? = some y → (zipC xs ys)[k]? = some (.tup [x, y])
  | _, [], _, _, _, h, _ => by simp at h
  | _, _ :: _, [], _, _, _, h => by simp at h
  | 0, a :: xs, b :: ys, x, y, h1, h2 => by
    simp at h1 h2
    subst h1; subst h2; rfl
  | k + 1, a :: xs, b :: ys, x, y, h1, h2 => by
    rw [zipC, List.getElem?_cons_succ]
    exact zipC_get k xs ys (by simpa using h1) (by simpa using h2)
section
variable {K : Fg} {Z Z' : List Addr} {S S' : Sto} {H H' : Hp}
theorem pair2_ok (ok : StOk K Z S H) {T : Addr} (hT : H T = none) {x y : V} {w u : Cv} (r : Rep K Z S H w x) (r' : Rep K Z S H u y) : Fr S H S (upd H T (.tup [x, y])) ∧ StOk K Z S (upd H T (.tup [x, y])) ∧ Rep K Z S (upd H T (.tup [x, y])) (.tup [w, u]) (.ref T) :=
  ⟨Fr.new hT, ok.new hT, .tup (.inl upd_same) (ok.free hT) (.cons (r.fr (Fr.new hT)) (.cons (r'.fr (Fr.new hT)) .nil))⟩
theorem walk_zipL {a b : Addr} {vs us : List V} {ws zs : List Cv} (sq : ∀ S1 H1, FrZ Z S H S1 H1 → SqL K H1 a vs) (sq' : ∀ S1 H1, FrZ Z S H S1 H1 → SqL K H1 b us) (ok : StOk K Z S H) (r : Reps K Z S H ws vs) (r' : Reps K Z S H zs us) : WalkOk K Z (Itz K a b) (zipC ws zs) (fun _ => True) S H := by
  intro Z' S1 H1 _ hz f ok1 _ i
  have q1 := sq S1 H1 f
  have q2 := sq' S1 H1 f
  have r1 := r.frz ok f hz
  have r2 := r'.frz ok f hz
  rw [zipC_len]
  refine ⟨fun hi => ?_, fun hi => ⟨vs, us, q1, q2, by rw [← r.length, ← r'.length]; omega⟩⟩
  obtain ⟨v, hv, _⟩ := r1.get (List.getElem?_eq_getElem (show i < ws.length by omega))
  obtain ⟨u, hu, _⟩ := r2.get (List.getElem?_eq_getElem (show i < zs.length by omega))
  refine ⟨⟨vs, us, v, u, q1, q2, hv, hu⟩, fun x H' hy => ?_⟩
  obtain ⟨T, y1, y2, rfl, hT, rfl, hx, hx2⟩ := hy
  obtain ⟨w1, hw1, rw1⟩ := r1.getV (hx vs q1)
  obtain ⟨w2, hw2, rw2⟩ := r2.getV (hx2 us q2)
  obtain ⟨h1, h2, h3⟩ := pair2_ok ok1 hT rw1 rw2
  exact ⟨_, zipC_get i ws zs hw1 hw2, h1, h2, h3⟩
theorem walk_zipT {a b : Addr} {vs us : List V} {ws zs : List Cv} (sq : ∀ S1 H1, FrZ Z S H S1 H1 → SqT K H1 a vs) (sq' : ∀ S1 H1, FrZ Z S H S1 H1 → SqT K H1 b us) (ok : StOk K Z S H) (r : Reps K Z S H ws vs) (r' : Reps K Z S H zs us) : WalkOk K Z (RZ.ItzT K a b) (zipC ws zs) (fun _ => True) S H := by
  intro Z' S1 H1 _ hz f ok1 _ i
  have q1 := sq S1 H1 f
  have q2 := sq' S1 H1 f
  have r1 := r.frz ok f hz
  have r2 := r'.frz ok f hz
  rw [zipC_len]
  refine ⟨fun hi => ?_, fun hi => ⟨vs, us, q1, q2, by rw [← r.length, ← r'.length]; omega⟩⟩
  obtain ⟨v, hv, _⟩ := r1.get (List.getElem?_eq_getElem (show i < ws.length by omega))
  obtain ⟨u, hu, _⟩ := r2.get (List.getElem?_eq_getElem (show i < zs.length by omega))
  refine ⟨⟨vs, us, v, u, q1, q2, hv, hu⟩, fun x H' hy => ?_⟩
  obtain ⟨T, y1, y2, rfl, hT, rfl, hx, hx2⟩ := hy
  obtain ⟨w1, hw1, rw1⟩ := r1.getV (hx vs q1)
  obtain ⟨w2, hw2, rw2⟩ := r2.getV (hx2 us q2)
  obtain ⟨h1, h2, h3⟩ := pair2_ok ok1 hT rw1 rw2
  exact ⟨_, zipC_get i ws zs hw1 hw2, h1, h2, h3⟩
end
section
variable {e e2 : Expr} {p pos tpos : Pos} {elts : List Expr} {kk : Nat}
/-- what is read in pairs: lists, or tuples -/
def sqK : Cv → Option (Bool × List Cv)
  | .lst xs => some (true, xs)
  | .tup xs => some (false, xs)
  | _ => none
def fZip : List Cv → Option (List Cv)
  | [.lst xs, .lst ys] => some (zipC xs ys)
  | [.tup xs, .tup ys] => some (zipC xs ys)
  | _ => none
def cZipI (ta : CA) : CI := fun ws S Q => ta ws S fun us S1 => match fZip us with
  | some zs => Q zs (fun _ => True) S1
  | none => False
theorem mo_zipI {ta : CA} (h : MonA ta) : MonI (cZipI ta) := fun ws S Q Q' f q => h _ _ _ _ (fun us S1 q => by
  split at q
  · exact f _ _ _ q
  · exact q) q
theorem si_zip {ta : CA} (hg : Gl X "zip") (hm : X.mg "zip" = none) (ha : SA X [e, e2] ta) (hs : starEach [e, e2] X.env = (false, eval e X.env) :: starEach [e2] X.env := by rfl) (hpl : (backTo pos (starEach [e2] X.env)).any (·.1) = false := by rfl) :
    SI X (.Tuple elts kk tpos) (.Call (.Name "zip" p) [e, e2] [] pos) (cZipI ta) := by
  refine ⟨mo_zipI ha.mono, (RZ.pi_zipA hg hm ha.ok hs hpl).imp fun σ H R h => ?_⟩
  obtain ⟨Z, S, ws, ok, re, h⟩ := h
  refine liftA_of ha.mono ok re h fun us S1 vs H1 f1 ok1 r1 q1 => ?_
  split at q1
  · rename_i zs ez
    unfold fZip at ez
    split at ez
    · cases ez
      cases r1 with
      | cons ra rr =>
        cases rr with
        | cons rb rr =>
          cases rr
          cases ra with
          | lst h1 n1 z1 r1 =>
            cases rb with
            | lst h2 n2 z2 r2 => exact ⟨_, _, _, _, rfl, .inl ⟨.inl (.inl h1), .inl (.inl h2), q1 _ H1 f1 ok1 (walk_zipL (fun S2 H2 f => .inl (.inl (f.keep _ _ z1 h1 n1).1)) (fun S2 H2 f => .inl (.inl (f.keep _ _ z2 h2 n2).1)) ok1 r1 r2)⟩⟩
    · cases ez
      cases r1 with
      | cons ra rr =>
        cases rr with
        | cons rb rr =>
          cases rr
          have go : ∀ {a b : Addr} {vs us : List V} {xs ys : List Cv}, (∀ S2 H2, FrZ Z S1 H1 S2 H2 → SqT X.K H2 a vs) → (∀ S2 H2, FrZ Z S1 H1 S2 H2 → SqT X.K H2 b us) → Reps X.K Z S1 H1 xs vs → Reps X.K Z S1 H1 ys us → WalkOk X.K Z (RZ.ItzT X.K a b) (zipC xs ys) (fun _ => True) S1 H1 := fun h1 h2 r1 r2 => walk_zipT h1 h2 ok1 r1 r2
          have s1 : ∀ {a : Addr} {vs : List V} {xs : List Cv}, Rd H1 a (.tup vs) → S1 a = none → ∀ S2 H2, FrZ Z S1 H1 S2 H2 → SqT X.K H2 a vs := fun {a vs xs} hr n S2 H2 f => .inl (Rd.frz ok1 f rfl hr n).1
          cases ra with
          | tup h1 n1 r1 =>
            cases rb with
            | tup h2 n2 r2 => exact ⟨_, _, _, _, rfl, .inr ⟨.inl h1, .inl h2, q1 _ H1 f1 ok1 (go (s1 (xs := []) h1 n1) (s1 (xs := []) h2 n2) r1 r2)⟩⟩
            | tupK h2 r2 => exact ⟨_, _, _, _, rfl, .inr ⟨.inl h1, h2 H1, q1 _ H1 f1 ok1 (go (s1 (xs := []) h1 n1) (fun _ H2 _ => h2 H2) r1 r2)⟩⟩
          | tupK h1 r1 =>
            cases rb with
            | tup h2 n2 r2 => exact ⟨_, _, _, _, rfl, .inr ⟨h1 H1, .inl h2, q1 _ H1 f1 ok1 (go (fun _ H2 _ => h1 H2) (s1 (xs := []) h2 n2) r1 r2)⟩⟩
            | tupK h2 r2 => exact ⟨_, _, _, _, rfl, .inr ⟨h1 H1, h2 H1, q1 _ H1 f1 ok1 (go (fun _ H2 _ => h1 H2) (fun _ H2 _ => h2 H2) r1 r2)⟩⟩
    · cases ez
  · exact q1.elim
def mZipI (u : MA) : MA := fun gs => (u gs).bind fZip
theorem ei_zip {ua : CA} {u : MA} (h : EvA ua u) : EvI (cZipI ua) (mZipI u) := ⟨mo_zipI h.mono, fun V e q => by
  obtain ⟨us, e1, e⟩ := bind_some e
  refine h.ok V e1 ?_
  rw [e]; exact q⟩
theorem q_zipI {u : MA} {gs : MEnv} : mZipI u gs = (u gs).bind fZip := rfl
theorem q_fZipL {xs ys : List Cv} : fZip [.lst xs, .lst ys] = some (zipC xs ys) := rfl
theorem q_fZipT {xs ys : List Cv} : fZip [.tup xs, .tup ys] = some (zipC xs ys) := rfl
theorem zipC_map {α : Type} (f g : α → Cv) : ∀ as : List α, zipC (as.map f) (as.map g) = as.map fun a => .tup [f a, g a]
  | [] => rfl
  | a :: as => by rw [List.map_cons, List.map_cons, zipC, zipC_map f g as, List.map_cons]
/-! ### divmod -/
def fDivmod : List Cv → Option Cv
  | [.int i, .int j] => if decide (0 < j ∧ j < 1073741824) = true then some (.tup [.int (i / j), .int (i % j)]) else none
  | _ => none
def cDivmod : CC := fun us S Q => match fDivmod us with
  | some v => Q v S
  | none => False
theorem mo_divmod : MonC cDivmod := fun us S Q Q' f h => by
  unfold cDivmod at h ⊢
  split at h
  · exact f _ _ h
  · exact h
theorem b_divmod : SC X (.builtin "divmod") cDivmod := sc_of mo_divmod fun pins s σ H xs us Q Z S ws I rv ok re q => by
  unfold cDivmod at q
  split at q
  · rename_i v ev
    unfold fDivmod at ev
    split at ev
    · obtain ⟨hh, ev⟩ := ite_some ev
      have hh := of_decide_eq_true hh
      subst ev
      cases re with
      | cons a b =>
        cases b with
        | cons b c =>
          cases c
          cases a
          cases b
          exact call_divmod pins s σ H _ us Q I rv ⟨_, _, rfl, hh, fun p hp => q _ _ (Fr.new hp) (ok.new hp) (.tup (.inl upd_same) (ok.free hp) (.cons (.int _) (.cons (.int _) .nil)))⟩
    · cases ev
  · exact q.elim
theorem ec_divmod : EC cDivmod fDivmod := ⟨mo_divmod, fun {us S Q v} e q => by
  unfold cDivmod
  rw [e]; exact q⟩
theorem q_divmod {k l : Int} (h : 0 < l ∧ l < 1073741824) : fDivmod [.int k, .int l] = some (.tup [.int (k / l), .int (k % l)]) := if_pos (decide_eq_true h)
end
end
end CL

set_option Elab.async false
set_option linter.all false
set_option maxRecDepth 100000
set_option maxHeartbeats 1000000
/-! CL46: plain tuple displays; ord, str(an int) -/
namespace CL
open PySem PySem.Spec PyProof.Rows L2
section
variable {X : Cx} {es : List Expr} {pos : Pos}
def tTupF (t : TA) : TE := fun σ H Q => t σ H fun xs H1 => xs.length ≤ sizeLine ∧ ∀ (p : Addr) (o : Obj), H1 p = none → o.dict = none → Q (.ref p) (upd H1 p (.frz o (.tup xs)))
theorem pe_tupF {x1} {t : TA} (h : PA X es t) : PE X (.Tuple es x1 pos) (tTupF t) := by
  refine ⟨fun pins s σ H Q I hq => ?_⟩
  refine wpAny_Tuple_spliced (thn (h.run pos pins s σ H _ I hq) fun us s1 ⟨xs, H1, I1, r, z, q⟩ => ⟨by rw [← r.length]; exact z, ?_⟩)
  have hf : H1 s1.heap.objs.size = none := I1.hok.fresh (Nat.le_refl _)
  refine ⟨.ref s1.heap.objs.size, upd H1 s1.heap.objs.size (.frz { cls := .type "tuple", data := .seq us.toArray } (.tup xs)), I1.laid (t' := s1.toks) (fun b u e => Heap.get?_push_of_some _ e) (Nat.le_refl _) ?_, rfl, q _ _ hf rfl⟩
  exact ⟨Heap.get?_push_size _ rfl, z, us, r, ⟨_, Heap.get?_push_size _ rfl, rfl, _, rfl⟩⟩
def cTupF (u : CA) : CE := fun ws S Q => u ws S fun r S1 => r.length ≤ sizeLine ∧ Q (.tupF r) S1
theorem mo_tupF {u : CA} (h : MonA u) : MonE (cTupF u) := fun ws S Q Q' f q => h _ _ _ _ (fun r S1 h1 => ⟨h1.1, f _ _ h1.2⟩) q
theorem s_tupF {k} {u : CA} (h : SA X es u) : SE X (.Tuple es k pos) (cTupF u) := by
  refine ⟨mo_tupF h.mono, (pe_tupF h.ok).imp fun σ H Q q => ?_⟩
  obtain ⟨Z, S, ws, ok, re, q⟩ := q
  refine liftA_of h.mono ok re q fun us S1 vs H1 f1 ok1 r1 q1 => ?_
  refine ⟨by rw [← r1.length]; exact q1.1, fun p o hp hd => q1.2 (.ref p) _ (f1.trans (Fr.new hp)) (ok1.new hp) (.tupF upd_same (ok1.free hp) (r1.fr (Fr.new hp)) hd)⟩
def fTupF (r : List Cv) : Option Cv := if lenOk r.length = true then some (.tupF r) else none
def mTupF (u : MA) : ME := fun gs => (u gs).bind fTupF
theorem ev_tupF {ua : CA} {u : MA} (hu : EvA ua u) : Ev (cTupF ua) (mTupF u) := ⟨mo_tupF hu.mono, fun V e q => by
  obtain ⟨v1, e1, e⟩ := bind_some e
  obtain ⟨h1, e⟩ := ite_some e
  subst e
  exact hu.ok V e1 ⟨sz_of h1, q⟩⟩
theorem q_mtupF {u : MA} {gs : MEnv} : mTupF u gs = (u gs).bind fTupF := rfl
theorem q_tupF1 {v : Cv} : fTupF [v] = some (.tupF [v]) := rfl
theorem q_tupF2 {v w : Cv} : fTupF [v, w] = some (.tupF [v, w]) := rfl
theorem q_tupF3 {v w u : Cv} : fTupF [v, w, u] = some (.tupF [v, w, u]) := rfl
/-! ### ord, str -/
def fOrd : List Cv → Option Cv
  | [.str x] => if decide (x.length = 1) = true then some (.int (x.cps.getD 0 0 : Nat)) else none
  | _ => none
def fStrI : List Cv → Option Cv
  | [.int i] => if decide (i.natAbs.log2 < 1920) = true then some (.str (toString i)) else none
  | [.str x] => none
  | _ => none
def cOfC (f : List Cv → Option Cv) : CC := fun us S Q => match f us with
  | some v => Q v S
  | none => False
theorem mo_ofC {f : List Cv → Option Cv} : MonC (cOfC f) := fun us S Q Q' g h => by
  unfold cOfC at h ⊢
  split at h
  · exact g _ _ h
  · exact h
theorem ec_ofC {f : List Cv → Option Cv} : EC (cOfC f) f := ⟨mo_ofC, fun {us S Q v} e q => by
  unfold cOfC
  rw [e]; exact q⟩
theorem b_ord : SC X (.builtin "ord") (cOfC fOrd) := sc_of mo_ofC fun pins s σ H xs us Q Z S ws I rv ok re q => by
  unfold cOfC at q
  split at q
  · rename_i v ev
    unfold fOrd at ev
    split at ev
    · obtain ⟨hh, ev⟩ := ite_some ev
      have hh := of_decide_eq_true hh
      subst ev
      cases re with
      | cons a b =>
        cases b
        cases a
        exact call_ord pins s σ H _ us Q I rv ⟨_, rfl, hh, q _ H (Fr.refl S H) ok (.int _)⟩
    · cases ev
  · exact q.elim
theorem b_strI : SC X (.type "str") (cOfC fStrI) := sc_of mo_ofC fun pins s σ H xs us Q Z S ws I rv ok re q => by
  unfold cOfC at q
  split at q
  · rename_i v ev
    unfold fStrI at ev
    split at ev
    · obtain ⟨hh, ev⟩ := ite_some ev
      have hh := of_decide_eq_true hh
      subst ev
      cases re with
      | cons a b =>
        cases b
        cases a
        exact call_str_int pins s σ H _ us Q I rv ⟨_, rfl, hh, q _ H (Fr.refl S H) ok (.str _)⟩
    · cases ev
    · cases ev
  · exact q.elim
theorem q_ord {c : Nat} : fOrd [.str ⟨#[c]⟩] = some (.int (c : Nat)) := rfl
end
end CL

set_option Elab.async false
set_option linter.all false
set_option maxRecDepth 100000
set_option maxHeartbeats 1000000
/-! CL47: l.count(x), flat items -/
namespace CL
open PySem PySem.Spec PyProof.Rows L2
section
variable {X : Cx}
def rCntF (K : PySem.W.Frag) : V → List V → Hp → VK → Prop := fun x xs H Q => ∃ (p : Addr) (ys : List V) (y : V), x = .ref p ∧ xs = [y] ∧ SqL K H p ys ∧ flatV y = true ∧ ys.all flatV = true ∧ Q (.int ((ys.countP fun z => eqV z y) : Nat)) H
theorem countP_vals {y : V} : ∀ {ys : List V} {its : List Value}, Vals ys its → ys.all flatV = true → its.countP (eqU y) = ys.countP fun z => eqV z y
  | _, _, .nil, _ => rfl
  | z :: ys, u :: its, .cons a r, f => by
    rw [List.all_cons, Bool.and_eq_true] at f
    rw [List.countP_cons, List.countP_cons, countP_vals r f.2, eqU_of a f.1]
theorem mt_lcountF : MtR X "list.count" (rCntF X.K) := by
  intro pins s σ H x xs v us Q I rx rxs h
  obtain ⟨p, ys, y, rfl, rfl, hs, fy, fys, q⟩ := h
  cases rx
  cases rxs with
  | cons ry rt =>
    rename_i uy ut
    cases rt
    obtain ⟨its, rv, ⟨⟨cls, dd, data, sl⟩, n, ho, hc, hdn, hd⟩, hlen⟩ := I.list hs
    simp only at hc hd
    subst hc hd
    refine call_meets PySem.F.slot_list_count ⟨_, ho, rfl⟩ PySem.F.entry_list_count (PySem.F.args_list_count_2 _ _)
      (SeqAt.list_countAt p its.toArray n dd sl uy (eqU y)) ⟨ho, fun u' hu' => mem_eqAt ry fy rv fys u' (by simpa using hu'), ?_⟩
    refine ⟨.int ((ys.countP fun z => eqV z y) : Nat), H, I.tok _, ⟨s.toks, ?_⟩, q⟩
    show Value.int ((its.toArray.toList.countP (eqU y) : Nat) : Int) s.toks = Value.int (((ys.countP fun z => eqV z y) : Nat) : Int) s.toks
    rw [show its.toArray.toList = its from by simp, countP_vals rv fys]
theorem reps_count {K : Fg} {Z : List Addr} {S : Sto} {H : Hp} {u : Cv} {x : V} (q : Rep K Z S H u x) (g : flatC u = true) : ∀ {ws : List Cv} {vs : List V}, Reps K Z S H ws vs → ws.all flatC = true → (vs.countP fun z => eqV z x) = ws.countP fun y => ceq y u
  | _, _, .nil, _ => rfl
  | _, _, .cons a r, f => by
    rw [List.all_cons, Bool.and_eq_true] at f
    rw [List.countP_cons, List.countP_cons, reps_count q g r f.2, rep_eqV a q f.1 g]
def fCountL : Cv → List Cv → Option Cv
  | .lst xs, [y] => if flatC y = true ∧ xs.all flatC = true then some (.int ((xs.countP fun z => ceq z y : Nat) : Int)) else none
  | _, _ => none
def cCountL : CM := fun o us S Q => match fCountL o us with
  | some v => Q v S
  | none => False
theorem mo_countL : MonM cCountL := fun o us S Q Q' f h => by
  unfold cCountL at h ⊢
  split at h
  · exact f _ _ h
  · exact h
theorem m_countL : SM X "list.count" cCountL := sm_of mo_countL fun pins s σ H x xs v us Q Z S o ws I rx rv ok ro re q => by
  unfold cCountL at q
  split at q
  · rename_i v' ev
    unfold fCountL at ev
    split at ev
    · obtain ⟨hh, ev⟩ := ite_some ev
      subst ev
      cases re with
      | cons a b =>
        cases b
        cases ro with
        | lst h0 n z rr =>
          refine mt_lcountF pins s σ H _ _ v us Q I rx rv ⟨_, _, _, rfl, rfl, .inl (.inl h0), rep_flat a hh.1, reps_flat rr hh.2, ?_⟩
          rw [reps_count a hh.1 rr hh.2]
          exact q _ H (Fr.refl S H) ok (.int _)
    · cases ev
  · exact q.elim
theorem ev_countL {to : CE} {ta : CA} {a : ME} {u : MA} (ho : Ev to a) (hu : EvA ta u) : Ev (cBM "list" cCountL to ta) (mMth fCountL a u) :=
  ev_bmL mo_countL (fun o us v e => by
    unfold fCountL at e
    split at e
    · exact ⟨_, rfl⟩
    · cases e) (fun o us v S Q e q => by unfold cCountL; rw [e]; exact q) ho hu
theorem q_countS {ss : List Str} {w : Str} : fCountL (.lst (ss.map Cv.str)) [.str w] = some (.int ((ss.count w : Nat) : Int)) := by
  have h : (ss.map Cv.str).all flatC = true := by simp [flatC]
  show (if flatC (.str w) = true ∧ (ss.map Cv.str).all flatC = true then _ else none) = _
  rw [if_pos ⟨rfl, h⟩, List.countP_map]
  congr 3
end
end CL

set_option Elab.async false
set_option linter.all false
set_option maxRecDepth 100000
set_option maxHeartbeats 1000000
/-! CL48: objects of a def's own, handed back with what they hold; a dict of lists that grow -/
namespace CL
open PySem PySem.Spec PyProof.Rows L2
mutual
/-- an own object, and what it holds, as a clean value -/
inductive Fz (S1 S2 : Sto) : Cv → Cv → Prop
  | refl (w : Cv) : Fz S1 S2 w w
  | lst {a : Addr} {xs ys : List Cv} : S1 a = some (.lst xs) → S2 a = none → Fzs S1 S2 xs ys → Fz S1 S2 (.ref a) (.lst ys)
  | dK {a : Addr} {kws kys : List (Key × Cv)} : S1 a = some (.dK kws) → S2 a = none → kys.map Prod.fst = kws.map Prod.fst → Fzs S1 S2 (kws.map Prod.snd) (kys.map Prod.snd) → Fz S1 S2 (.ref a) (.dK kys)
inductive Fzs (S1 S2 : Sto) : List Cv → List Cv → Prop
  | nil : Fzs S1 S2 [] []
  | cons {w u : Cv} {ws us : List Cv} : Fz S1 S2 w u → Fzs S1 S2 ws us → Fzs S1 S2 (w :: ws) (u :: us)
end
section
variable {K : Fg} {Z : List Addr} {S1 S2 : Sto} {H : Hp}
mutual
theorem rep_fz (ok : StOk K Z S1 H) (hs : ∀ a o, S2 a = some o → S1 a = some o) : ∀ {w u : Cv}, Fz S1 S2 w u → ∀ {v : V}, Rep K Z S1 H w v → Rep K Z S2 H u v
  | _, _, .refl w, _, r => r.less hs
  | _, _, .lst (a := a) e n f, _, r => by
    cases r
    obtain ⟨vs, h1, h2⟩ := ok.ob a _ e
    exact .lst h1 n (fun z => by rw [(ok.hid a z).1] at e; cases e) (reps_fz ok hs f h2)
  | _, _, .dK (a := a) e n k f, _, r => by
    cases r
    obtain ⟨kvs, h1, h3, h2⟩ := ok.ob a _ e
    exact .dK h1 n (fun z => by rw [(ok.hid a z).1] at e; cases e) (k.trans h3) (reps_fz ok hs f h2)
theorem reps_fz (ok : StOk K Z S1 H) (hs : ∀ a o, S2 a = some o → S1 a = some o) : ∀ {ws us : List Cv}, Fzs S1 S2 ws us → ∀ {vs : List V}, Reps K Z S1 H ws vs → Reps K Z S2 H us vs
  | _, _, .nil, _, .nil => .nil
  | _, _, .cons f g, _, .cons a r => .cons (rep_fz ok hs f a) (reps_fz ok hs g r)
end
end
def HandD (S : Sto) (w : Cv) (S' : Sto) (Q : Cv → Sto → Prop) : Prop := ∃ S'' w', (∀ a o, S'' a = some o → S' a = some o) ∧ Fz S' S'' w w' ∧ Q w' S''
theorem HandD.mono {S S' : Sto} {w : Cv} {Q Q' : Cv → Sto → Prop} (f : ∀ w S', Q w S' → Q' w S') (h : HandD S w S' Q) : HandD S w S' Q' := by
  obtain ⟨S2, w2, a, b, q⟩ := h
  exact ⟨S2, w2, a, b, f _ _ q⟩
theorem hand_okD {K : Fg} {Z : List Addr} {S0 S : Sto} {H0 H : Hp} {w : Cv} {v : V} {R : Cv → Sto → Prop} {Q : VK} (f : Fr S0 H0 S H) (ok : StOk K Z S H) (r : Rep K Z S H w v) (h : HandD S0 w S R)
    (q : ∀ w' S' v' H', Fr S0 H0 S' H' → StOk K Z S' H' → Rep K Z S' H' w' v' → R w' S' → Q v' H') : Q v H := by
  obtain ⟨S2, w2, hs, hw, h⟩ := h
  exact q w2 S2 v H (f.less hs) (ok.less hs) (rep_fz ok hs hw r) h
def bodyEndsD (S : Sto) (Q : Cv → Sto → Prop) : CEnds := { nx := fun _ S' => HandD S .non S' Q, rt := fun w S' => HandD S w S' Q }
structure PLD (N ps : List Str) (sp : CSp) (t : CS) : Prop where
  mono : MonSp sp
  len : ∀ us S Q E, sp us S Q E → us.length = ps.length
  go : ∀ us S Q E, sp us S Q E → t (bodyEndsD S Q) (cstart N us) S
section
variable {P : Program} {w : World} {K : Fg} {mg : Str → Option Value} {base : Heap}
theorem fn_mkD {x qual : Str} {st : Stmt} {f : Addr} {fd : FuncData} {N ps : List Str} {k : Nat} {sp : CSp} {t : CS} (F : Fun K x qual st f fd) (Sc : FnScope N ps (defScope st)) (mono : MonSp sp) (len : ∀ us S Q E, sp us S Q E → us.length = ps.length)
    (hb : ∀ (cdv : Value) (A : Around) (outer : List PySem.Env) (s : Shared) (H : Hp) (E : XK), RoomG k (A.deeper (envOfC qual (defScope st) s.heap.objs.size f cdv)) → SSs (cxOf L2.CX0 P w K mg base N qual (defScope st) f cdv A outer s H E).nox (defBody st) t)
    (hsp : ∀ us S Q E, sp us S Q E → t (bodyEndsD S Q) (cstart N us) S) : FnG P w K mg base L2.CX0 (k + 1) f fd ps sp := by
  obtain ⟨oc, od, kV, doc, pm, an, cdv, ct, osl, rfl, lk, hcd⟩ := F.ex
  refine ⟨mono, len, fun A outer s H args us vs Q E hr e0 hbd rv hl => ?_⟩
  obtain ⟨Z, S, ws, ok, re, hq⟩ := hl
  have hlen : vs.length = ps.length := by
    rw [← re.length]
    exact len _ _ _ _ hq
  have kin : K.In s.heap := e0.mod.kin.keeps fun b o e => (e0.bs b o e).1
  have nolim : s.heap.NoLimit := e0.mod.nolimit.keeps fun b o e => (e0.bs b o e).1
  have kinds : ∀ y ∈ ps.zip us, (defScope st).names.lookup y.1 = some .local ∨
      ((defScope st).names.lookup y.1 = some .cell ∧ ((cellsFrom (s.heap.objs.size + 1) (defScope st).names []).lookup y.1).isSome = true) := by
    rintro ⟨n, u⟩ hy
    rcases Sc.par n (List.of_mem_zip hy).1 with q | q
    · exact .inl q
    · exact .inr ⟨q, PySem.W.cellsFrom_some _ _ _ (.inl q)⟩
  refine codeAny_call_function hr.room.depth (kin _ _ lk) rfl Sc.co Sc.gen rfl
    (PySem.W.codeRec_of kin hcd) (hbd _ _ _ _ ?_)
  refine wpAny_newFunctionEnv_cells Sc.kind kinds fun env he s1 hx => ?_
  subst he
  refine ⟨nolim.keeps hx.toInCall.keep, codeAny_func ?_⟩
  have I := inv_start (CX := L2.CX0) (K := K) (mg := mg) (E := E) (cd := cdv) Sc hr.room.hd e0 hlen rv hx
  have body := hb cdv A outer s H E ⟨hr.room.deeper _, hr.gd⟩
  have goal : liftS K t { nx := fun _ H' => Q .non H', rt := Q } (L2.start N vs) H := by
    refine ⟨Z, S, cstart N ws, ok, repSt_start re, body.mono (bodyEndsD S fun u S' => ∀ v H', Fr S H S' H' → StOk K Z S' H' → Rep K Z S' H' u v → Q v H') _ _ _ ⟨?_, ?_, fun _ _ h => False.elim h, fun _ _ h => False.elim h⟩ (hsp ws S _ _ hq)⟩
    · exact fun ws' S' h σ' H' f1 ok1 _ => hand_okD f1 ok1 .non h fun w' S2 v' H2 f2 ok2 r2 q => q v' H2 f2 ok2 r2
    · exact fun u S' h v H' f1 ok1 r1 => hand_okD f1 ok1 r1 h fun w' S2 v' H2 f2 ok2 r2 q => q v' H2 f2 ok2 r2
  have run := body.ok.nox
  refine wpAny_mono (run.run [] s1 (L2.start N vs) H _ I goal) (fun fl s' hs => ?_) fun e s' hs => hs
  cases fl with
  | ret u =>
    obtain ⟨v, σ', H', J, r1, q⟩ := hs
    exact ⟨v, H', J.os, J.bare, J.base, J.hok, r1, q⟩
  | next =>
    obtain ⟨σ', H', J, q⟩ := hs
    exact ⟨V.non, H', J.os, J.bare, J.base, J.hok, rfl, q⟩
  | brk =>
    obtain ⟨_, _, _, q⟩ := hs
    exact False.elim q
  | cont =>
    obtain ⟨_, _, _, q⟩ := hs
    exact False.elim q
end
/-! ### the places of each word -/
def tPlaced (sf su : CSp) : CS :=
  cSeq (cAsg (cDNew) (cgName 2))
      (cSeq (cFor (cSeqI (cCall su X0 (cCons (cVar 0) (cNil)))) (cgName 3) (cSeq (cDPut (cVar 2) (cVar 3) (cLstO (cNil)))
      (cNext)))
      (cSeq (cFor (cEnumI (cCons (cCall sf X0 (cCons (cVar 0) (cCons (cVar 1) (cNil)))) (cNil))) (cgTup 2 (cgCons (cgName 4) (cgCons (cgName 3) (cgNil)))) (cSeq (cDrop (cBM "list" cAppend (cDIx (cVar 2) (cVar 3)) (cCons (cVar 4) (cNil))))
      (cNext)))
      (cSeq (cRet (cVar 2))
      (cNext))))
/-- the places of w in l, from i on -/
def posF (w : Str) : Nat → List Str → List Nat
  | _, [] => []
  | i, x :: l => if x = w then i :: posF w (i + 1) l else posF w (i + 1) l
def placedV (ws ls : List Str) : Cv := .dK (ws.map fun w => (Sum.inr w, .lst ((posF w 0 ls).map fun i : Nat => Cv.int (i : Nat))))
def strsOf : Cv → Option (List Str)
  | .lst xs => asStrs xs
  | _ => none
def mPlaced (mf mu : List Cv → Option Cv) : List Cv → Option Cv
  | [r, n] => (mu [r]).bind fun u => (strsOf u).bind fun ws => (mf [r, n]).bind fun f => (strsOf f).bind fun ls =>
    if (decide (ws.Nodup) && decide (ws.length < 100000) && decide (ls.length < 100000) && ls.all fun x => decide (x ∈ ws)) = true then some (placedV ws ls) else none
  | _ => none
theorem strsOf_some {v : Cv} {ws : List Str} (h : strsOf v = some ws) : v = .lst (ws.map Cv.str) := by
  cases v with
  | lst xs =>
    have key : ∀ (xs : List Cv) (ws : List Str), asStrs xs = some ws → xs = ws.map Cv.str := by
      intro xs
      induction xs with
      | nil => intro ws e; cases e; rfl
      | cons x xs ih =>
        intro ws e
        cases x with
        | str z =>
          obtain ⟨l, e1, e2⟩ := map_some' e
          subst e2
          rw [ih l e1]; rfl
        | _ => cases e
    rw [key xs ws h]
  | _ => cases h
/-- the state in between: the dict at d, its lists at the addresses of ps -/
structure PlSt (S0 S : Sto) (d : Addr) (ps : List (Str × Addr)) (L : Str → List Nat) : Prop where
  dict : S d = some (.dK (ps.map fun p => (Sum.inr p.1, .ref p.2)))
  at' : ∀ p ∈ ps, S p.2 = some (.lst ((L p.1).map fun i : Nat => Cv.int (i : Nat)))
  ne : ∀ p ∈ ps, p.2 ≠ d ∧ S0 p.2 = none
  d0 : S0 d = none
  dis : (ps.map (·.2)).Nodup
  base : ∀ a o, S0 a = some o → S a = some o
theorem valC_ps {ps : List (Str × Addr)} {w : Str} (n : (ps.map (·.1)).Nodup) {p : Addr} (h : (w, p) ∈ ps) : valC (ps.map fun p => ((Sum.inr p.1 : Key), Cv.ref p.2)) (Sum.inr w) = some (.ref p) := by
  unfold valC
  induction ps with
  | nil => cases h
  | cons q ps ih =>
    rw [List.map_cons, List.find?_cons]
    rw [List.map_cons, List.nodup_cons] at n
    rcases List.mem_cons.mp h with e | e
    · subst e
      simp
    · have ne : ¬ (Sum.inr q.1 : Key) = Sum.inr w := fun z => n.1 (by
        have : q.1 = w := Sum.inr.inj z
        rw [this]; exact List.mem_map_of_mem (f := (·.1)) e)
      rw [decide_eq_false ne]
      exact ih n.2 e
theorem nodup_inj2 {ps : List (Str × Addr)} (n : (ps.map (·.2)).Nodup) {p q : Str × Addr} (hp : p ∈ ps) (hq : q ∈ ps) (e : p.2 = q.2) : p = q := by
  induction ps with
  | nil => cases hp
  | cons x ps ih =>
    rw [List.map_cons, List.nodup_cons] at n
    rcases List.mem_cons.mp hp with h1 | h1
    · rcases List.mem_cons.mp hq with h2 | h2
      · rw [h1, h2]
      · exact absurd (by rw [← h1, e]; exact List.mem_map_of_mem (f := (·.2)) h2) n.1
    · rcases List.mem_cons.mp hq with h2 | h2
      · exact absurd (by rw [← h2, ← e]; exact List.mem_map_of_mem (f := (·.2)) h1) n.1
      · exact ih n.2 h1 h2
theorem putC_new {ps : List (Str × Addr)} {w : Str} {p : Addr} (h : w ∉ ps.map (·.1)) : putC (ps.map fun p => ((Sum.inr p.1 : Key), Cv.ref p.2)) (Sum.inr w) (.ref p) = (ps ++ [(w, p)]).map fun p => ((Sum.inr p.1 : Key), Cv.ref p.2) := by
  unfold putC
  have e : ((ps.map fun p => ((Sum.inr p.1 : Key), Cv.ref p.2)).any fun kv => decide (kv.1 = Sum.inr w)) = false := by
    rw [List.any_eq_false]
    intro q hq
    obtain ⟨z, hz, rfl⟩ := List.mem_map.mp hq
    simp only [decide_eq_true_eq]
    exact fun e => h (by rw [← Sum.inr.inj e]; exact List.mem_map_of_mem (f := (·.1)) hz)
  rw [e, if_neg (by decide), List.map_append]; rfl
theorem posF_snoc (w x : Str) : ∀ (l : List Str) (i : Nat), posF w i (l ++ [x]) = if x = w then posF w i l ++ [i + l.length] else posF w i l
  | [], i => by
    show (if x = w then [i] else []) = _
    split <;> rfl
  | y :: l, i => by
    rw [List.cons_append, posF, posF, posF_snoc w x l (i + 1), List.length_cons, show i + 1 + l.length = i + (l.length + 1) by omega]
    by_cases h1 : y = w <;> by_cases h2 : x = w <;> simp [h1, h2]
theorem placed_go {mf mu : List Cv → Option Cv} {N : List Str} (hN : N.length = 5) : PLD N ["_law_rules_here", "_law_upto"] (spM 2 (mPlaced mf mu)) (tPlaced (spM 2 mf) (spM 1 mu)) where
  mono := spM_mono
  len := fun us S Q E h => h.1
  go := fun us S Q E h => by
    obtain ⟨hl, v, e, q⟩ := h
    unfold mPlaced at e
    split at e
    · rename_i r n
      obtain ⟨u, e1, e⟩ := bind_some e
      obtain ⟨ws, e2, e⟩ := bind_some e
      obtain ⟨f, e3, e⟩ := bind_some e
      obtain ⟨ls, e4, e⟩ := bind_some e
      obtain ⟨hc, e⟩ := ite_some e
      subst e
      cases strsOf_some e2
      cases strsOf_some e4
      rw [Bool.and_eq_true, Bool.and_eq_true, Bool.and_eq_true, decide_eq_true_eq, decide_eq_true_eq, decide_eq_true_eq, List.all_eq_true] at hc
      obtain ⟨⟨⟨nd, hw⟩, hll⟩, hm⟩ := hc
      have cs : cstart N [r, n] = [some r, some n, none, none, none] := by
        unfold cstart
        rw [hN]; rfl
      rw [cs]
      intro d hd
      show cSeq _ _ _ [some r, some n, some (.ref d), none, none] (S.set d (.dK []))
      refine ⟨rfl, _, e1, ?_⟩
      -- the second loop, and the end
      have loop2 : ∀ (l2 l1 : List Str) (ps : List (Str × Addr)) (S' : Sto) (o3 o4 : Option Cv), l1 ++ l2 = ls → ps.map (·.1) = ws → PlSt S S' d ps (fun w => posF w 0 l1) →
          forL (fun _ => True) (cgTup 2 (cgCons (cgName 4) (cgCons (cgName 3) cgNil))) (cSeq (cDrop (cBM "list" cAppend (cDIx (cVar 2) (cVar 3)) (cCons (cVar 4) cNil))) cNext) { bodyEndsD S Q with nx := cSeq (cRet (cVar 2)) cNext (bodyEndsD S Q) } (pairsFrom l1.length (l2.map Cv.str)) [some r, some n, some (.ref d), o3, o4] S' := by
        intro l2
        induction l2 with
        | nil =>
          intro l1 ps S' o3 o4 el ep st
          rw [List.append_nil] at el
          subst el
          refine ⟨True.intro, ?_⟩
          show HandD S (.ref d) S' Q
          refine ⟨S, placedV ws l1, st.base, ?_, q⟩
          refine .dK st.dict st.d0 ?_ ?_
          · rw [← ep, List.map_map, List.map_map, List.map_map]; rfl
          · rw [← ep, List.map_map, List.map_map, List.map_map]
            have key : ∀ qs : List (Str × Addr), (∀ p ∈ qs, p ∈ ps) → Fzs S' S (qs.map (Prod.snd ∘ fun p => ((Sum.inr p.1 : Key), Cv.ref p.2))) (qs.map ((Prod.snd ∘ fun w => ((Sum.inr w : Key), Cv.lst ((posF w 0 l1).map fun i : Nat => Cv.int (i : Nat)))) ∘ fun x => x.1)) := by
              intro qs
              induction qs with
              | nil => intro _; exact .nil
              | cons p qs ih =>
                intro hq
                have hp := hq p List.mem_cons_self
                have fz : ∀ l : List Nat, Fzs S' S (l.map fun i : Nat => Cv.int (i : Nat)) (l.map fun i : Nat => Cv.int (i : Nat)) := fun l => by
                  induction l with
                  | nil => exact .nil
                  | cons i l ihl => exact .cons (.refl _) ihl
                exact .cons (.lst (st.at' p hp) (st.ne p hp).2 (fz _)) (ih fun z hz => hq z (List.mem_cons_of_mem _ hz))
            exact key ps fun _ h => h
        | cons x l2 ih =>
          intro l1 ps S' o3 o4 el ep st
          have hlen := congrArg List.length el
          rw [List.length_append, List.length_cons] at hlen
          have hx : x ∈ ws := of_decide_eq_true (hm x (by rw [← el]; simp))
          rw [← ep] at hx
          obtain ⟨p, hp, hpx⟩ := List.mem_map.mp hx
          obtain ⟨xw, a⟩ := p
          simp only at hpx
          subst hpx
          have nps : (ps.map (·.1)).Nodup := by rw [ep]; exact nd
          refine ⟨True.intro, rfl, rfl, ?_⟩
          show cSeq _ _ _ [some r, some n, some (.ref d), some (.str xw), some (.int (l1.length : Nat))] S'
          have hv := valC_ps nps hp
          have ha := st.at' _ hp
          show (match derefK (.ref d) S', keyC (.str xw) with | some kws, some k => (match valC kws k with | some w => _ | none => False) | _, _ => False)
          have hd' : derefK (.ref d) S' = some (ps.map fun p => (Sum.inr p.1, .ref p.2)) := by
            unfold derefK deref
            simp only [st.dict]
          rw [hd']
          show (match valC (ps.map fun p => ((Sum.inr p.1 : Key), Cv.ref p.2)) (Sum.inr xw) with | some w => _ | none => False)
          rw [hv]
          refine ⟨?_, ?_⟩
          · show (match S' a with | some (.lst _) => "list" = "list" | some (.dK _) => "list" = "dict" | some (.dT _) => "list" = "dict" | _ => False)
            rw [ha]
          · show ownL S' a fun xs => xs.length < sizeLine ∧ _
            unfold ownL
            rw [ha]
            refine ⟨?_, ?_⟩
            · rw [List.length_map]
              have : ∀ (l : List Str) (i : Nat), (posF xw i l).length ≤ l.length := by
                intro l
                induction l with
                | nil => intro i; exact Nat.le_refl _
                | cons y l ihl =>
                  intro i
                  rw [posF]
                  have := ihl (i + 1)
                  split <;> rw [List.length_cons] <;> first | omega | (rw [List.length_cons]; omega)
              have := this l1 0
              show (posF xw 0 l1).length < sizeLine
              have hz : (1000000 : Nat) ≤ sizeLine := by decide
              omega
            · have nx := ih (l1 ++ [xw]) ps (S'.set a (.lst ((posF xw 0 l1).map (fun i : Nat => Cv.int (i : Nat)) ++ [.int (l1.length : Nat)]))) (some (.str xw)) (some (.int (l1.length : Nat))) (by rw [← el]; simp) ep ?_
              · rw [List.length_append, List.length_singleton] at nx
                exact nx
              · obtain ⟨n1, n2⟩ := st.ne _ hp
                refine ⟨?_, fun p hpp => ?_, st.ne, st.d0, st.dis, fun b o hb => ?_⟩
                · rw [Sto.set_ne (fun z => n1 z.symm)]; exact st.dict
                · by_cases z : p.2 = a
                  · have : p = (xw, a) := by
                      exact nodup_inj2 st.dis hpp hp z
                    subst this
                    rw [Sto.set_same]
                    simp only [posF_snoc, if_true, Nat.zero_add, List.map_append, List.map_cons, List.map_nil]
                  · rw [Sto.set_ne z, st.at' p hpp]
                    have nw : ¬ xw = p.1 := fun e => z (by
                      have := valC_ps nps (w := p.1) (p := p.2) (by exact hpp)
                      rw [← e, hv] at this
                      cases this; rfl)
                    simp only [posF_snoc, if_neg nw]
                · rw [Sto.set_ne (fun z => by subst z; rw [n2] at hb; cases hb)]
                  exact st.base b o hb
      have loop1 : ∀ (w2 w1 : List Str) (ps : List (Str × Addr)) (S' : Sto) (o3 : Option Cv), w1 ++ w2 = ws → ps.map (·.1) = w1 → PlSt S S' d ps (fun _ => []) →
          forL (fun _ => True) (cgName 3) (cSeq (cDPut (cVar 2) (cVar 3) (cLstO cNil)) cNext) { bodyEndsD S Q with nx := (cSeq (cFor (cEnumI (cCons (cCall (spM 2 mf) X0 (cCons (cVar 0) (cCons (cVar 1) cNil))) cNil)) (cgTup 2 (cgCons (cgName 4) (cgCons (cgName 3) cgNil))) (cSeq (cDrop (cBM "list" cAppend (cDIx (cVar 2) (cVar 3)) (cCons (cVar 4) cNil))) cNext)) (cSeq (cRet (cVar 2)) cNext)) (bodyEndsD S Q) } (w2.map Cv.str) [some r, some n, some (.ref d), o3, none] S' := by
        intro w2
        induction w2 with
        | nil =>
          intro w1 ps S' o3 ew ep st
          rw [List.append_nil] at ew
          subst ew
          refine ⟨True.intro, rfl, _, e3, ?_⟩
          exact loop2 ls [] ps S' o3 none rfl ep st
        | cons x w2 ih =>
          intro w1 ps S' o3 ew ep st
          have hlen := congrArg List.length ew
          rw [List.length_append, List.length_cons] at hlen
          have hx : x ∉ ps.map (·.1) := by
            rw [ep]
            intro hx
            rw [← ew] at nd
            exact (List.nodup_append.mp nd).2.2 x hx x List.mem_cons_self rfl
          refine ⟨True.intro, Nat.zero_le _, fun a ha => ?_⟩
          show ownD (S'.set a (.lst [])) d fun kws => kws.length < sizeLine ∧ _
          have had : a ≠ d := fun z => by subst z; rw [st.dict] at ha; cases ha
          unfold ownD
          rw [Sto.set_ne (fun z => had z.symm), st.dict]
          refine ⟨?_, ?_⟩
          · have := congrArg List.length ep
            rw [List.length_map] at this
            rw [List.length_map]
            have hz : (1000000 : Nat) ≤ sizeLine := by decide
            omega
          · rw [putC_new hx]
            refine ih (w1 ++ [x]) (ps ++ [(x, a)]) _ _ (by rw [← ew]; simp) (by rw [List.map_append, ep]; rfl) ?_
            have a0 : S a = none := by
              cases e : S a with
              | none => rfl
              | some o => rw [st.base a o e] at ha; cases ha
            have nin : a ∉ ps.map (·.2) := fun h => by
              obtain ⟨p, hp, e⟩ := List.mem_map.mp h
              have := st.at' p hp
              rw [e, ha] at this; cases this
            refine ⟨Sto.set_same, fun p hp => ?_, fun p hp => ?_, st.d0, ?_, fun b o hb => ?_⟩
            · rcases List.mem_append.mp hp with hp | hp
              · rw [Sto.set_ne (st.ne p hp).1, Sto.set_ne (fun z => nin (by rw [← z]; exact List.mem_map_of_mem (f := (·.2)) hp))]
                exact st.at' p hp
              · rw [List.mem_singleton.mp hp]
                show ((S'.set a (.lst [])).set d _) a = _
                rw [Sto.set_ne had, Sto.set_same]; rfl
            · rcases List.mem_append.mp hp with hp | hp
              · exact st.ne p hp
              · rw [List.mem_singleton.mp hp]; exact ⟨had, a0⟩
            · rw [List.map_append]
              exact List.nodup_append.mpr ⟨st.dis, by simp, fun y hy z hz => by
                rw [List.mem_singleton.mp hz]
                exact fun e => nin (by have e : y = a := e; rw [← e]; exact hy)⟩
            · rw [Sto.set_ne (fun z => by subst z; rw [st.d0] at hb; cases hb), Sto.set_ne (fun z => by subst z; rw [a0] at hb; cases hb)]
              exact st.base b o hb
      refine loop1 ws [] [] (S.set d (.dK [])) none rfl rfl ⟨Sto.set_same, ?_, ?_, hd, List.nodup_nil, ?_⟩
      · intro _ h; cases h
      · intro _ h; cases h
      · intro b o hb
        rw [Sto.set_ne (fun z => by subst z; rw [hd] at hb; cases hb)]; exact hb
    · cases e
end CL

set_option Elab.async false
set_option linter.all false
set_option maxRecDepth 100000
set_option maxHeartbeats 1000000
/-! CL49: t.index(x) of a plain tuple of texts -/
namespace CL
open PySem PySem.Spec PyProof.Rows L2
section
variable {X : Cx}
def tyF (T : String) (x : V) (H : Hp) : Prop := T = "tuple" ∧ ∃ p o vs, x = .ref p ∧ H p = some (.frz o (.tup vs)) ∧ o.dict = none
theorem tyF_is {pins : List (Addr × Obj)} {σ : L2.St} {H : Hp} {s : Shared} {T : String} {x : V} {v : Value} (I : Inv X pins σ H s) (r : RelV x v) (ty : tyF T x H) :
    s.TypeIs v T ∧ ∀ a, v = .ref a → ∃ ob, s.heap.get? a = some ob ∧ ob.dict = none := by
  obtain ⟨rfl, p, o, vs, rfl, h, d⟩ := ty
  cases r
  obtain ⟨its, _, pl, _⟩ := tup_plain I h d
  obtain ⟨o', n, e, c, hd, _⟩ := pl
  exact ⟨⟨o', e, c⟩, fun a e2 => by cases e2; exact ⟨o', e, hd⟩⟩
variable {o e : Expr} {es : List Expr} {name : Str} {apos cpos : Pos} {T idn : String}
def tBMF (T : String) (r : V → List V → Hp → VK → Prop) (to : TE) (t : TA) : TE := fun σ H Q => to σ H fun x H1 => tyF T x H1 ∧ t σ H1 fun xs H2 => r x xs H2 Q
theorem pe_bmF {r : V → List V → Hp → VK → Prop} {to : TE} {t : TA} (pa : PlainAttrs T) (slot : Slot T name idn) (hty : typeOf (.builtin idn) = pure (.type "method_descriptor")) (hm : MtR X idn r) (ho : PE X o to) (ha : PA X (e :: es) t)
    (hbase : attributeBase o name X.env (eval o X.env) = eval o X.env := by rfl)
    (hfew : ((backTo cpos (starEach (e :: es) X.env)).all (fun x => !x.1) && (backToKw cpos (keywordEach [] X.env)).all (fun x => x.1.isSome)
      && decide ((e :: es).length + ([] : List Keyword).length + (if ([] : List Keyword).isEmpty then 0 else 1) < 30)) = true := by rfl)
    (hline : (apos.endLine == cpos.line) = true := by rfl) (hs : starEach (e :: es) X.env = (false, eval e X.env) :: starEach es X.env := by rfl) (hplain : (backTo cpos (starEach es X.env)).any (·.1) = false := by rfl) :
    PE X (.Call (.Attribute o name apos) (e :: es) [] cpos) (tBMF T r to t) := by
  refine ⟨fun pins s σ H Q I h => ?_⟩
  refine wpAny_Call_method_late hbase hfew hline rfl (thn (ho.run pins s σ H _ I h) fun v s1 ⟨x, H1, I1, r1, ty, q1⟩ => ?_)
  obtain ⟨h1, h2⟩ := tyF_is I1 r1 ty
  refine ⟨T, idn, pa, slot, hty, h1, h2, ?_⟩
  have hA := ha.run cpos pins s1 σ H1 _ I1 q1
  rw [hs] at hA ⊢
  refine Calls.callWith_builtin (by show (false || (backTo cpos (starEach es X.env)).any (·.1)) = false; rw [hplain] <;> rfl) (Calls.evalArgs_plain ?_)
  exact thn hA fun us s2 ⟨vs, H2, I2, r2, q2⟩ => hm pins s2 σ H2 x vs v us Q I2 r1 r2 q2
def tyCF (T : String) (o : Cv) : Prop := match o with
  | .tupF _ => T = "tuple"
  | _ => False
theorem tyCF_ok {K : Fg} {Z : List Addr} {S : Sto} {H : Hp} {T : String} {o : Cv} {x : V} (r : Rep K Z S H o x) (h : tyCF T o) : tyF T x H := by
  cases r with
  | tupF h1 n rr d => exact ⟨h, _, _, _, rfl, h1, d⟩
  | _ => exact h.elim
def cBMF (T : String) (r : CM) (to : CE) (ta : CA) : CE := fun ws S Q => to ws S fun o S1 => tyCF T o ∧ ta ws S1 fun us S2 => r o us S2 Q
variable {to : CE} {ta : CA} {rm : CM}
theorem cBMF_mono (hr : MonM rm) (ho : MonE to) (ha : MonA ta) : MonE (cBMF T rm to ta) := fun ws S Q Q' f h => ho _ _ _ _ (fun o S1 h1 => ⟨h1.1, ha _ _ _ _ (fun us S2 h2 => hr _ _ _ _ _ f h2) h1.2⟩) h
theorem s_bmF (pa : PlainAttrs T) (slot : Slot T name idn) (hm : SM X idn rm) (ho : SE X o to) (ha : SA X (e :: es) ta) (hty : typeOf (.builtin idn) = pure (.type "method_descriptor") := by rfl)
    (hbase : attributeBase o name X.env (eval o X.env) = eval o X.env := by rfl)
    (hfew : ((backTo cpos (starEach (e :: es) X.env)).all (fun x => !x.1) && (backToKw cpos (keywordEach [] X.env)).all (fun x => x.1.isSome)
      && decide ((e :: es).length + ([] : List Keyword).length + (if ([] : List Keyword).isEmpty then 0 else 1) < 30)) = true := by rfl)
    (hline : (apos.endLine == cpos.line) = true := by rfl) (hs : starEach (e :: es) X.env = (false, eval e X.env) :: starEach es X.env := by rfl) (hplain : (backTo cpos (starEach es X.env)).any (·.1) = false := by rfl) :
    SE X (.Call (.Attribute o name apos) (e :: es) [] cpos) (cBMF T rm to ta) :=
  ⟨cBMF_mono hm.mono ho.mono ha.mono, (pe_bmF pa slot hty hm.ok ho.ok ha.ok hbase hfew hline hs hplain).imp fun σ H Q h => by
    obtain ⟨Z, S, ws, ok, re, h⟩ := h
    refine liftE_of ho.mono ok re h fun w S1 v1 H1 f1 ok1 r1 h1 => ⟨tyCF_ok r1 h1.1, ?_⟩
    refine liftA_of ha.mono ok1 (re.fr f1) h1.2 fun us S2 vs H2 f2 ok2 r2 h2 => ?_
    exact ⟨Z, S2, w, us, ok2, r1.fr f2, r2, hm.mono _ _ _ _ _ (fun w S' g v H' a b c => g v H' ((f1.trans f2).trans a) b c) h2⟩⟩
/-! ### the place of a text -/
def fIndexT : Cv → List Cv → Option Cv
  | .tupF xs, [.str w] => (asStrs xs).bind fun ss => if decide (w ∈ ss) = true then some (.int ((ss.idxOf w : Nat) : Int)) else none
  | _, _ => none
def cIndexT : CM := fun o us S Q => match fIndexT o us with
  | some v => Q v S
  | none => False
theorem mo_indexT : MonM cIndexT := fun o us S Q Q' f h => by
  unfold cIndexT at h ⊢
  split at h
  · exact f _ _ h
  · exact h
theorem m_indexT : SM X "tuple.index" cIndexT := sm_of mo_indexT fun pins s σ H x xs v us Q Z S o ws I rx rv ok ro re q => by
  unfold cIndexT at q
  split at q
  · rename_i v' ev
    unfold fIndexT at ev
    split at ev
    · rename_i zs w
      obtain ⟨ss, e1, ev⟩ := bind_some ev
      obtain ⟨hc, ev⟩ := ite_some ev
      subst ev
      cases ro with
      | tupF h0 n rr d =>
        rename_i a vs ob
        have ez := asStrs_ok rr e1
        subst ez
        cases re with
        | cons a1 b1 =>
          cases b1
          cases a1
          cases rx
          cases rv with
          | cons ra rb =>
            cases rb
            obtain ⟨t, rfl⟩ := ra
            obtain ⟨its, rvs, pl, _⟩ := tup_plain I h0 d
            obtain ⟨o', n', e', c', hd', dt'⟩ := pl
            refine SeqAt.tuple_index_strs ⟨o', e', c', n', dt'⟩ (Vals.strs rvs) (of_decide_eq_true hc) ?_
            exact ⟨.int ((ss.idxOf w : Nat) : Int), H, I.tok _, ⟨_, rfl⟩, q _ H (Fr.refl S H) ok (.int _)⟩
    · cases ev
  · exact q.elim
theorem ev_indexT {to : CE} {ta : CA} {a : ME} {u : MA} (ho : Ev to a) (hu : EvA ta u) : Ev (cBMF "tuple" cIndexT to ta) (mMth fIndexT a u) := ⟨cBMF_mono mo_indexT ho.mono hu.mono, fun V e q => by
  obtain ⟨o, e1, e⟩ := bind_some e
  obtain ⟨us, e2, e⟩ := bind_some e
  refine ho.ok V e1 ⟨?_, hu.ok V e2 (by unfold cIndexT; rw [e]; exact q)⟩
  unfold fIndexT at e
  split at e
  · rfl
  · cases e⟩
theorem q_fIndexT {ss : List Str} {w : Str} (h : w ∈ ss) : fIndexT (.tupF (ss.map Cv.str)) [.str w] = some (.int ((ss.idxOf w : Nat) : Int)) := by
  show (asStrs _).bind _ = _
  rw [asStrs_map, Option.bind_some, if_pos (decide_eq_true h)]
end
end CL

set_option Elab.async false
set_option linter.all false
set_option maxRecDepth 100000
set_option maxHeartbeats 1000000
/-! CL50: calls of defs by the names of their arguments -/
namespace CL
open PySem PySem.Spec PyProof.Rows L2
def permL {α : Type} (ix : List Nat) (us : List α) : List α := ix.filterMap fun i => us[i]?
theorem vals_perm {vs : List V} {us : List Value} (r : Vals vs us) : ∀ ix, Vals (permL ix vs) (permL ix us)
  | [] => .nil
  | i :: ix => by
    unfold permL
    rw [List.filterMap_cons, List.filterMap_cons]
    have hl := r.length
    by_cases h : i < us.length
    · obtain ⟨u, hu, ru⟩ := r.get (List.getElem?_eq_getElem (show i < vs.length by omega))
      rw [List.getElem?_eq_getElem (show i < vs.length by omega), hu]
      exact .cons ru (vals_perm r ix)
    · rw [List.getElem?_eq_none (show vs.length ≤ i by omega), List.getElem?_eq_none (show us.length ≤ i by omega)]
      exact vals_perm r ix
theorem reps_perm {K : Fg} {Z : List Addr} {S : Sto} {H : Hp} {ws : List Cv} {vs : List V} (r : Reps K Z S H ws vs) : ∀ ix, Reps K Z S H (permL ix ws) (permL ix vs)
  | [] => .nil
  | i :: ix => by
    unfold permL
    rw [List.filterMap_cons, List.filterMap_cons]
    have hl := r.length
    by_cases h : i < ws.length
    · obtain ⟨u, hu, ru⟩ := r.get (List.getElem?_eq_getElem h)
      rw [List.getElem?_eq_getElem h, hu]
      exact .cons ru (reps_perm r ix)
    · rw [List.getElem?_eq_none (show ws.length ≤ i by omega), List.getElem?_eq_none (show vs.length ≤ i by omega)]
      exact reps_perm r ix
def KB (K : Fg) (fd : FuncData) (ps ks : List Str) (ix : List Nat) : Prop :=
  ∀ (s : Shared) (us : List Value), K.In s.heap → (permL ix us).length = ps.length → BindsTo s fd ⟨[], ks.zip us⟩ (ps.zip (permL ix us))
theorem FnF.kb {K : Fg} {mg : Str → Option Value} {x : Str} {st : Stmt} {f : Addr} {fd : FuncData} {ps ks : List Str} {ix : List Nat} (F : FnF K mg x st f fd ps)
    (h : ∀ (kV doc pm : Value) (an : Option Addr) (cdv ct : Value) (us : List Value), (permL ix us).length = ps.length → bindArgs (PySem.W.fnOf x x (defArgs st) (defBody st) (defScope st) .none kV doc pm an cdv ct) ⟨[], ks.zip us⟩ = pure (ps.zip (permL ix us))) : KB K fd ps ks ix := fun s us _ hl => by
  obtain ⟨oc, od, kV, doc, pm, an, cdv, ct, osl, rfl, lk, hcd⟩ := F.F.ex
  exact .of_eq (h kV doc pm an cdv ct us hl)
section
variable {X : Cx} {k : Nat} {f : Addr} {fd : FuncData} {ps ks : List Str} {ix : List Nat} {sp : CSp} {x : Str} {p pos : Pos} {kws : List Keyword} {ta : CA}
theorem run_gk {CX : CXT} {pins : List (Addr × Obj)} {σ : L2.St} {H : Hp} {s : Shared} {Q : VK} {E : XK} {us : List Value} {vs : List V} (F : FnG X.prog X.w X.K X.mg X.base CX k f fd ps sp) (hr : RoomG k X.A) (hb : KB X.K fd ps ks ix) (hx : Passes CX X E)
    (I : Inv X pins σ H s) (r : Vals vs us) (h : liftSp X.K sp (permL ix vs) H Q E) : wpAny (model X.prog X.w) X.A (call (.ref f) [] (ks.zip us)) (EP X pins σ Q) X.xe s := by
  have r2 := vals_perm r ix
  have hl : (permL ix us).length = ps.length := by
    obtain ⟨Z, S, ws, ok, re, q⟩ := h
    have := F.len _ _ _ _ q
    rw [← r2.length, ← re.length]
    exact this
  refine wpAny_call (codeAny_mono (F.run X.A X.stack s H ⟨[], ks.zip us⟩ (permL ix us) (permL ix vs) Q E hr I.env0 (hb s us I.kIn hl) r2 h) fun rr s' hq => ?_)
  cases rr with
  | error ev => exact hx pins σ H s ev s' I hq
  | ok fl =>
    cases fl with
    | ret u => exact I.after hq
    | next => exact False.elim hq
    | brk => exact False.elim hq
    | cont => exact False.elim hq
def cCallK (ix : List Nat) (sp : CSp) (E : Ex → Sto → Prop) (ta : CA) : CE := fun ws S Q => ta ws S fun us S1 => sp (permL ix us) S1 Q E
theorem cCallK_mono {E : Ex → Sto → Prop} (hs : MonSp sp) (ha : MonA ta) : MonE (cCallK ix sp E ta) := fun ws S Q Q' f h => ha _ _ _ _ (fun us S1 q => hs _ _ _ _ _ _ f (fun _ _ z => z) q) h
theorem s_callKW (F : FnG X.prog X.w X.K X.mg X.base CX0 k f fd ps sp) (hr : RoomG k X.A) (hm : X.mg x = some (.ref f)) (hk : PySem.W.keepIn X.K (.ref f) = true) (hb : KB X.K fd ps ks ix) (ha : SK X kws ta) (hg : Gl X x := by rfl)
    (hdb : (x == ("__debug__" : Str)) = false := by decide) (hall : (backToKw pos (keywordEach kws X.env)).all (·.1.isSome) = true := by rfl) (hks : (backToKw pos (keywordEach kws X.env)).filterMap (·.1) = ks := by rfl)
    (hpl : ((backTo pos (starEach [] X.env)).any (·.1) || (backToKw pos (keywordEach kws X.env)).any (·.1.isNone)) = false := by rfl) :
    SE X (.Call (.Name x p) [] kws pos) (cCallK ix sp X0 ta) := by
  refine ⟨cCallK_mono F.mono ha.mono, ⟨fun pins s σ H Q I h => ?_⟩⟩
  obtain ⟨Z, S, ws, ok, re, h⟩ := h
  refine wpAny_Call_Name_kw (ld_glob I hg hm ?_ hdb)
  refine PySem.W.callWith_KW0 (h₀ := X.base) I.ok.mod.kin hk hall ?_ hpl
  refine thn (ha.ok.run pos pins s σ H (fun vs H1 => liftSp X.K sp (permL ix vs) H1 Q E0) I (liftA_of ha.mono ok re h fun us S1 vs H1 f1 ok1 r1 q1 => ?_)) fun us s1 ⟨vs, H1, I1, r, q⟩ => ⟨I1.kIn, ?_⟩
  · exact ⟨Z, S1, permL ix us, ok1, reps_perm r1 ix, F.mono _ _ _ _ _ _ (fun w S' g v H' a b c => g v H' (f1.trans a) b c) (fun _ _ z => z.elim) q1⟩
  · rw [hks]
    exact run_gk F hr hb pass0 I1 r q
def argK (ix : List Nat) (m : List Cv → Option Cv) (us : List Cv) : Option Cv := m (permL ix us)
theorem ev_callK {n : Nat} {m : List Cv → Option Cv} {ua : CA} {u : MA} {E} (hu : EvA ua u) : Ev (cCallK ix (spM n m) E ua) (mCB (argK ix (arg n m)) u) := ⟨cCallK_mono spM_mono hu.mono, fun V e q => by
  obtain ⟨us, e1, e⟩ := bind_some e
  unfold argK arg at e
  split at e
  · exact hu.ok V e1 ⟨by assumption, _, e, q⟩
  · cases e⟩
theorem q_argK1 {m : List Cv → Option Cv} {a : Cv} : argK [0] m [a] = m [a] := rfl
theorem q_argK2 {m : List Cv → Option Cv} {a b : Cv} : argK [0, 1] m [a, b] = m [a, b] := rfl
theorem q_argK2' {m : List Cv → Option Cv} {a b : Cv} : argK [1, 0] m [a, b] = m [b, a] := rfl
theorem q_argK3a {m : List Cv → Option Cv} {a b c : Cv} : argK [0, 1, 2] m [a, b, c] = m [a, b, c] := rfl
theorem q_argK3b {m : List Cv → Option Cv} {a b c : Cv} : argK [0, 2, 1] m [a, b, c] = m [a, c, b] := rfl
theorem q_argK3c {m : List Cv → Option Cv} {a b c : Cv} : argK [1, 0, 2] m [a, b, c] = m [b, a, c] := rfl
theorem q_argK3d {m : List Cv → Option Cv} {a b c : Cv} : argK [1, 2, 0] m [a, b, c] = m [b, c, a] := rfl
theorem q_argK3e {m : List Cv → Option Cv} {a b c : Cv} : argK [2, 0, 1] m [a, b, c] = m [c, a, b] := rfl
theorem q_argK3f {m : List Cv → Option Cv} {a b c : Cv} : argK [2, 1, 0] m [a, b, c] = m [c, b, a] := rfl
end
end CL

set_option Elab.async false
set_option linter.all false
set_option maxRecDepth 100000
set_option maxHeartbeats 1000000
/-! CL51: texts compared by <, texts times a number; plain tuple displays with draws -/
namespace CL
open PySem PySem.Spec PyProof.Rows L2
def c2Of (f : Cv → Cv → Option Cv) : C2 := fun a b S Q => match f a b with
  | some v => Q v S
  | none => False
theorem c2Of_mono {f : Cv → Cv → Option Cv} : Mon2 (c2Of f) := fun a b S Q Q' g h => by
  unfold c2Of at h ⊢
  split at h
  · exact g _ _ h
  · exact h
theorem e2_of {f : Cv → Cv → Option Cv} : E2 (c2Of f) f := ⟨c2Of_mono, fun {a b S Q v} e q => by
  unfold c2Of
  rw [e]; exact q⟩
def fLtS : Cv → Cv → Option Cv
  | .str x, .str y => some (.bl (decide (x.cps.toList < y.cps.toList)))
  | _, _ => none
def fMulS : Cv → Cv → Option Cv
  | .str x, .int n => if decide (0 ≤ n ∧ n ≤ 100 ∧ x.length ≤ 1000) = true then some (.str (Txt.mul x n)) else none
  | _, _ => none
section
variable {X : Cx}
theorem o_ltS : S2 X (compareOp .Lt) (c2Of fLtS) := s2_of c2Of_mono fun pins s σ H x y v u Q Z S a b I rx ry ok ra rb q => by
  unfold c2Of at q
  split at q
  · rename_i v' ev
    unfold fLtS at ev
    split at ev
    · cases ev
      cases ra; cases rb
      exact op_lt_str pins s σ H _ _ v u Q I rx ry ⟨_, _, rfl, rfl, q _ H (Fr.refl S H) ok (.bl _)⟩
    · cases ev
  · exact q.elim
theorem mulOk_small {x : Str} {n : Int} (h0 : 0 ≤ n) (h1 : n ≤ 100) (h2 : x.length ≤ 1000) : MulOk x n := by
  refine ⟨?_, fun a _ => ?_, fun _ _ => ?_⟩
  · rw [decide_eq_false (by omega), decide_eq_false (by omega)]; rfl
  · have : (1000 : Int) ≤ (2 ^ 63 - 1) / n := by
      rw [Int.le_ediv_iff_mul_le (by omega)]
      omega
    omega
  · unfold Builtin.Str.tooLong
    have : x.length * n.toNat ≤ 1000 * 100 := Nat.mul_le_mul h2 (by omega)
    have e : sizeLine = 16777216 := by decide
    simp only [decide_eq_false_iff_not, gt_iff_lt]
    omega
theorem o_mulS : S2 X (binaryOp .Mult) (c2Of fMulS) := s2_of c2Of_mono fun pins s σ H x y v u Q Z S a b I rx ry ok ra rb q => by
  unfold c2Of at q
  split at q
  · rename_i v' ev
    unfold fMulS at ev
    split at ev
    · rename_i z n
      obtain ⟨hc, ev⟩ := ite_some ev
      cases ev
      cases ra; cases rb
      obtain ⟨t, rfl⟩ := rx
      obtain ⟨t2, rfl⟩ := ry
      have hc := of_decide_eq_true hc
      refine SB.mul (mulOk_small hc.1 hc.2.1 hc.2.2) fun t' k => ?_
      exact ⟨.str (Txt.mul z n), H, I.tok _, ⟨_, rfl⟩, q _ H (Fr.refl S H) ok (.str _)⟩
    · cases ev
  · exact q.elim
end
theorem q_ltS {x y : Str} : fLtS (.str x) (.str y) = some (.bl (decide (x.cps.toList < y.cps.toList))) := rfl
def xTupF (u : XA) : XE := fun gs => bx (u gs) fun r g => lift (fTupF r) g
theorem ex_tupF {W : WX'} {ua : CA} {u : XA} (hu : EvXA W ua u) : EvX W (cTupF ua) (xTupF u) := ⟨mo_tupF hu.mono, fun V e q => by
  rcases bx_some e with ⟨v1, g1, e1, e⟩ | ⟨x, g1, e1, rfl⟩
  · refine hu.ok V e1 fun S1 V1 => ?_
    obtain ⟨v, e3, rfl⟩ := lift_some e
    obtain ⟨h1, e3⟩ := ite_some e3
    subst e3
    exact ⟨sz_of h1, q _ V1⟩
  · exact hu.ok V e1 q⟩
theorem w_tupF {u : XA} {gs : MEnv} : xTupF u gs = bx (u gs) fun r g => lift (fTupF r) g := rfl
end CL

set_option Elab.async false
set_option linter.all false
set_option maxRecDepth 100000
set_option maxHeartbeats 1000000
/-! CL52: repr of values with dicts in them -/
namespace CL
open PySem PySem.Spec PyProof.Rows L2
def pyK : Key → PyData
  | .inl i => .int i
  | .inr x => .str x
mutual
def pyE : Cv → PyData
  | .bl b => .bool b
  | .int i => .int i
  | .str x => .str x
  | .tup xs => .tuple (pyEs xs)
  | .lst xs => .list (pyEs xs)
  | .dK kvs => .dict (pyEk kvs)
  | _ => .none
def pyEs : List Cv → List PyData
  | [] => []
  | x :: r => pyE x :: pyEs r
def pyEk : List (Key × Cv) → List (PyData × PyData)
  | [] => []
  | kv :: r => pyEp kv :: pyEk r
def pyEp : Key × Cv → PyData × PyData
  | (k, v) => (pyK k, pyE v)
end
mutual
def isE : Cv → Bool
  | .non | .bl _ | .int _ | .str _ => true
  | .tup xs => isEs xs
  | .lst xs => isEs xs
  | .dK kvs => isEk kvs
  | _ => false
def isEs : List Cv → Bool
  | [] => true
  | x :: r => isE x && isEs r
def isEk : List (Key × Cv) → Bool
  | [] => true
  | kv :: r => isEp kv && isEk r
def isEp : Key × Cv → Bool
  | (_, v) => isE v
end
theorem pyEk_fst : ∀ kvs : List (Key × Cv), (pyEk kvs).map (·.1) = (kvs.map (·.1)).map pyK
  | [] => rfl
  | (k, v) :: r => by
    show pyK k :: (pyEk r).map (·.1) = pyK k :: (r.map (·.1)).map pyK
    rw [pyEk_fst r]
theorem pyEk_snd : ∀ kvs : List (Key × Cv), (pyEk kvs).map (·.2) = pyEs (kvs.map (·.2))
  | [] => rfl
  | (k, v) :: r => by
    show pyE v :: (pyEk r).map (·.2) = pyE v :: pyEs (r.map (·.2))
    rw [pyEk_snd r]
theorem isEk_snd : ∀ kvs : List (Key × Cv), isEk kvs = isEs (kvs.map (·.2))
  | [] => rfl
  | (k, v) :: r => by
    show (isE v && isEk r) = (isE v && isEs (r.map (·.2)))
    rw [isEk_snd r]
section
variable {X : Cx} {pins : List (Addr × Obj)} {σ : L2.St} {H : Hp} {s : Shared} {Z : List Addr} {S : Sto}
theorem keys_read {P : Program} {w : World} {h : Heap} : ∀ {es : List DictEntry} {vs : List (Key × Value)}, Pairs (mixKind P w) es vs → ReadsAll h (es.map (·.key)) ((vs.map (·.1)).map pyK) [] ∧ es.map (·.val) = vs.map (·.2)
  | _, _, .nil => ⟨.nil, rfl⟩
  | _, _, .cons (e := e) (kv := kv) h1 h2 r => by
    obtain ⟨i1, i2⟩ := keys_read (h := h) r
    refine ⟨?_, ?_⟩
    · show ReadsAll h (e.key :: _) (pyK kv.1 :: _) []
      have hk : Reads h e.key (pyK kv.1) [] := by
        rcases keyIs_shape (show keyIs kv.1 e.key = true from h1) with ⟨i, t, e1, e2⟩ | ⟨x, t, e1, e2⟩
        · rw [e1, e2]; exact .int i t
        · rw [e1, e2]; exact .str x t
      exact ReadsAll.cons hk i1
    · rw [List.map_cons, List.map_cons, h2, i2]
theorem kv_vals : ∀ {kvs : List (Key × V)} {vs : List (Key × Value)}, KV kvs vs → Vals (kvs.map (·.2)) (vs.map (·.2)) ∧ kvs.map (·.1) = vs.map (·.1)
  | _, _, .nil => ⟨.nil, rfl⟩
  | _, _, .cons h r => by
    obtain ⟨i1, i2⟩ := kv_vals r
    exact ⟨.cons h.2 i1, by rw [List.map_cons, List.map_cons, h.1, i2]⟩
mutual
theorem readsE (I : Inv X pins σ H s) (hS : H sysModules = none) : ∀ (w : Cv) {v : V} {u : Value}, isE w = true → Rep X.K Z S H w v → RelV v u → ∃ as, Reads s.heap u (pyE w) as ∧ sysModules ∉ as
  | .non, _, _, _, r, rv => by
    cases r; cases rv
    exact ⟨[], by simp only [pyE]; exact .none, by simp⟩
  | .bl b, _, _, _, r, rv => by
    cases r; cases rv
    exact ⟨[], by simp only [pyE]; exact .bool b, by simp⟩
  | .int i, _, _, _, r, rv => by
    cases r
    obtain ⟨t, rfl⟩ := rv
    exact ⟨[], by simp only [pyE]; exact .int i t, by simp⟩
  | .str x, _, _, _, r, rv => by
    cases r
    obtain ⟨t, rfl⟩ := rv
    exact ⟨[], by simp only [pyE]; exact .str x t, by simp⟩
  | .tup xs, v, u, e, r, rv => by
    obtain ⟨a, vs, rfl, ht, rr⟩ := RepD.tupH r
    cases rv
    obtain ⟨its, rvs, ⟨o, ho, hc, n, hd⟩, _⟩ := I.tuple ht
    obtain ⟨as, hr, hn⟩ := readsEs I hS xs (by simpa only [isE] using e) rr rvs
    exact ⟨as, by simp only [pyE]; exact Reads.tuple ho hc hd hr, hn⟩
  | .lst xs, v, u, e, r, rv => by
    cases r with
    | lst h1 n z rr =>
      rename_i a vs
      cases rv
      obtain ⟨its, rvs, ⟨o, n, ho, hc, _, hd⟩, _⟩ := I.list (show SqL X.K H a vs from .inl (.inl h1))
      obtain ⟨as, hr, hn⟩ := readsEs I hS xs (by simpa only [isE] using e) rr rvs
      refine ⟨a :: as, by simp only [pyE]; exact Reads.list ho hc hd hr, fun hm => ?_⟩
      rcases List.mem_cons.mp hm with e2 | e2
      · rw [e2, h1] at hS; cases hS
      · exact hn e2
  | .dK kws, v, u, e, r, rv => by
    cases r with
    | dK h1 n z ek rr =>
      rename_i a kvs
      cases rv
      obtain ⟨hz, hsy, vs, kv, o, es, ep, ho, ex, hd, hk, hp, nd⟩ := (show ObjOk X.prog X.w H s.heap a (.dK kvs) from I.hok a _ h1)
      obtain ⟨k1, k2⟩ := keys_read (h := s.heap) hp
      obtain ⟨k3, k4⟩ := kv_vals kv
      obtain ⟨as, hr, hn⟩ := readsEk I hS kws (by simpa only [isE] using e) rr k3
      refine ⟨a :: [] ++ as, ?_, fun hm => ?_⟩
      · simp only [pyE]
        refine Reads.dict ho ex.1 hd ?_ ?_
        · rw [pyEk_fst, show kws.map (·.1) = vs.map (·.1) from ek.trans k4]; exact k1
        · rw [k2]; exact hr
      · rcases List.mem_cons.mp hm with e2 | e2
        · rw [e2, h1] at hS; cases hS
        · exact hn (by simpa using e2)
  | .dT _, _, _, e, _, _ => by simp [isE] at e
  | .ref _, _, _, e, _, _ => by simp [isE] at e
  | .opq _, _, _, e, _, _ => by simp [isE] at e
  | .scr _, _, _, e, _, _ => by simp [isE] at e
  | .tupF _, _, _, e, _, _ => by simp [isE] at e
termination_by w => sizeOf w
theorem readsEs (I : Inv X pins σ H s) (hS : H sysModules = none) : ∀ (ws : List Cv) {vs : List V} {us : List Value}, isEs ws = true → Reps X.K Z S H ws vs → Vals vs us → ∃ as, ReadsAll s.heap us (pyEs ws) as ∧ sysModules ∉ as
  | [], _, _, _, r, rv => by
    cases r; cases rv
    exact ⟨[], by simp only [pyEs]; exact .nil, by simp⟩
  | w :: ws, _, _, e, r, rv => by
    cases r with
    | cons r1 r2 =>
      cases rv with
      | cons v1 v2 =>
        have e' : isE w = true ∧ isEs ws = true := by simpa only [isEs, Bool.and_eq_true] using e
        obtain ⟨as, h1, n1⟩ := readsE I hS w e'.1 r1 v1
        obtain ⟨bs, h2, n2⟩ := readsEs I hS ws e'.2 r2 v2
        exact ⟨as ++ bs, by simp only [pyEs]; exact .cons h1 h2, fun hm => (List.mem_append.mp hm).elim n1 n2⟩
termination_by ws => sizeOf ws
theorem readsEk (I : Inv X pins σ H s) (hS : H sysModules = none) : ∀ (ws : List (Key × Cv)) {vs : List V} {us : List Value}, isEk ws = true → Reps X.K Z S H (ws.map Prod.snd) vs → Vals vs us → ∃ as, ReadsAll s.heap us ((pyEk ws).map (·.2)) as ∧ sysModules ∉ as
  | [], _, _, _, r, rv => by
    cases r; cases rv
    exact ⟨[], by simp only [pyEk]; exact .nil, by simp⟩
  | (k, w) :: ws, _, _, e, r, rv => by
    cases r with
    | cons r1 r2 =>
      cases rv with
      | cons v1 v2 =>
        have e' : isE w = true ∧ isEk ws = true := by simpa only [isEk, isEp, Bool.and_eq_true] using e
        obtain ⟨as, h1, n1⟩ := readsE I hS w e'.1 r1 v1
        obtain ⟨bs, h2, n2⟩ := readsEk I hS ws e'.2 r2 v2
        exact ⟨as ++ bs, by simp only [pyEk, pyEp, List.map_cons]; exact .cons h1 h2, fun hm => (List.mem_append.mp hm).elim n1 n2⟩
termination_by ws => sizeOf ws
end
/-! ### repr -/
def rpE (w : Cv) : Str := (pyE w).shown
def okRE (w : Cv) : Prop := isE w = true ∧ (pyE w).showable = true ∧ (pyE w).depth ≤ 64 ∧ (rpE w).length ≤ sizeLine
def cReprE : CC := fun us S Q => match us with
  | [w] => (okRE w ∧ Q (.str (rpE w)) S)
  | _ => False
theorem b_reprE (hu : X.A.units + 66 < cLine) (hg : X.A.guards = some []) (hb : ∃ o, X.base.get? sysModules = some o) : SC X (.builtin "repr") cReprE := sc_of (fun us S Q Q' f h => by
    unfold cReprE at h ⊢
    split at h
    · exact ⟨h.1, f _ _ h.2⟩
    · exact h) fun pins s σ H xs us Q Z S ws I rv ok re q => by
  unfold cReprE at q
  split at q
  · cases re with
    | cons a b =>
      cases b
      rename_i w v
      obtain ⟨⟨hE, hS, hD, hZ⟩, q⟩ := q
      obtain ⟨o, ho⟩ := hb
      have hH : H sysModules = none := (I.bs _ _ ho).2
      obtain ⟨u, rfl, ru⟩ := vals1 rv
      obtain ⟨as, rd, hn⟩ := readsE I hH w hE a ru
      have fin : ∀ (h' : Heap) (u : Tok) (tk : Nat), (∀ b o, s.heap.get? b = some o → h'.get? b = some o) → EP X pins σ Q (.str (rpE w) u) { s with heap := h', toks := tk } := fun h' u tk hk =>
        ⟨.str (rpE w), H, I.kept hk, ⟨u, rfl⟩, q _ H (Fr.refl S H) ok (.str _)⟩
      have fin0 : EP X pins σ Q (.str (rpE w) s.toks) { s with toks := s.toks + 1 } := fin s.heap _ _ fun _ _ h => h
      have isref : (∃ p, u = Value.ref p) → wpAny (model X.prog X.w) X.A (call (.builtin "repr") [u]) (EP X pins σ Q) X.xe s := by
        rintro ⟨p, rfl⟩
        exact repr_of_reads' rd hS (fun _ => hn) hg (by omega) (fun _ _ h => h) fin hZ
      cases w with
      | non => cases a; cases ru; exact PySem.P.repr_of_none fin0
      | bl b => cases a; cases ru; exact PySem.P.repr_of_bool fin0
      | int i =>
        cases a
        obtain ⟨t, rfl⟩ := ru
        exact PySem.P.repr_of_int (by simpa [pyE, PyData.showable] using hS) fin0
      | str z =>
        cases a
        obtain ⟨t, rfl⟩ := ru
        exact PySem.P.repr_of_str fin0 hZ
      | tup xs =>
        obtain ⟨p, vs, rfl, _, _⟩ := RepD.tupH a
        exact isref ⟨p, ru⟩
      | lst xs =>
        cases a
        exact isref ⟨_, ru⟩
      | dK xs =>
        cases a
        exact isref ⟨_, ru⟩
      | _ => simp [isE] at hE
  · exact q.elim
end
end CL

set_option Elab.async false
set_option linter.all false
set_option maxRecDepth 100000
set_option maxHeartbeats 1000000
/-! CL53: laws that ask repr of dicts: the end of such a law; small values -/
namespace CL
open PySem PySem.Spec PyProof.Rows L2
section
variable {P : Program} {w : World} {K : Fg} {mg mb : Str → Option Value} {k n : Nat} {fa a : Addr} {fd : FuncData} {x : Str} {sp : CSp} {s1 : Shared} {vs : List Value} {ns : List Int}
theorem law_goS {ms : Str → Option Value} (hsy : s1.heap.Ns sysModules ms) (kx : K.In s1.heap) (hns : s1.heap.Ns mainGlobals mg) (hmb : s1.heap.Ns builtinsNs mb) (hbb : ∀ x : Str, x ≠ "__name__" → mb x = bootBuiltins x) (lim : s1.heap.NoLimit) (hg : s1.gens = #[])
    (ha : s1.heap.get? a = some { cls := .type "list", data := .seq vs.toArray }) (hi : IntsAre vs ns) (hl : ns.length ≤ sizeLine) (hr : RoomG k callerA)
    (F : ∀ base : Heap, K.In base → base.Ns mainGlobals mg → (∃ m, base.Ns sysModules m) → FnG P w K mg base L2.CX0 k fa fd [x] sp) (hbind : ∀ (s : Shared) (u : Value), BindsTo s fd ⟨[u], []⟩ [(x, u)])
    (hsp : sp [.scr (ns.map Cv.int)] S0 (fun v _ => v = .bl true) X0) :
    codeAny (model P w) callerA (.call (.ref fa) ⟨[.ref a], []⟩) (fun r s' => r = .ok (.ret (.bool true)) ∧ OldK s1.heap s'.heap ∧ s'.os = s1.os ∧ AllBare s'.gens) s1 := by
  have rv := vals_ints hi
  have final : ∀ {H : Hp}, Rep K [] S0 H (.scr (ns.map Cv.int)) (.ref a) → liftSp K sp [.ref a] H (fun v _ => v = .bl true) fun _ _ _ => False := fun {H} r => by
    refine ⟨[], S0, _, ⟨fun _ _ e => (by cases e), fun _ z => (by cases z)⟩, .cons r .nil, (F s1.heap kx hns ⟨ms, hsy⟩).mono _ _ _ _ _ _ (fun u S' e v H' _ _ r' => ?_) (fun _ _ z => z.elim) hsp⟩
    subst e
    cases r'
    rfl
  cases hk : K.lookup a with
  | some o =>
    have e := kx a o hk
    rw [ha] at e
    cases e
    have nH : hidT s1.heap (fun _ => none) = hidT s1.heap fun _ => none := rfl
    have get : ∀ {b : Addr} {o : Obj}, s1.heap.get? b = some o → (hidT s1.heap fun _ => none).get? b = some o := fun e => hidT_get e rfl
    have ns' : ∀ {b : Addr} {m : Str → Option Value}, s1.heap.Ns b m → (hidT s1.heap fun _ => none).Ns b m := fun ⟨o, es, ep, e, r⟩ => ⟨o, es, ep, get e, r⟩
    have kin : K.In (hidT s1.heap fun _ => none) := fun b o e => get (kx b o e)
    refine law_from (H := fun _ => none) rfl (fun _ _ e => by cases e) (fun _ _ e => by cases e) kin (ns' hns) (ns' hmb) hbb (let ⟨mc, h1, h2⟩ := lim; ⟨mc, ns' h1, h2⟩) hg hr (F _ kin (ns' hns) ⟨ms, ns' hsy⟩) hbind (final ?_)
    refine .scrK (vs := ns.map V.int) (fun H' => .inr ⟨_, vs.toArray, _, hk, rfl, rfl, rfl, ?_, by simpa using rv⟩) (reps_ints ns)
    rw [List.size_toArray, hi.length]; exact hl
  | none =>
    -- the script is tracked, locked
    let H : Hp := fun b => if b = a then some (.frz { cls := .type "list", data := .seq vs.toArray } (.lst (ns.map V.int))) else none
    have hHa : H a = some (.frz { cls := .type "list", data := .seq vs.toArray } (.lst (ns.map V.int))) := if_pos rfl
    have hHn : ∀ b, b ≠ a → H b = none := fun b h => if_neg h
    have get : ∀ {b : Addr} {o : Obj}, s1.heap.get? b = some o → b ≠ a → (hidT s1.heap H).get? b = some o := fun e n => hidT_get e (hHn _ n)
    have ns' : ∀ {b : Addr} {m : Str → Option Value}, s1.heap.Ns b m → (hidT s1.heap H).Ns b m := fun {b m} ⟨o, es, ep, e, d, r⟩ => by
      refine ⟨o, es, ep, get e fun z => ?_, d, r⟩
      subst z
      rw [ha] at e; cases e
      have d' : Data.seq vs.toArray _ = Data.dict es ep := d
      cases d'
    have kin : K.In (hidT s1.heap H) := fun b o e => get (kx b o e) fun z => by subst z; rw [hk] at e; cases e
    refine law_from (H := H) rfl (fun b u e => ?_) (fun b u e => ?_) kin (ns' hns) (ns' hmb) hbb (let ⟨mc, h1, h2⟩ := lim; ⟨mc, ns' h1, h2⟩) hg hr (F _ kin (ns' hns) ⟨ms, ns' hsy⟩) hbind (final (.scr hHa rfl (reps_ints ns)))
    · by_cases z : b = a
      · subst z
        rw [hHa] at e; cases e
        exact ⟨ha, by rw [List.length_map]; exact hl, vs, _, rv, ha⟩
      · rw [hHn b z] at e; cases e
    · by_cases z : b = a
      · subst z
        rw [hHa] at e; cases e
        exact ⟨rfl, _, _, rfl⟩
      · rw [hHn b z] at e; cases e
end
theorem law_endS {l : PySem.W.OpenLaw} {n k : Nat} {q : Program} {loose : List Str} {XP : (Str → Option Value) → Heap → Prop} {YP : World → Heap → Prop} {d : DefRec} {K : Params → Fg} {sp : World → CSp} {x : Str}
    (hn : l.most = some n) (hn2 : n ≤ sizeLine) (hdf : d.params.defaults = []) (hr : RoomG k callerA) (hY : ∀ (w : World) (h : Heap), YP w h → (K w.params).In h)
    (F : ∀ (w : World) (mg : Str → Option Value) (fa : Addr) (h : Heap), (K w.params).In h → h.Ns mainGlobals mg → mg d.name = some (.ref fa) →
      ∃ fd : FuncData, (∀ (s : Shared) (u : Value), BindsTo s fd ⟨[u], []⟩ [(x, u)]) ∧
        ∀ base : Heap, (K w.params).In base → base.Ns mainGlobals mg → (∃ m, base.Ns sysModules m) → FnG l.prog w (K w.params) mg base L2.CX0 k fa fd [x] (sp w))
    (hsp : ∀ w, LawSp n (sp w)) (himp : importsNone q = true) : PySem.W.WalkO q loose XP YP l.row.toRowW d [] (fun f vs => PySem.call f vs) := by
  refine Att.attach_callB hn hdf fun w s0 s1 mg mb fa o pm cd doc a vs ns G Y ho hd hcd hmg hobj hints hlen hbits hg => ?_
  have kx := hY w _ Y
  obtain ⟨fd, hb, hF⟩ := F w mg fa _ kx G.T.g hmg
  obtain ⟨ms, hms, _⟩ := (G.T.seer himp).mods
  exact law_goS hms kx G.T.g G.T.b G.T.builtins G.T.nolimit hg hobj hints (Nat.le_trans hlen hn2) hr hF hb (hsp w ns hlen hbits)

/-! ### repr, computed -/
def okRb (w : Cv) : Bool := isE w && (pyE w).showable && (pyE w).leavesShort 40 && decide ((pyE w).depth ≤ 64) && decide ((pyE w).bulk ≤ 390000)
def fReprE : List Cv → Option Cv
  | [w] => if okRb w = true then some (.str (rpE w)) else none
  | _ => none
theorem okRE_of {w : Cv} (h : okRb w = true) : okRE w := by
  unfold okRb at h
  rw [Bool.and_eq_true, Bool.and_eq_true, Bool.and_eq_true, Bool.and_eq_true, decide_eq_true_eq, decide_eq_true_eq] at h
  obtain ⟨⟨⟨⟨h1, h2⟩, h3⟩, h4⟩, h5⟩ := h
  refine ⟨h1, h2, h4, ?_⟩
  have := PyData.shown_le_bulk 40 (by decide) (pyE w) h3
  have e : sizeLine = 16777216 := by decide
  unfold rpE
  omega
theorem mo_reprE : MonC cReprE := fun us S Q Q' f h => by
  unfold cReprE at h ⊢
  split at h
  · exact ⟨h.1, f _ _ h.2⟩
  · exact h
theorem ec_reprE : EC cReprE fReprE := ⟨mo_reprE, fun {us S Q v} e q => by
  unfold fReprE at e
  split at e
  · rename_i w
    obtain ⟨h, e⟩ := ite_some e
    subst e
    exact ⟨okRE_of h, q⟩
  · cases e⟩
theorem q_reprE {w : Cv} (h : okRb w = true) : fReprE [w] = some (.str (rpE w)) := if_pos h
/-- small: at most so deep, at most so big -/
structure SmE (w : Cv) (d b : Nat) : Prop where
  e : isE w = true
  s : (pyE w).showable = true
  l : (pyE w).leavesShort 40 = true
  d : (pyE w).depth ≤ d
  b : (pyE w).bulk ≤ b
structure SmEs (ws : List Cv) (d b : Nat) : Prop where
  e : isEs ws = true
  s : PyData.showableAll (pyEs ws) = true
  l : PyData.leavesShortAll 40 (pyEs ws) = true
  d : PyData.depthAll (pyEs ws) ≤ d
  b : PyData.bulkAll (pyEs ws) ≤ b
theorem SmE.ok {w : Cv} {d b : Nat} (h : SmE w d b) (hd : d ≤ 64) (hb : b ≤ 390000) : okRb w = true := by
  unfold okRb
  rw [h.e, h.s, h.l, decide_eq_true (Nat.le_trans h.d hd), decide_eq_true (Nat.le_trans h.b hb)]; rfl
theorem SmE.mono {w : Cv} {d b d' b' : Nat} (h : SmE w d b) (hd : d ≤ d') (hb : b ≤ b') : SmE w d' b' := ⟨h.e, h.s, h.l, Nat.le_trans h.d hd, Nat.le_trans h.b hb⟩
theorem SmEs.nil {d : Nat} : SmEs [] d 0 := ⟨rfl, rfl, rfl, Nat.zero_le _, Nat.le_refl _⟩
theorem SmEs.cons {w : Cv} {ws : List Cv} {d b c : Nat} (h : SmE w d b) (r : SmEs ws d c) : SmEs (w :: ws) d (b + 1 + c) := by
  refine ⟨?_, ?_, ?_, ?_, ?_⟩
  · simp only [isEs, h.e, r.e]; rfl
  · simp only [pyEs, PyData.showableAll, h.s, r.s]; rfl
  · simp only [pyEs, PyData.leavesShortAll, h.l, r.l]; rfl
  · simp only [pyEs, PyData.depthAll]
    exact Nat.max_le.mpr ⟨h.d, r.d⟩
  · simp only [pyEs, PyData.bulkAll]
    have := h.b
    have := r.b
    omega
theorem SmEs.mono {ws : List Cv} {d b d' b' : Nat} (h : SmEs ws d b) (hd : d ≤ d') (hb : b ≤ b') : SmEs ws d' b' := ⟨h.e, h.s, h.l, Nat.le_trans h.d hd, Nat.le_trans h.b hb⟩
theorem SmEs.of {d b : Nat} : ∀ {ws : List Cv}, (∀ w ∈ ws, SmE w d b) → SmEs ws d ((b + 1) * ws.length)
  | [], _ => SmEs.nil
  | w :: ws, h => by
    have := SmEs.cons (h w List.mem_cons_self) (SmEs.of fun z hz => h z (List.mem_cons_of_mem _ hz))
    exact this.mono (Nat.le_refl _) (by rw [List.length_cons, Nat.mul_succ]; omega)
theorem SmE.tup {ws : List Cv} {d b : Nat} (h : SmEs ws d b) : SmE (.tup ws) (d + 1) b := by
  refine ⟨?_, ?_, ?_, ?_, ?_⟩
  · simp only [isE]; exact h.e
  · simp only [pyE, PyData.showable]; exact h.s
  · simp only [pyE, PyData.leavesShort]; exact h.l
  · simp only [pyE, PyData.depth]
    have := h.d
    omega
  · simp only [pyE, PyData.bulk]; exact h.b
theorem SmE.lst {ws : List Cv} {d b : Nat} (h : SmEs ws d b) : SmE (.lst ws) (d + 1) b := by
  refine ⟨?_, ?_, ?_, ?_, ?_⟩
  · simp only [isE]; exact h.e
  · simp only [pyE, PyData.showable]; exact h.s
  · simp only [pyE, PyData.leavesShort]; exact h.l
  · simp only [pyE, PyData.depth]
    have := h.d
    omega
  · simp only [pyE, PyData.bulk]; exact h.b
/-- {key: w}, the key a short text -/
theorem SmE.dict1 {w : Cv} {x : Str} {d b : Nat} (h : SmE w d b) (hx : (x.cps.toList.all fun c => decide (c < 16 ^ 8)) = true) (hl : x.cps.size ≤ 100) : SmE (.dK [(Sum.inr x, w)]) (d + 1) (b + 102) := by
  refine ⟨?_, ?_, ?_, ?_, ?_⟩
  · simp only [isE, isEk, isEp, h.e]; rfl
  · simp only [pyE, pyEk, pyEp, pyK, PyData.showable, PyData.showableKv, h.s]; rfl
  · simp only [pyE, pyEk, pyEp, pyK, PyData.leavesShort, PyData.leavesShortKv, h.l, hx]; rfl
  · simp only [pyE, pyEk, pyEp, pyK, PyData.depth, PyData.depthKv]
    have := h.d
    omega
  · simp only [pyE, pyEk, pyEp, pyK, PyData.bulk, PyData.bulkKv]
    have := h.b
    omega
end CL

set_option Elab.async false
set_option linter.all false
set_option maxRecDepth 100000
set_option maxHeartbeats 1000000
/-! CL54: TEXT.join(a list of texts), TEXT.upper() -/
namespace CL
open PySem PySem.Spec PyProof.Rows L2
def cOfM (f : Cv → List Cv → Option Cv) : CM := fun o us S Q => match f o us with
  | some v => Q v S
  | none => False
theorem mo_ofM {f : Cv → List Cv → Option Cv} : MonM (cOfM f) := fun o us S Q Q' g h => by
  unfold cOfM at h ⊢
  split at h
  · exact g _ _ h
  · exact h
def fJoin : Cv → List Cv → Option Cv
  | .str x, [.lst xs] => (asStrs xs).bind fun ys => if decide ((ys.map (·.length)).sum + ys.length * x.length ≤ 16777216) = true then some (.str (Txt.join x ys)) else none
  | _, _ => none
def fUpper : Cv → List Cv → Option Cv
  | .str x, [] => if decide (x.length ≤ 100000) = true then some (.str (Txt.upper x)) else none
  | _, _ => none
section
variable {X : Cx}
theorem m_join : SM X "str.join" (cOfM fJoin) := sm_of mo_ofM fun pins s σ H x xs v us Q Z S o ws I rx rv ok ro re q => by
  unfold cOfM at q
  split at q
  · rename_i v' ev
    unfold fJoin at ev
    split at ev
    · rename_i z zs
      obtain ⟨ys, e1, ev⟩ := bind_some ev
      obtain ⟨hc, ev⟩ := ite_some ev
      subst ev
      cases ro
      obtain ⟨t, rfl⟩ := rx
      cases re with
      | cons a b =>
        cases b
        cases a with
        | lst h0 n zz rr =>
          rename_i p vs
          have ez := asStrs_ok rr e1
          subst ez
          obtain ⟨u, rfl, ru⟩ := vals1 rv
          cases ru
          obtain ⟨its, rvs, pl, _⟩ := I.list (show SqL X.K H p (ys.map V.str) from .inl (.inl h0))
          refine join_list pl.isList (Vals.strs rvs) (of_decide_eq_true hc) fun t' k => ?_
          exact ⟨.str (Txt.join z ys), H, I.tok _, ⟨_, rfl⟩, q _ H (Fr.refl S H) ok (.str _)⟩
    · cases ev
  · exact q.elim
theorem m_upper : SM X "str.upper" (cOfM fUpper) := sm_of mo_ofM fun pins s σ H x xs v us Q Z S o ws I rx rv ok ro re q => by
  unfold cOfM at q
  split at q
  · rename_i v' ev
    unfold fUpper at ev
    split at ev
    · obtain ⟨hc, ev⟩ := ite_some ev
      subst ev
      cases ro
      cases re
      have hc := of_decide_eq_true hc
      exact mt_upper pins s σ H _ _ v us Q I rx rv ⟨_, rfl, rfl, by omega, q _ H (Fr.refl S H) ok (.str _)⟩
    · cases ev
  · exact q.elim
end
theorem ev_bmT {T : String} {f : Cv → List Cv → Option Cv} {to : CE} {ta : CA} {a : ME} {u : MA} (hl : ∀ o us v S, f o us = some v → tyC T o S) (ho : Ev to a) (hu : EvA ta u) : Ev (cBM T (cOfM f) to ta) (mMth f a u) := ⟨cBM_mono mo_ofM ho.mono hu.mono, fun V e q => by
  obtain ⟨o, e1, e⟩ := bind_some e
  obtain ⟨us, e2, e⟩ := bind_some e
  refine ho.ok V e1 ⟨hl _ _ _ _ e, hu.ok V e2 (by unfold cOfM; rw [e]; exact q)⟩⟩
theorem ty_join {o : Cv} {us : List Cv} {v : Cv} {S : Sto} (e : fJoin o us = some v) : tyC "str" o S := by
  unfold fJoin at e
  split at e
  · rfl
  · cases e
theorem ty_upper {o : Cv} {us : List Cv} {v : Cv} {S : Sto} (e : fUpper o us = some v) : tyC "str" o S := by
  unfold fUpper at e
  split at e
  · rfl
  · cases e
theorem ev_join {to : CE} {ta : CA} {a : ME} {u : MA} (ho : Ev to a) (hu : EvA ta u) : Ev (cBM "str" (cOfM fJoin) to ta) (mMth fJoin a u) := ev_bmT (fun _ _ _ _ e => ty_join e) ho hu
theorem ev_upper {to : CE} {a : ME} (ho : Ev to a) : Ev (cBM "str" (cOfM fUpper) to cNil) (mMth fUpper a mNil) := ev_bmT (fun _ _ _ _ e => ty_upper e) ho ea_nil
def xMth (f : Cv → List Cv → Option Cv) (a : XE) (u : XA) : XE := fun gs => bx (a gs) fun o g => bx (u g) fun us g1 => lift (f o us) g1
/-- TEXT.join, the text a constant, what is joined drawn -/
theorem ex_join {W : WX'} {z : Str} {ta : CA} {u : XA} (hu : EvXA W ta u) : EvX W (cBM "str" (cOfM fJoin) (cC (.str z)) ta) (xMth fJoin (xp (mC (.str z))) u) := by
  refine ⟨cBM_mono mo_ofM (ev_c : Ev (cC (.str z)) (mC (.str z))).mono hu.mono, fun V e q => ?_⟩
  refine (ev_c : Ev (cC (.str z)) (mC (.str z))).ok V rfl ⟨rfl, ?_⟩
  rcases bx_some e with ⟨o, g, e1, e⟩ | ⟨x, g, e1, _⟩
  rotate_left
  · cases e1
  cases e1
  rcases bx_some e with ⟨us, g1, e2, e⟩ | ⟨x, g1, e2, rfl⟩
  · refine hu.ok V e2 fun S2 V2 => ?_
    obtain ⟨v, e3, rfl⟩ := lift_some e
    unfold cOfM
    rw [e3]
    exact q _ V2
  · exact hu.ok V e2 q
theorem w_mth {f : Cv → List Cv → Option Cv} {a : XE} {u : XA} {gs : MEnv} : xMth f a u gs = bx (a gs) fun o g => bx (u g) fun us g1 => lift (f o us) g1 := rfl
theorem q_join {z : Str} {ys : List Str} (h : (ys.map (·.length)).sum + ys.length * z.length ≤ 16777216) : fJoin (.str z) [.lst (ys.map Cv.str)] = some (.str (Txt.join z ys)) := by
  show (asStrs _).bind _ = _
  rw [asStrs_map, Option.bind_some, if_pos (decide_eq_true h)]
end CL

set_option Elab.async false
set_option linter.all false
set_option maxRecDepth 100000
set_option maxHeartbeats 4000000
namespace Lw
open PySem PySem.Spec PyProof.Rows L2 CL
def topS (i : Nat) : Stmt := PySem.Challenge.pw_pluralforms_k01_forms_of_any_value.main.body.getD i (.Pass ⟨0, 0, 0, 0⟩)
abbrev s_is_form : Stmt := topS 3
abbrev s__law_pot : Stmt := topS 5
abbrev s__law_take : Stmt := topS 6
abbrev s__law_of : Stmt := topS 7
abbrev s__law_odd : Stmt := topS 8
abbrev s__law_is_word : Stmt := topS 9
abbrev s__law_string : Stmt := topS 10
abbrev s_law : Stmt := topS 11
structure Txt (K : Fg) (mg : Str → Option Value) (base : Heap) : Prop where
  sys : ∃ o, base.get? sysModules = some o
  b_abs : mg "abs" = none
  b_all : mg "all" = none
  b_int : mg "int" = none
  b_isinstance : mg "isinstance" = none
  b_len : mg "len" = none
  b_max : mg "max" = none
  b_min : mg "min" = none
  b_range : mg "range" = none
  b_repr : mg "repr" = none
  b_str : mg "str" = none
  c_LETTERS : ∃ t, mg "LETTERS" = some (.str "abcdefghijklmnopqrstuvwxyz" t)
  c_MOST_LETTERS : ∃ t, mg "MOST_LETTERS" = some (.int 8 t)
  yes : True
variable {P : Program} {w : World} {K : Fg} {mg : Str → Option Value} {base : Heap} {k : Nat}
abbrev N_is_form : List Str := ["value", "sign"]
theorem sc_is_form : FnScope N_is_form ["value"] (defScope s_is_form) := ⟨rfl, rfl, rfl, by decide +kernel, rfl, by decide +kernel, by decide +kernel⟩
def t_is_form : CS :=
  cSeq (cIfS (cOr (cNot (cB (cCB cIsi (cCons (cVar 0) (cCons (cC (.opq (.ty "str"))) cNil))))) (cNot (cB (cChain cLe cLe (cC (.int 1)) (cCB cLen (cCons (cVar 0) (cNil))) (cC (.int 8)))))) (cSeq (cRet (cC (.bl false)))
      (cNext)) (cNext))
      (cSeq (cRet (cCB cAll (cCons (cLc (cSeqI (cVar 0)) (cgName 1) (cYes) (cOp cInS (cVar 1) (cC (.str "abcdefghijklmnopqrstuvwxyz"))) [1]) (cNil))))
      (cNext))
theorem bd_is_form (T : Txt K mg base) {f : Addr} {cdv : Value} {A : Around} {outer : List PySem.Env} {s : Shared} {H : Hp} {E : XK} (hr : RoomG k (A.deeper (envOfC "is_form" (defScope s_is_form) s.heap.objs.size f cdv))) :
    SSs (cxOf L2.CX0 P w K mg base N_is_form "is_form" (defScope s_is_form) f cdv A outer s H E).nox (defBody s_is_form) (t_is_form) := by
  have nd : N_is_form.Nodup := sc_is_form.nd
  exact ss_cons (ss_if (SW.st (sw_or (st_not (st_val (s_callB b_isi T.b_isinstance (sa_cons (sv 0) (sa_cons (s_ty T.b_str) sa_nil))))) (sw_or1 (st_not (st_chain o_le o_le (s_int) (s_callB b_len T.b_len (sa_cons (sv 0) (sa_nil))) (s_gint rfl T.c_MOST_LETTERS.choose_spec)))))) (ss_cons (ss_ret (s_bl))
      (ss_nil)) (ss_nil))
      (ss_cons (ss_ret (s_callB (b_all rfl) T.b_all (sa_cons (s_lc rfl nd (si_seq (sv 0)) (own := [("sign", 1)]) (blkOk_by (N := N_is_form) (sc := defScope s_is_form) (by decide +kernel)) (fun _ _ _ _ _ => sg 1 nd) (fun _ _ _ _ _ => sts_nil) (fun _ _ _ _ _ => s_cmp o_inS (sv 1) (s_gstr rfl T.c_LETTERS.choose_spec))) (sa_nil))))
      (ss_nil))
theorem ok_is_form (T : Txt K mg base) {f : Addr} {fd : FuncData} {sp : CSp} (F : FnF K mg "is_form" s_is_form f fd ["value"]) (pl : PL N_is_form ["value"] sp (t_is_form)) : FnG P w K mg base L2.CX0 (k + 1) f fd ["value"] sp :=
  fn_mk F.F sc_is_form pl.mono pl.len (fun cdv A outer s H E hr => bd_is_form T hr) pl.go
def b_is_form : MS :=
  mSeq (mIfS (mOr (mNot (mB (mCB fIsi (mCons (mVar 0) (mCons (mC (.opq (.ty "str"))) mNil))))) (mNot (mB (mChain fLe fLe (mC (.int 1)) (mCB fLen (mCons (mVar 0) (mNil))) (mC (.int 8)))))) (mSeq (mRet (mC (.bl false)))
      (mNext)) (mNext))
      (mSeq (mRet (mCB fAll (mCons (mLc (mSeqI (mVar 0)) (mgName 1) (mYes) (mOp fInS (mVar 1) (mC (.str "abcdefghijklmnopqrstuvwxyz"))) [1]) (mNil))))
      (mNext))
theorem es_is_form : EvS (t_is_form) (b_is_form) :=
  es_seq (es_if (et_or (et_not (et_b (ev_cb ec_isi (ea_cons (ev_var) (ea_cons ev_c ea_nil))))) (et_not (et_b (ev_chain e2_le e2_le (ev_c) (ev_cb ec_len (ea_cons (ev_var) (ea_nil))) (ev_c))))) (es_seq (es_ret (ev_c))
      (es_next)) (es_next))
      (es_seq (es_ret (ev_cb ec_bools (ea_cons (ev_lc (ei_seq (ev_var)) (eg_name) (et_yes) (ev_op e2_inS (ev_var) (ev_c))) (ea_nil))))
      (es_next))
theorem mst_is_form {a0 : Cv} : mstart N_is_form [a0] = [.pl a0, .no] := rfl
def m_is_form (us : List Cv) : Option Cv := outM (b_is_form) (mstart N_is_form us)
abbrev N__law_pot : List Str := ["_law_script", "_law_k", "_law_cell", "_law_own"]
theorem sc__law_pot : FnScope N__law_pot ["_law_script", "_law_k"] (defScope s__law_pot) := ⟨rfl, rfl, rfl, by decide +kernel, rfl, by decide +kernel, by decide +kernel⟩
def t__law_pot : CS :=
  cSeq (cAsg (cIf (cB (cOp cLt (cVar 1) (cCB cLen (cCons (cVar 0) (cNil))))) (cOp cIx (cVar 0) (cVar 1)) (cOp cAdd (cOp cMulA (cC (.int 23)) (cVar 1)) (cC (.int 6)))) (cgName 2))
      (cSeq (cAsg (cOp cMulA (cOp cMod (cCB cAbs (cCons (cVar 2) (cNil))) (cOp cPow (cOp cPow (cC (.int 10)) (cC (.int 60))) (cC (.int 5)))) (cCB cInt (cCons (cOp cGe (cCB cAbs (cCons (cVar 2) (cNil))) (cOp cPow (cC (.int 10)) (cC (.int 18)))) (cNil)))) (cgName 3))
      (cSeq (cRet (cLstO (cCons (cVar 3) (cCons (cOp cMod (cOp cAdd (cOp cAdd (cOp cMulA (cOp cMod (cVar 2) (cC (.int 2305843009213693951))) (cC (.int 68917))) (cOp cMulA (cOp cMulA (cC (.int 7919)) (cVar 1)) (cVar 1))) (cC (.int 47))) (cC (.int 2305843009213693921))) (cCons (cC (.int 0)) (cNil))))))
      (cNext)))
theorem bd__law_pot (T : Txt K mg base) {f : Addr} {cdv : Value} {A : Around} {outer : List PySem.Env} {s : Shared} {H : Hp} {E : XK} (hr : RoomG k (A.deeper (envOfC "_law_pot" (defScope s__law_pot) s.heap.objs.size f cdv))) :
    SSs (cxOf L2.CX0 P w K mg base N__law_pot "_law_pot" (defScope s__law_pot) f cdv A outer s H E).nox (defBody s__law_pot) (t__law_pot) := by
  have nd : N__law_pot.Nodup := sc__law_pot.nd
  exact ss_cons (ss_set 2 nd (s_ifExp (st_cmp o_lt (sv 1) (s_callB b_len T.b_len (sa_cons (sv 0) (sa_nil)))) (s_ix x_ix (sv 0) (sv 1)) (s_op o_add (s_op o_mulA (s_int) (sv 1)) (s_int))))
      (ss_cons (ss_set 3 nd (s_op o_mulA (s_op o_mod (s_callB b_abs T.b_abs (sa_cons (sv 2) (sa_nil))) (s_op o_pow (s_op o_pow (s_int) (s_int)) (s_int))) (s_callT b_int T.b_int (sa_cons (s_cmp o_ge (s_callB b_abs T.b_abs (sa_cons (sv 2) (sa_nil))) (s_op o_pow (s_int) (s_int))) (sa_nil)))))
      (ss_cons (ss_ret (s_lstO (sa_cons (sv 3) (sa_cons (s_op o_mod (s_op o_add (s_op o_add (s_op o_mulA (s_op o_mod (sv 2) (s_int)) (s_int)) (s_op o_mulA (s_op o_mulA (s_int) (sv 1)) (sv 1))) (s_int)) (s_int)) (sa_cons (s_int) (sa_nil))))))
      (ss_nil)))
theorem ok__law_pot (T : Txt K mg base) {f : Addr} {fd : FuncData} {sp : CSp} (F : FnF K mg "_law_pot" s__law_pot f fd ["_law_script", "_law_k"]) (pl : PL N__law_pot ["_law_script", "_law_k"] sp (t__law_pot)) : FnG P w K mg base L2.CX0 (k + 1) f fd ["_law_script", "_law_k"] sp :=
  fn_mk F.F sc__law_pot pl.mono pl.len (fun cdv A outer s H E hr => bd__law_pot T hr) pl.go
def b__law_pot : XS :=
  xSeq (xAsg (xp (mIf (mB (mOp fLt (mVar 1) (mCB fLen (mCons (mVar 0) (mNil))))) (mOp fIx (mVar 0) (mVar 1)) (mOp fAdd (mOp fMulA (mC (.int 23)) (mVar 1)) (mC (.int 6))))) (mgName 2))
      (xSeq (xAsg (xp (mOp fMulA (mOp fMod (mCB fAbs (mCons (mVar 2) (mNil))) (mOp fPow (mOp fPow (mC (.int 10)) (mC (.int 60))) (mC (.int 5)))) (mCB fInt (mCons (mOp fGe (mCB fAbs (mCons (mVar 2) (mNil))) (mOp fPow (mC (.int 10)) (mC (.int 18)))) (mNil))))) (mgName 3))
      (xSeq (xRetO (xp (mLst (mCons (mVar 3) (mCons (mOp fMod (mOp fAdd (mOp fAdd (mOp fMulA (mOp fMod (mVar 2) (mC (.int 2305843009213693951))) (mC (.int 68917))) (mOp fMulA (mOp fMulA (mC (.int 7919)) (mVar 1)) (mVar 1))) (mC (.int 47))) (mC (.int 2305843009213693921))) (mCons (mC (.int 0)) (mNil)))))))
      (xNext)))
theorem es__law_pot : EvXS false WF (t__law_pot) (b__law_pot) :=
  CL.ss_seq (ss_asgX (ex_p (ev_if (et_b (ev_op e2_lt (ev_var) (ev_cb ec_len (ea_cons (ev_var) (ea_nil))))) (ev_op e2_ix (ev_var) (ev_var)) (ev_op e2_add (ev_op e2_mulA (ev_c) (ev_var)) (ev_c)))) xg_name)
      (CL.ss_seq (ss_asgX (ex_p (ev_op e2_mulA (ev_op e2_mod (ev_cb ec_abs (ea_cons (ev_var) (ea_nil))) (ev_op e2_pow (ev_op e2_pow (ev_c) (ev_c)) (ev_c))) (ev_cb ec_int (ea_cons (ev_op e2_ge (ev_cb ec_abs (ea_cons (ev_var) (ea_nil))) (ev_op e2_pow (ev_c) (ev_c))) (ea_nil))))) xg_name)
      (CL.ss_seq (ss_retO (xn_p (en_lst (ea_cons (ev_var) (ea_cons (ev_op e2_mod (ev_op e2_add (ev_op e2_add (ev_op e2_mulA (ev_op e2_mod (ev_var) (ev_c)) (ev_c)) (ev_op e2_mulA (ev_op e2_mulA (ev_c) (ev_var)) (ev_var))) (ev_c)) (ev_c)) (ea_cons (ev_c) (ea_nil)))))))
      (CL.ss_next)))
theorem mst__law_pot {a0 a1 : Cv} : mstart N__law_pot [a0, a1] = [.pl a0, .pl a1, .no, .no] := rfl
def m__law_pot (us : List Cv) : Option Cv := runN N__law_pot (b__law_pot) us
abbrev N__law_take : List Str := ["_law_pot_here", "_law_upto", "_law_digit", "_law_prime", "_law_mixed"]
theorem sc__law_take : FnScope N__law_take ["_law_pot_here", "_law_upto"] (defScope s__law_take) := ⟨rfl, rfl, rfl, by decide +kernel, rfl, by decide +kernel, by decide +kernel⟩
def t__law_take : CS :=
  cSeq (cIfS (cReadT (cB (cOp cGt (cOp cIx (cVar 0) (cC (.int 0))) (cC (.int 0))))) (cSeq (cAsg (cRead (cOp cMod (cOp cIx (cVar 0) (cC (.int 0))) (cVar 1))) (cgName 2))
      (cSeq (cSetL (cVar 0) (cC (.int 0)) (cRead (cOp cFd (cOp cIx (cVar 0) (cC (.int 0))) (cVar 1))))
      (cSeq (cRet (cVar 2))
      (cNext)))) (cNext))
      (cSeq (cSetL (cVar 0) (cC (.int 2)) (cRead (cOp cAdd (cOp cIx (cVar 0) (cC (.int 2))) (cC (.int 1)))))
      (cSeq (cAsg (cRead (cOp cIx (cLst (cCons (cC (.int 2147483647)) (cCons (cC (.int 2147483629)) (cCons (cC (.int 2147483587)) (cCons (cC (.int 2147483579)) (cCons (cC (.int 2147483563)) (cNil))))))) (cOp cMod (cOp cIx (cVar 0) (cC (.int 2))) (cC (.int 5))))) (cgName 3))
      (cSeq (cAsg (cRead (cOp cMod (cOp cPow (cOp cAdd (cOp cAdd (cOp cIx (cVar 0) (cC (.int 1))) (cOp cMulA (cOp cMulA (cC (.int 99989)) (cOp cIx (cVar 0) (cC (.int 2)))) (cOp cIx (cVar 0) (cC (.int 2))))) (cC (.int 31))) (cC (.int 3))) (cVar 3))) (cgName 4))
      (cSeq (cRet (cRead (cOp cMod (cOp cFd (cOp cMod (cOp cMulA (cVar 4) (cOp cAdd (cOp cMod (cVar 4) (cC (.int 10007))) (cOp cMulA (cC (.int 79)) (cOp cIx (cVar 0) (cC (.int 2)))))) (cC (.int 2305843009213693907))) (cC (.int 101))) (cVar 1))))
      (cNext)))))
theorem bd__law_take (T : Txt K mg base) {f : Addr} {cdv : Value} {A : Around} {outer : List PySem.Env} {s : Shared} {H : Hp} {E : XK} (hr : RoomG k (A.deeper (envOfC "_law_take" (defScope s__law_take) s.heap.objs.size f cdv))) :
    SSs (cxOf L2.CX0 P w K mg base N__law_take "_law_take" (defScope s__law_take) f cdv A outer s H E).nox (defBody s__law_take) (t__law_take) := by
  have nd : N__law_take.Nodup := sc__law_take.nd
  exact ss_cons (ss_if (st_bor (st_cmp o_gt (s_ix x_ix (sv 0) (s_int)) (s_int))) (ss_cons (ss_set 2 nd (s_bor (s_op o_mod (s_ix x_ix (sv 0) (s_int)) (sv 1))))
      (ss_cons (ss_setL (sv 0) (s_int) (s_bor (s_op o_fdiv (s_ix x_ix (sv 0) (s_int)) (sv 1))))
      (ss_cons (ss_ret (sv 2))
      (ss_nil)))) (ss_nil))
      (ss_cons (ss_setL (sv 0) (s_int) (s_bor (s_op o_add (s_ix x_ix (sv 0) (s_int)) (s_int))))
      (ss_cons (ss_set 3 nd (s_bor (s_ix x_ix (s_lst (sa_cons (s_int) (sa_cons (s_int) (sa_cons (s_int) (sa_cons (s_int) (sa_cons (s_int) (sa_nil))))))) (s_op o_mod (s_ix x_ix (sv 0) (s_int)) (s_int)))))
      (ss_cons (ss_set 4 nd (s_bor (s_op o_mod (s_op o_pow (s_op o_add (s_op o_add (s_ix x_ix (sv 0) (s_int)) (s_op o_mulA (s_op o_mulA (s_int) (s_ix x_ix (sv 0) (s_int))) (s_ix x_ix (sv 0) (s_int)))) (s_int)) (s_int)) (sv 3))))
      (ss_cons (ss_ret (s_bor (s_op o_mod (s_op o_fdiv (s_op o_mod (s_op o_mulA (sv 4) (s_op o_add (s_op o_mod (sv 4) (s_int)) (s_op o_mulA (s_int) (s_ix x_ix (sv 0) (s_int))))) (s_int)) (s_int)) (sv 1))))
      (ss_nil)))))
theorem ok__law_take (T : Txt K mg base) {f : Addr} {fd : FuncData} {sp : CSp} (F : FnF K mg "_law_take" s__law_take f fd ["_law_pot_here", "_law_upto"]) (pl : PL N__law_take ["_law_pot_here", "_law_upto"] sp (t__law_take)) : FnG P w K mg base L2.CX0 (k + 1) f fd ["_law_pot_here", "_law_upto"] sp :=
  fn_mk F.F sc__law_take pl.mono pl.len (fun cdv A outer s H E hr => bd__law_take T hr) pl.go
def b__law_take : XS :=
  xSeq (xIfS (xpT (mBorT (mB (mOp fGt (mOp fIx (mVar 0) (mC (.int 0))) (mC (.int 0)))))) (xSeq (xAsg (xp (mBor (mOp fMod (mOp fIx (mVar 0) (mC (.int 0))) (mVar 1)))) (mgName 2))
      (xSeq (xSetL 0 (xp (mC (.int 0))) (xp (mBor (mOp fFd (mOp fIx (mVar 0) (mC (.int 0))) (mVar 1)))))
      (xSeq (xRet (xp (mVar 2)))
      (xNext)))) (xNext))
      (xSeq (xSetL 0 (xp (mC (.int 2))) (xp (mBor (mOp fAdd (mOp fIx (mVar 0) (mC (.int 2))) (mC (.int 1))))))
      (xSeq (xAsg (xp (mBor (mOp fIx (mLst (mCons (mC (.int 2147483647)) (mCons (mC (.int 2147483629)) (mCons (mC (.int 2147483587)) (mCons (mC (.int 2147483579)) (mCons (mC (.int 2147483563)) (mNil))))))) (mOp fMod (mOp fIx (mVar 0) (mC (.int 2))) (mC (.int 5)))))) (mgName 3))
      (xSeq (xAsg (xp (mBor (mOp fMod (mOp fPow (mOp fAdd (mOp fAdd (mOp fIx (mVar 0) (mC (.int 1))) (mOp fMulA (mOp fMulA (mC (.int 99989)) (mOp fIx (mVar 0) (mC (.int 2)))) (mOp fIx (mVar 0) (mC (.int 2))))) (mC (.int 31))) (mC (.int 3))) (mVar 3)))) (mgName 4))
      (xSeq (xRet (xp (mBor (mOp fMod (mOp fFd (mOp fMod (mOp fMulA (mVar 4) (mOp fAdd (mOp fMod (mVar 4) (mC (.int 10007))) (mOp fMulA (mC (.int 79)) (mOp fIx (mVar 0) (mC (.int 2)))))) (mC (.int 2305843009213693907))) (mC (.int 101))) (mVar 1)))))
      (xNext)))))
theorem es__law_take : EvXS true WF (t__law_take) (b__law_take) :=
  CL.ss_seq (ss_ifX (xt_p (et_bor (et_b (ev_op e2_gt (ev_op e2_ix (ev_var) (ev_c)) (ev_c))))) (CL.ss_seq (ss_asgX (ex_p (ev_bor (ev_op e2_mod (ev_op e2_ix (ev_var) (ev_c)) (ev_var)))) xg_name)
      (CL.ss_seq (ss_setLX (ex_p (ev_c)) (ex_p (ev_bor (ev_op e2_fd (ev_op e2_ix (ev_var) (ev_c)) (ev_var)))))
      (CL.ss_seq (ss_ret' (ex_p (ev_var)))
      (CL.ss_next)))) (CL.ss_next))
      (CL.ss_seq (ss_setLX (ex_p (ev_c)) (ex_p (ev_bor (ev_op e2_add (ev_op e2_ix (ev_var) (ev_c)) (ev_c)))))
      (CL.ss_seq (ss_asgX (ex_p (ev_bor (ev_op e2_ix (ev_lst (ea_cons (ev_c) (ea_cons (ev_c) (ea_cons (ev_c) (ea_cons (ev_c) (ea_cons (ev_c) (ea_nil))))))) (ev_op e2_mod (ev_op e2_ix (ev_var) (ev_c)) (ev_c))))) xg_name)
      (CL.ss_seq (ss_asgX (ex_p (ev_bor (ev_op e2_mod (ev_op e2_pow (ev_op e2_add (ev_op e2_add (ev_op e2_ix (ev_var) (ev_c)) (ev_op e2_mulA (ev_op e2_mulA (ev_c) (ev_op e2_ix (ev_var) (ev_c))) (ev_op e2_ix (ev_var) (ev_c)))) (ev_c)) (ev_c)) (ev_var)))) xg_name)
      (CL.ss_seq (ss_ret' (ex_p (ev_bor (ev_op e2_mod (ev_op e2_fd (ev_op e2_mod (ev_op e2_mulA (ev_var) (ev_op e2_add (ev_op e2_mod (ev_var) (ev_c)) (ev_op e2_mulA (ev_c) (ev_op e2_ix (ev_var) (ev_c))))) (ev_c)) (ev_c)) (ev_var)))))
      (CL.ss_next)))))
theorem mst__law_take {a0 a1 : Cv} : xstart N__law_take a0 [a1] = [.ow a0, .pl a1, .no, .no, .no] := rfl
def m__law_take (us : List Cv) : Option (Cv × Cv) := runP N__law_take (b__law_take) us
abbrev N__law_of : List Str := ["_law_pot_here", "_law_some"]
theorem sc__law_of : FnScope N__law_of ["_law_pot_here", "_law_some"] (defScope s__law_of) := ⟨rfl, rfl, rfl, by decide +kernel, rfl, by decide +kernel, by decide +kernel⟩
def t__law_of (sp__law_take : CSp) : CS :=
  cSeq (cRet (cOp cIx (cVar 1) (cCall sp__law_take X0 (cCons (cVar 0) (cCons (cCB cLen (cCons (cVar 1) (cNil))) (cNil))))))
      (cNext)
theorem bd__law_of (T : Txt K mg base) {f__law_take : Addr} {fd__law_take : FuncData} {sp__law_take : CSp} (F__law_take : FnF K mg "_law_take" s__law_take f__law_take fd__law_take ["_law_pot_here", "_law_upto"]) (C__law_take : FnG P w K mg base L2.CX0 k f__law_take fd__law_take ["_law_pot_here", "_law_upto"] sp__law_take) {f : Addr} {cdv : Value} {A : Around} {outer : List PySem.Env} {s : Shared} {H : Hp} {E : XK} (hr : RoomG k (A.deeper (envOfC "_law_of" (defScope s__law_of) s.heap.objs.size f cdv))) :
    SSs (cxOf L2.CX0 P w K mg base N__law_of "_law_of" (defScope s__law_of) f cdv A outer s H E).nox (defBody s__law_of) (t__law_of sp__law_take) := by
  have nd : N__law_of.Nodup := sc__law_of.nd
  exact ss_cons (ss_ret (s_ix x_ix (sv 1) (s_call C__law_take hr F__law_take.m F__law_take.k F__law_take.b (sa_cons (sv 0) (sa_cons (s_callB b_len T.b_len (sa_cons (sv 1) (sa_nil))) (sa_nil))))))
      (ss_nil)
theorem ok__law_of (T : Txt K mg base) {f__law_take : Addr} {fd__law_take : FuncData} {sp__law_take : CSp} (F__law_take : FnF K mg "_law_take" s__law_take f__law_take fd__law_take ["_law_pot_here", "_law_upto"]) (C__law_take : FnG P w K mg base L2.CX0 k f__law_take fd__law_take ["_law_pot_here", "_law_upto"] sp__law_take) {f : Addr} {fd : FuncData} {sp : CSp} (F : FnF K mg "_law_of" s__law_of f fd ["_law_pot_here", "_law_some"]) (pl : PL N__law_of ["_law_pot_here", "_law_some"] sp (t__law_of sp__law_take)) : FnG P w K mg base L2.CX0 (k + 1) f fd ["_law_pot_here", "_law_some"] sp :=
  fn_mk F.F sc__law_of pl.mono pl.len (fun cdv A outer s H E hr => bd__law_of T F__law_take C__law_take hr) pl.go
def b__law_of (m__law_take : List Cv → Option (Cv × Cv)) : XS :=
  xSeq (xRet (xOp fIx (xp (mVar 1)) (xCall 2 0 m__law_take (xCons (xp (mCB fLen (mCons (mVar 1) (mNil)))) (xNil)))))
      (xNext)
theorem es__law_of {m__law_take : List Cv → Option (Cv × Cv)} : EvXS true WF (t__law_of (spX 2 m__law_take)) (b__law_of m__law_take) :=
  CL.ss_seq (ss_ret' (ex_op e2_ix (ex_p (ev_var)) (ex_callX (xa_cons (ex_p (ev_cb ec_len (ea_cons (ev_var) (ea_nil)))) (xa_nil)))))
      (CL.ss_next)
theorem mst__law_of {a0 a1 : Cv} : xstart N__law_of a0 [a1] = [.ow a0, .pl a1] := rfl
def m__law_of (us : List Cv) : Option (Cv × Cv) := runP N__law_of (b__law_of m__law_take) us
abbrev N__law_odd : List Str := ["_law_pot_here", "_law_some", "_law_thing", "_law_turn"]
theorem sc__law_odd : FnScope N__law_odd ["_law_pot_here"] (defScope s__law_odd) := ⟨rfl, rfl, rfl, by decide +kernel, rfl, by decide +kernel, by decide +kernel⟩
def t__law_odd (sp__law_of : CSp) : CS :=
  cSeq (cAsg (cLst (cCons (cC .non) (cCons (cC (.bl true)) (cCons (cC (.bl false)) (cCons (cC (.int 0)) (cCons (cC (.int 1)) (cCons (cUn cNeg (cC (.int 1))) (cCons (cOp cPow (cC (.int 10)) (cC (.int 30))) (cCons (cC (.str "")) (cCons (cC (.str "a")) (cCons (cC (.str "one")) (cCons (cC (.str "One")) (cCons (cC (.str "ninelette")) (cCons (cTup (cNil)) (cCons (cLst (cNil)) (cCons (cDNewF) (cCons (cTup (cCons (cC (.int 0)) (cNil))) (cNil)))))))))))))))))) (cgName 1))
      (cSeq (cAsg (cOp cAdd (cVar 1) (cLst (cCons (cTup (cCons (cC (.str "in")) (cCons (cC (.int 0)) (cCons (cC (.int 1)) (cCons (cC (.int 1)) (cNil)))))) (cCons (cTup (cCons (cTup (cNil)) (cCons (cC (.str "other")) (cNil)))) (cCons (cTup (cCons (cTup (cCons (cTup (cNil)) (cCons (cC (.str "a")) (cNil)))) (cNil))) (cCons (cLst (cCons (cC (.int 1)) (cNil))) (cCons (cTup (cCons (cC (.str "in")) (cCons (cC (.int 10)) (cCons (cC (.int 1)) (cCons (cC (.int 10)) (cNil)))))) (cCons (cTup (cCons (cC (.str "one")) (cCons (cC (.str "x")) (cNil)))) (cNil))))))))) (cgName 1))
      (cSeq (cAsg (cCall sp__law_of X0 (cCons (cVar 0) (cCons (cOp cAdd (cVar 1) (cLst (cCons (cTup (cCons (cTup (cCons (cC (.str "one")) (cCons (cC (.str "x")) (cNil)))) (cNil))) (cNil)))) (cNil)))) (cgName 2))
      (cSeq (cFor (cRng1 (cCons (cCall sp__law_of X0 (cCons (cVar 0) (cCons (cLst (cCons (cC (.int 0)) (cCons (cC (.int 0)) (cCons (cC (.int 0)) (cCons (cC (.int 1)) (cCons (cC (.int 2)) (cCons (cC (.int 30)) (cNil)))))))) (cNil)))) (cNil))) (cgName 3) (cSeq (cAsg (cCall sp__law_of X0 (cCons (cVar 0) (cCons (cLst (cCons (cTup (cCons (cVar 2) (cNil))) (cCons (cLst (cCons (cVar 2) (cNil))) (cCons (cDisp [(cC (.str "a"), cVar 2)]) (cCons (cTup (cCons (cC (.str "not")) (cCons (cVar 2) (cNil)))) (cCons (cTup (cCons (cVar 2) (cCons (cC (.str "a")) (cNil)))) (cNil))))))) (cNil)))) (cgName 2))
      (cNext)))
      (cSeq (cRet (cVar 2))
      (cNext)))))
theorem bd__law_odd (T : Txt K mg base) {f__law_of : Addr} {fd__law_of : FuncData} {sp__law_of : CSp} (F__law_of : FnF K mg "_law_of" s__law_of f__law_of fd__law_of ["_law_pot_here", "_law_some"]) (C__law_of : FnG P w K mg base L2.CX0 k f__law_of fd__law_of ["_law_pot_here", "_law_some"] sp__law_of) {f : Addr} {cdv : Value} {A : Around} {outer : List PySem.Env} {s : Shared} {H : Hp} {E : XK} (hr : RoomG k (A.deeper (envOfC "_law_odd" (defScope s__law_odd) s.heap.objs.size f cdv))) :
    SSs (cxOf L2.CX0 P w K mg base N__law_odd "_law_odd" (defScope s__law_odd) f cdv A outer s H E).nox (defBody s__law_odd) (t__law_odd sp__law_of) := by
  have nd : N__law_odd.Nodup := sc__law_odd.nd
  exact ss_cons (ss_set 1 nd (s_lst (sa_cons (s_non) (sa_cons (s_bl) (sa_cons (s_bl) (sa_cons (s_int) (sa_cons (s_int) (sa_cons (s_un u_neg (s_int)) (sa_cons (s_op o_pow (s_int) (s_int)) (sa_cons (s_str) (sa_cons (s_str) (sa_cons (s_str) (sa_cons (s_str) (sa_cons (s_str) (sa_cons (s_tup (sa_nil)) (sa_cons (s_lst (sa_nil)) (sa_cons (s_dNewF) (sa_cons (s_tup (sa_cons (s_int) (sa_nil))) (sa_nil)))))))))))))))))))
      (ss_cons (ss_set 1 nd (s_op o_add (sv 1) (s_lst (sa_cons (s_tup (sa_cons (s_str) (sa_cons (s_int) (sa_cons (s_int) (sa_cons (s_int) (sa_nil)))))) (sa_cons (s_tup (sa_cons (s_tup (sa_nil)) (sa_cons (s_str) (sa_nil)))) (sa_cons (s_tup (sa_cons (s_tup (sa_cons (s_tup (sa_nil)) (sa_cons (s_str) (sa_nil)))) (sa_nil))) (sa_cons (s_lst (sa_cons (s_int) (sa_nil))) (sa_cons (s_tup (sa_cons (s_str) (sa_cons (s_int) (sa_cons (s_int) (sa_cons (s_int) (sa_nil)))))) (sa_cons (s_tup (sa_cons (s_str) (sa_cons (s_str) (sa_nil)))) (sa_nil))))))))))
      (ss_cons (ss_set 2 nd (s_call C__law_of hr F__law_of.m F__law_of.k F__law_of.b (sa_cons (sv 0) (sa_cons (s_op o_add (sv 1) (s_lst (sa_cons (s_tup (sa_cons (s_tup (sa_cons (s_str) (sa_cons (s_str) (sa_nil)))) (sa_nil))) (sa_nil)))) (sa_nil)))))
      (ss_cons (ss_for PassesOwn.never rfl (si_range1 rfl T.b_range (sa_cons (s_call C__law_of hr F__law_of.m F__law_of.k F__law_of.b (sa_cons (sv 0) (sa_cons (s_lst (sa_cons (s_int) (sa_cons (s_int) (sa_cons (s_int) (sa_cons (s_int) (sa_cons (s_int) (sa_cons (s_int) (sa_nil)))))))) (sa_nil)))) (sa_nil))) (sg 3 nd) (ss_cons (ss_set 2 nd (s_call C__law_of hr F__law_of.m F__law_of.k F__law_of.b (sa_cons (sv 0) (sa_cons (s_lst (sa_cons (s_tup (sa_cons (sv 2) (sa_nil))) (sa_cons (s_lst (sa_cons (sv 2) (sa_nil))) (sa_cons (s_disp (sp_cons (s_str) (sv 2) (sp_nil))) (sa_cons (s_tup (sa_cons (s_str) (sa_cons (sv 2) (sa_nil)))) (sa_cons (s_tup (sa_cons (sv 2) (sa_cons (s_str) (sa_nil)))) (sa_nil))))))) (sa_nil)))))
      (ss_nil)))
      (ss_cons (ss_ret (sv 2))
      (ss_nil)))))
theorem ok__law_odd (T : Txt K mg base) {f__law_of : Addr} {fd__law_of : FuncData} {sp__law_of : CSp} (F__law_of : FnF K mg "_law_of" s__law_of f__law_of fd__law_of ["_law_pot_here", "_law_some"]) (C__law_of : FnG P w K mg base L2.CX0 k f__law_of fd__law_of ["_law_pot_here", "_law_some"] sp__law_of) {f : Addr} {fd : FuncData} {sp : CSp} (F : FnF K mg "_law_odd" s__law_odd f fd ["_law_pot_here"]) (pl : PL N__law_odd ["_law_pot_here"] sp (t__law_odd sp__law_of)) : FnG P w K mg base L2.CX0 (k + 1) f fd ["_law_pot_here"] sp :=
  fn_mk F.F sc__law_odd pl.mono pl.len (fun cdv A outer s H E hr => bd__law_odd T F__law_of C__law_of hr) pl.go
def b__law_odd (m__law_of : List Cv → Option (Cv × Cv)) : XS :=
  xSeq (xAsg (xp (mLst (mCons (mC .non) (mCons (mC (.bl true)) (mCons (mC (.bl false)) (mCons (mC (.int 0)) (mCons (mC (.int 1)) (mCons (mUn fNeg (mC (.int 1))) (mCons (mOp fPow (mC (.int 10)) (mC (.int 30))) (mCons (mC (.str "")) (mCons (mC (.str "a")) (mCons (mC (.str "one")) (mCons (mC (.str "One")) (mCons (mC (.str "ninelette")) (mCons (mTup (mNil)) (mCons (mLst (mNil)) (mCons (mC (.dK [])) (mCons (mTup (mCons (mC (.int 0)) (mNil))) (mNil))))))))))))))))))) (mgName 1))
      (xSeq (xAsg (xp (mOp fAdd (mVar 1) (mLst (mCons (mTup (mCons (mC (.str "in")) (mCons (mC (.int 0)) (mCons (mC (.int 1)) (mCons (mC (.int 1)) (mNil)))))) (mCons (mTup (mCons (mTup (mNil)) (mCons (mC (.str "other")) (mNil)))) (mCons (mTup (mCons (mTup (mCons (mTup (mNil)) (mCons (mC (.str "a")) (mNil)))) (mNil))) (mCons (mLst (mCons (mC (.int 1)) (mNil))) (mCons (mTup (mCons (mC (.str "in")) (mCons (mC (.int 10)) (mCons (mC (.int 1)) (mCons (mC (.int 10)) (mNil)))))) (mCons (mTup (mCons (mC (.str "one")) (mCons (mC (.str "x")) (mNil)))) (mNil)))))))))) (mgName 1))
      (xSeq (xAsg (xCall 2 0 m__law_of (xCons (xp (mOp fAdd (mVar 1) (mLst (mCons (mTup (mCons (mTup (mCons (mC (.str "one")) (mCons (mC (.str "x")) (mNil)))) (mNil))) (mNil))))) (xNil))) (mgName 2))
      (xSeq (xFor (xRng1 (xCons (xCall 2 0 m__law_of (xCons (xp (mLst (mCons (mC (.int 0)) (mCons (mC (.int 0)) (mCons (mC (.int 0)) (mCons (mC (.int 1)) (mCons (mC (.int 2)) (mCons (mC (.int 30)) (mNil))))))))) (xNil))) (xNil))) (mgName 3) (xSeq (xAsg (xCall 2 0 m__law_of (xCons (xp (mLst (mCons (mTup (mCons (mVar 2) (mNil))) (mCons (mLst (mCons (mVar 2) (mNil))) (mCons (mDisp [(mC (.str "a"), mVar 2)]) (mCons (mTup (mCons (mC (.str "not")) (mCons (mVar 2) (mNil)))) (mCons (mTup (mCons (mVar 2) (mCons (mC (.str "a")) (mNil)))) (mNil)))))))) (xNil))) (mgName 2))
      (xNext)) [3])
      (xSeq (xRet (xp (mVar 2)))
      (xNext)))))
theorem es__law_odd {m__law_of : List Cv → Option (Cv × Cv)} : EvXS true WF (t__law_odd (spX 2 m__law_of)) (b__law_odd m__law_of) :=
  CL.ss_seq (ss_asgX (ex_p (ev_lst (ea_cons (ev_c) (ea_cons (ev_c) (ea_cons (ev_c) (ea_cons (ev_c) (ea_cons (ev_c) (ea_cons (ev_un e1_neg (ev_c)) (ea_cons (ev_op e2_pow (ev_c) (ev_c)) (ea_cons (ev_c) (ea_cons (ev_c) (ea_cons (ev_c) (ea_cons (ev_c) (ea_cons (ev_c) (ea_cons (ev_tup (ea_nil)) (ea_cons (ev_lst (ea_nil)) (ea_cons (ev_dNewF) (ea_cons (ev_tup (ea_cons (ev_c) (ea_nil))) (ea_nil))))))))))))))))))) xg_name)
      (CL.ss_seq (ss_asgX (ex_p (ev_op e2_add (ev_var) (ev_lst (ea_cons (ev_tup (ea_cons (ev_c) (ea_cons (ev_c) (ea_cons (ev_c) (ea_cons (ev_c) (ea_nil)))))) (ea_cons (ev_tup (ea_cons (ev_tup (ea_nil)) (ea_cons (ev_c) (ea_nil)))) (ea_cons (ev_tup (ea_cons (ev_tup (ea_cons (ev_tup (ea_nil)) (ea_cons (ev_c) (ea_nil)))) (ea_nil))) (ea_cons (ev_lst (ea_cons (ev_c) (ea_nil))) (ea_cons (ev_tup (ea_cons (ev_c) (ea_cons (ev_c) (ea_cons (ev_c) (ea_cons (ev_c) (ea_nil)))))) (ea_cons (ev_tup (ea_cons (ev_c) (ea_cons (ev_c) (ea_nil)))) (ea_nil)))))))))) xg_name)
      (CL.ss_seq (ss_asgX (ex_callX (xa_cons (ex_p (ev_op e2_add (ev_var) (ev_lst (ea_cons (ev_tup (ea_cons (ev_tup (ea_cons (ev_c) (ea_cons (ev_c) (ea_nil)))) (ea_nil))) (ea_nil))))) (xa_nil))) xg_name)
      (CL.ss_seq (ss_forX (vs := [3]) (xi_rng1 (xa_cons (ex_callX (xa_cons (ex_p (ev_lst (ea_cons (ev_c) (ea_cons (ev_c) (ea_cons (ev_c) (ea_cons (ev_c) (ea_cons (ev_c) (ea_cons (ev_c) (ea_nil))))))))) (xa_nil))) (xa_nil))) (xg_name) (CL.ss_seq (ss_asgX (ex_callX (xa_cons (ex_p (ev_lst (ea_cons (ev_tup (ea_cons (ev_var) (ea_nil))) (ea_cons (ev_lst (ea_cons (ev_var) (ea_nil))) (ea_cons (ev_disp (.cons (ev_c) (ev_var) (.nil))) (ea_cons (ev_tup (ea_cons (ev_c) (ea_cons (ev_var) (ea_nil)))) (ea_cons (ev_tup (ea_cons (ev_var) (ea_cons (ev_c) (ea_nil)))) (ea_nil)))))))) (xa_nil))) xg_name)
      (CL.ss_next)))
      (CL.ss_seq (ss_ret' (ex_p (ev_var)))
      (CL.ss_next)))))
theorem mst__law_odd {a0 : Cv} : xstart N__law_odd a0 [] = [.ow a0, .no, .no, .no] := rfl
def m__law_odd (us : List Cv) : Option (Cv × Cv) := runP N__law_odd (b__law_odd m__law_of) us
abbrev N__law_is_word : List Str := ["_law_thing", "_law_sign"]
theorem sc__law_is_word : FnScope N__law_is_word ["_law_thing"] (defScope s__law_is_word) := ⟨rfl, rfl, rfl, by decide +kernel, rfl, by decide +kernel, by decide +kernel⟩
def t__law_is_word : CS :=
  cSeq (cIfS (cOr (cNot (cB (cCB cIsi (cCons (cVar 0) (cCons (cC (.opq (.ty "str"))) cNil))))) (cNot (cB (cChain cLt cLt (cC (.int 0)) (cCB cLen (cCons (cVar 0) (cNil))) (cC (.int 9)))))) (cSeq (cRet (cC (.bl false)))
      (cNext)) (cNext))
      (cSeq (cRet (cCB cAll (cCons (cLc (cSeqI (cVar 0)) (cgName 1) (cYes) (cOp cInS (cVar 1) (cC (.str "abcdefghijklmnopqrstuvwxyz"))) [1]) (cNil))))
      (cNext))
theorem bd__law_is_word (T : Txt K mg base) {f : Addr} {cdv : Value} {A : Around} {outer : List PySem.Env} {s : Shared} {H : Hp} {E : XK} (hr : RoomG k (A.deeper (envOfC "_law_is_word" (defScope s__law_is_word) s.heap.objs.size f cdv))) :
    SSs (cxOf L2.CX0 P w K mg base N__law_is_word "_law_is_word" (defScope s__law_is_word) f cdv A outer s H E).nox (defBody s__law_is_word) (t__law_is_word) := by
  have nd : N__law_is_word.Nodup := sc__law_is_word.nd
  exact ss_cons (ss_if (SW.st (sw_or (st_not (st_val (s_callB b_isi T.b_isinstance (sa_cons (sv 0) (sa_cons (s_ty T.b_str) sa_nil))))) (sw_or1 (st_not (st_chain o_lt o_lt (s_int) (s_callB b_len T.b_len (sa_cons (sv 0) (sa_nil))) (s_int)))))) (ss_cons (ss_ret (s_bl))
      (ss_nil)) (ss_nil))
      (ss_cons (ss_ret (s_callB (b_all rfl) T.b_all (sa_cons (s_lc rfl nd (si_seq (sv 0)) (own := [("_law_sign", 1)]) (blkOk_by (N := N__law_is_word) (sc := defScope s__law_is_word) (by decide +kernel)) (fun _ _ _ _ _ => sg 1 nd) (fun _ _ _ _ _ => sts_nil) (fun _ _ _ _ _ => s_cmp o_inS (sv 1) (s_str))) (sa_nil))))
      (ss_nil))
theorem ok__law_is_word (T : Txt K mg base) {f : Addr} {fd : FuncData} {sp : CSp} (F : FnF K mg "_law_is_word" s__law_is_word f fd ["_law_thing"]) (pl : PL N__law_is_word ["_law_thing"] sp (t__law_is_word)) : FnG P w K mg base L2.CX0 (k + 1) f fd ["_law_thing"] sp :=
  fn_mk F.F sc__law_is_word pl.mono pl.len (fun cdv A outer s H E hr => bd__law_is_word T hr) pl.go
def b__law_is_word : MS :=
  mSeq (mIfS (mOr (mNot (mB (mCB fIsi (mCons (mVar 0) (mCons (mC (.opq (.ty "str"))) mNil))))) (mNot (mB (mChain fLt fLt (mC (.int 0)) (mCB fLen (mCons (mVar 0) (mNil))) (mC (.int 9)))))) (mSeq (mRet (mC (.bl false)))
      (mNext)) (mNext))
      (mSeq (mRet (mCB fAll (mCons (mLc (mSeqI (mVar 0)) (mgName 1) (mYes) (mOp fInS (mVar 1) (mC (.str "abcdefghijklmnopqrstuvwxyz"))) [1]) (mNil))))
      (mNext))
theorem es__law_is_word : EvS (t__law_is_word) (b__law_is_word) :=
  es_seq (es_if (et_or (et_not (et_b (ev_cb ec_isi (ea_cons (ev_var) (ea_cons ev_c ea_nil))))) (et_not (et_b (ev_chain e2_lt e2_lt (ev_c) (ev_cb ec_len (ea_cons (ev_var) (ea_nil))) (ev_c))))) (es_seq (es_ret (ev_c))
      (es_next)) (es_next))
      (es_seq (es_ret (ev_cb ec_bools (ea_cons (ev_lc (ei_seq (ev_var)) (eg_name) (et_yes) (ev_op e2_inS (ev_var) (ev_c))) (ea_nil))))
      (es_next))
theorem mst__law_is_word {a0 : Cv} : mstart N__law_is_word [a0] = [.pl a0, .no] := rfl
def m__law_is_word (us : List Cv) : Option Cv := outM (b__law_is_word) (mstart N__law_is_word us)
abbrev N__law_string : List Str := ["_law_pot_here", "_law_letters", "_law_found", "_law_turn"]
theorem sc__law_string : FnScope N__law_string ["_law_pot_here"] (defScope s__law_string) := ⟨rfl, rfl, rfl, by decide +kernel, rfl, by decide +kernel, by decide +kernel⟩
def t__law_string (sp__law_of sp__law_take : CSp) : CS :=
  cSeq (cAsg (cC (.str "abcdefghijklmnopqrstuvwxyz")) (cgName 1))
      (cSeq (cAsg (cBM "str" (cOfM fJoin) (cC (.str "")) (cCons (cLc (cRng1 (cCons (cCall sp__law_take X0 (cCons (cVar 0) (cCons (cC (.int 11)) (cNil)))) (cNil))) (cgName 3) (cYes) (cCall sp__law_of X0 (cCons (cVar 0) (cCons (cVar 1) (cNil)))) [3]) (cNil))) (cgName 2))
      (cSeq (cRet (cOp cAdd (cVar 2) (cCall sp__law_of X0 (cCons (cVar 0) (cCons (cLst (cCons (cC (.str "")) (cCons (cC (.str "")) (cCons (cC (.str "")) (cCons (cC (.str "A")) (cCons (cC (.str "0")) (cCons (cC (.str " ")) (cCons (cC (.str "\n")) (cCons (cC (.str "-")) (cNil)))))))))) (cNil))))))
      (cNext)))
theorem bd__law_string (T : Txt K mg base) {f__law_of : Addr} {fd__law_of : FuncData} {sp__law_of : CSp} (F__law_of : FnF K mg "_law_of" s__law_of f__law_of fd__law_of ["_law_pot_here", "_law_some"]) (C__law_of : FnG P w K mg base L2.CX0 k f__law_of fd__law_of ["_law_pot_here", "_law_some"] sp__law_of) {f__law_take : Addr} {fd__law_take : FuncData} {sp__law_take : CSp} (F__law_take : FnF K mg "_law_take" s__law_take f__law_take fd__law_take ["_law_pot_here", "_law_upto"]) (C__law_take : FnG P w K mg base L2.CX0 k f__law_take fd__law_take ["_law_pot_here", "_law_upto"] sp__law_take) {f : Addr} {cdv : Value} {A : Around} {outer : List PySem.Env} {s : Shared} {H : Hp} {E : XK} (hr : RoomG k (A.deeper (envOfC "_law_string" (defScope s__law_string) s.heap.objs.size f cdv))) :
    SSs (cxOf L2.CX0 P w K mg base N__law_string "_law_string" (defScope s__law_string) f cdv A outer s H E).nox (defBody s__law_string) (t__law_string sp__law_of sp__law_take) := by
  have nd : N__law_string.Nodup := sc__law_string.nd
  exact ss_cons (ss_set 1 nd (s_str))
      (ss_cons (ss_set 2 nd (s_bm PySem.F.plainAttrs_str PySem.F.slot_str_join m_join (s_str) (sa_cons (s_lc rfl nd (si_range1 rfl T.b_range (sa_cons (s_call C__law_take hr F__law_take.m F__law_take.k F__law_take.b (sa_cons (sv 0) (sa_cons (s_int) (sa_nil)))) (sa_nil))) (own := [("_law_turn", 3)]) (blkOk_by (N := N__law_string) (sc := defScope s__law_string) (by decide +kernel)) (fun _ _ _ _ _ => sg 3 nd) (fun _ _ _ _ _ => sts_nil) (fun _ _ _ _ _ => s_call C__law_of hr F__law_of.m F__law_of.k F__law_of.b (sa_cons (sv 0) (sa_cons (sv 1) (sa_nil))))) (sa_nil)) PySem.F.type_str_join))
      (ss_cons (ss_ret (s_op o_add (sv 2) (s_call C__law_of hr F__law_of.m F__law_of.k F__law_of.b (sa_cons (sv 0) (sa_cons (s_lst (sa_cons (s_str) (sa_cons (s_str) (sa_cons (s_str) (sa_cons (s_str) (sa_cons (s_str) (sa_cons (s_str) (sa_cons (s_str) (sa_cons (s_str) (sa_nil)))))))))) (sa_nil))))))
      (ss_nil)))
theorem ok__law_string (T : Txt K mg base) {f__law_of : Addr} {fd__law_of : FuncData} {sp__law_of : CSp} (F__law_of : FnF K mg "_law_of" s__law_of f__law_of fd__law_of ["_law_pot_here", "_law_some"]) (C__law_of : FnG P w K mg base L2.CX0 k f__law_of fd__law_of ["_law_pot_here", "_law_some"] sp__law_of) {f__law_take : Addr} {fd__law_take : FuncData} {sp__law_take : CSp} (F__law_take : FnF K mg "_law_take" s__law_take f__law_take fd__law_take ["_law_pot_here", "_law_upto"]) (C__law_take : FnG P w K mg base L2.CX0 k f__law_take fd__law_take ["_law_pot_here", "_law_upto"] sp__law_take) {f : Addr} {fd : FuncData} {sp : CSp} (F : FnF K mg "_law_string" s__law_string f fd ["_law_pot_here"]) (pl : PL N__law_string ["_law_pot_here"] sp (t__law_string sp__law_of sp__law_take)) : FnG P w K mg base L2.CX0 (k + 1) f fd ["_law_pot_here"] sp :=
  fn_mk F.F sc__law_string pl.mono pl.len (fun cdv A outer s H E hr => bd__law_string T F__law_of C__law_of F__law_take C__law_take hr) pl.go
def b__law_string (m__law_of : List Cv → Option (Cv × Cv)) (m__law_take : List Cv → Option (Cv × Cv)) : XS :=
  xSeq (xAsg (xp (mC (.str "abcdefghijklmnopqrstuvwxyz"))) (mgName 1))
      (xSeq (xAsg (xMth fJoin (xp (mC (.str ""))) (xCons (xLcc (xRng1 (xCons (xCall 2 0 m__law_take (xCons (xp (mC (.int 11))) (xNil))) (xNil))) (mgName 3) (xpT mYes) (xCall 2 0 m__law_of (xCons (xp (mVar 1)) (xNil))) [3]) (xNil))) (mgName 2))
      (xSeq (xRet (xOp fAdd (xp (mVar 2)) (xCall 2 0 m__law_of (xCons (xp (mLst (mCons (mC (.str "")) (mCons (mC (.str "")) (mCons (mC (.str "")) (mCons (mC (.str "A")) (mCons (mC (.str "0")) (mCons (mC (.str " ")) (mCons (mC (.str "\n")) (mCons (mC (.str "-")) (mNil))))))))))) (xNil)))))
      (xNext)))
theorem es__law_string {m__law_of : List Cv → Option (Cv × Cv)} {m__law_take : List Cv → Option (Cv × Cv)} : EvXS true WF (t__law_string (spX 2 m__law_of) (spX 2 m__law_take)) (b__law_string m__law_of m__law_take) :=
  CL.ss_seq (ss_asgX (ex_p (ev_c)) xg_name)
      (CL.ss_seq (ss_asgX (ex_join (xa_cons (ex_lc (xi_rng1 (xa_cons (ex_callX (xa_cons (ex_p (ev_c)) (xa_nil))) (xa_nil))) (gv_name) (xt_p et_yes) (ex_callX (xa_cons (ex_p (ev_var)) (xa_nil)))) (xa_nil))) xg_name)
      (CL.ss_seq (ss_ret' (ex_op e2_add (ex_p (ev_var)) (ex_callX (xa_cons (ex_p (ev_lst (ea_cons (ev_c) (ea_cons (ev_c) (ea_cons (ev_c) (ea_cons (ev_c) (ea_cons (ev_c) (ea_cons (ev_c) (ea_cons (ev_c) (ea_cons (ev_c) (ea_nil))))))))))) (xa_nil)))))
      (CL.ss_next)))
theorem mst__law_string {a0 : Cv} : xstart N__law_string a0 [] = [.ow a0, .no, .no, .no] := rfl
def m__law_string (us : List Cv) : Option (Cv × Cv) := runP N__law_string (b__law_string m__law_of m__law_take) us
abbrev N_law : List Str := ["_law_script", "_law_k", "_law_pot_here", "_law_some", "_law_thing", "_law_kept", "_law_turn"]
theorem sc_law : FnScope N_law ["_law_script"] (defScope s_law) := ⟨rfl, rfl, rfl, by decide +kernel, rfl, by decide +kernel, by decide +kernel⟩
def t_law (sp_is_form sp__law_is_word sp__law_string sp__law_odd sp__law_pot : CSp) : CS :=
  cSeq (cFor (cRng1 (cCons (cCB cMax (cCons (cC (.int 1)) (cCons (cCB cMin (cCons (cC (.int 3)) (cCons (cCB cLen (cCons (cVar 0) (cNil))) (cNil)))) (cNil)))) (cNil))) (cgName 1) (cSeq (cAsg (cCall sp__law_pot X0 (cCons (cVar 0) (cCons (cVar 1) (cNil)))) (cgName 2))
      (cSeq (cAsg (cLst (cCons (cC (.str "")) (cCons (cC (.str "a")) (cCons (cC (.str "z")) (cCons (cC (.str "abcdefgh")) (cCons (cC (.str "abcdefghi")) (cCons (cC (.str "Abc")) (cCons (cC (.str "a b")) (cCons (cC (.str "a1")) (cCons (cC .non) (cCons (cTup (cCons (cC (.str "a")) (cNil))) (cCons (cLst (cCons (cC (.str "a")) (cNil))) (cCons (cC (.bl true)) (cNil)))))))))))))) (cgName 3))
      (cSeq (cAsg (cOp cAdd (cOp cAdd (cVar 3) (cLc (cRng1 (cCons (cC (.int 20)) (cNil))) (cgName 6) (cYes) (cCall sp__law_string X0 (cCons (cVar 2) (cNil))) [6])) (cLc (cRng1 (cCons (cC (.int 12)) (cNil))) (cgName 6) (cYes) (cCall sp__law_odd X0 (cCons (cVar 2) (cNil))) [6])) (cgName 3))
      (cSeq (cFor (cSeqI (cVar 3)) (cgName 4) (cSeq (cAsg (cCB cReprE (cCons (cVar 4) (cNil))) (cgName 5))
      (cSeq (cIfS (cOr (cB (cOp cNe (cCB cReprE (cCons (cCall sp_is_form X0 (cCons (cVar 4) (cNil))) (cNil))) (cCB cReprE (cCons (cCall sp__law_is_word X0 (cCons (cVar 4) (cNil))) (cNil))))) (cB (cOp cNe (cCB cReprE (cCons (cVar 4) (cNil))) (cVar 5)))) (cSeq (cRet (cC (.bl false)))
      (cNext)) (cNext))
      (cNext))))
      (cNext))))))
      (cSeq (cRet (cC (.bl true)))
      (cNext))
theorem bd_law (T : Txt K mg base) {f_is_form : Addr} {fd_is_form : FuncData} {sp_is_form : CSp} (F_is_form : FnF K mg "is_form" s_is_form f_is_form fd_is_form ["value"]) (C_is_form : FnG P w K mg base L2.CX0 k f_is_form fd_is_form ["value"] sp_is_form) {f__law_is_word : Addr} {fd__law_is_word : FuncData} {sp__law_is_word : CSp} (F__law_is_word : FnF K mg "_law_is_word" s__law_is_word f__law_is_word fd__law_is_word ["_law_thing"]) (C__law_is_word : FnG P w K mg base L2.CX0 k f__law_is_word fd__law_is_word ["_law_thing"] sp__law_is_word) {f__law_string : Addr} {fd__law_string : FuncData} {sp__law_string : CSp} (F__law_string : FnF K mg "_law_string" s__law_string f__law_string fd__law_string ["_law_pot_here"]) (C__law_string : FnG P w K mg base L2.CX0 k f__law_string fd__law_string ["_law_pot_here"] sp__law_string) {f__law_odd : Addr} {fd__law_odd : FuncData} {sp__law_odd : CSp} (F__law_odd : FnF K mg "_law_odd" s__law_odd f__law_odd fd__law_odd ["_law_pot_here"]) (C__law_odd : FnG P w K mg base L2.CX0 k f__law_odd fd__law_odd ["_law_pot_here"] sp__law_odd) {f__law_pot : Addr} {fd__law_pot : FuncData} {sp__law_pot : CSp} (F__law_pot : FnF K mg "_law_pot" s__law_pot f__law_pot fd__law_pot ["_law_script", "_law_k"]) (C__law_pot : FnG P w K mg base L2.CX0 k f__law_pot fd__law_pot ["_law_script", "_law_k"] sp__law_pot) {f : Addr} {cdv : Value} {A : Around} {outer : List PySem.Env} {s : Shared} {H : Hp} {E : XK} (hr : RoomG k (A.deeper (envOfC "law" (defScope s_law) s.heap.objs.size f cdv))) :
    SSs (cxOf L2.CX0 P w K mg base N_law "law" (defScope s_law) f cdv A outer s H E).nox (defBody s_law) (t_law sp_is_form sp__law_is_word sp__law_string sp__law_odd sp__law_pot) := by
  have nd : N_law.Nodup := sc_law.nd
  exact ss_cons (ss_for PassesOwn.never rfl (si_range1 rfl T.b_range (sa_cons (s_callB (b_max rfl) T.b_max (sa_cons (s_int) (sa_cons (s_callB (b_min rfl) T.b_min (sa_cons (s_int) (sa_cons (s_callB b_len T.b_len (sa_cons (sv 0) (sa_nil))) (sa_nil)))) (sa_nil)))) (sa_nil))) (sg 1 nd) (ss_cons (ss_set 2 nd (s_call C__law_pot hr F__law_pot.m F__law_pot.k F__law_pot.b (sa_cons (sv 0) (sa_cons (sv 1) (sa_nil)))))
      (ss_cons (ss_set 3 nd (s_lst (sa_cons (s_str) (sa_cons (s_str) (sa_cons (s_str) (sa_cons (s_str) (sa_cons (s_str) (sa_cons (s_str) (sa_cons (s_str) (sa_cons (s_str) (sa_cons (s_non) (sa_cons (s_tup (sa_cons (s_str) (sa_nil))) (sa_cons (s_lst (sa_cons (s_str) (sa_nil))) (sa_cons (s_bl) (sa_nil)))))))))))))))
      (ss_cons (ss_set 3 nd (s_op o_add (s_op o_add (sv 3) (s_lc rfl nd (si_range1 rfl T.b_range (sa_cons (s_int) (sa_nil))) (own := [("_law_turn", 6)]) (blkOk_by (N := N_law) (sc := defScope s_law) (by decide +kernel)) (fun _ _ _ _ _ => sg 6 nd) (fun _ _ _ _ _ => sts_nil) (fun _ _ _ _ _ => s_call C__law_string hr F__law_string.m F__law_string.k F__law_string.b (sa_cons (sv 2) (sa_nil))))) (s_lc rfl nd (si_range1 rfl T.b_range (sa_cons (s_int) (sa_nil))) (own := [("_law_turn", 6)]) (blkOk_by (N := N_law) (sc := defScope s_law) (by decide +kernel)) (fun _ _ _ _ _ => sg 6 nd) (fun _ _ _ _ _ => sts_nil) (fun _ _ _ _ _ => s_call C__law_odd hr F__law_odd.m F__law_odd.k F__law_odd.b (sa_cons (sv 2) (sa_nil))))))
      (ss_cons (ss_for PassesOwn.never rfl (si_seq (sv 3)) (sg 4 nd) (ss_cons (ss_set 5 nd (s_callB (b_reprE hr.u hr.gd T.sys) T.b_repr (sa_cons (sv 4) (sa_nil))))
      (ss_cons (ss_if (SW.st (sw_or (st_cmp (o_ne hr.u4) (s_callB (b_reprE hr.u hr.gd T.sys) T.b_repr (sa_cons (s_call C_is_form hr F_is_form.m F_is_form.k F_is_form.b (sa_cons (sv 4) (sa_nil))) (sa_nil))) (s_callB (b_reprE hr.u hr.gd T.sys) T.b_repr (sa_cons (s_call C__law_is_word hr F__law_is_word.m F__law_is_word.k F__law_is_word.b (sa_cons (sv 4) (sa_nil))) (sa_nil)))) (sw_or1 (st_cmp (o_ne hr.u4) (s_callB (b_reprE hr.u hr.gd T.sys) T.b_repr (sa_cons (sv 4) (sa_nil))) (sv 5))))) (ss_cons (ss_ret (s_bl))
      (ss_nil)) (ss_nil))
      (ss_nil))))
      (ss_nil))))))
      (ss_cons (ss_ret (s_bl))
      (ss_nil))
theorem ok_law (T : Txt K mg base) {f_is_form : Addr} {fd_is_form : FuncData} {sp_is_form : CSp} (F_is_form : FnF K mg "is_form" s_is_form f_is_form fd_is_form ["value"]) (C_is_form : FnG P w K mg base L2.CX0 k f_is_form fd_is_form ["value"] sp_is_form) {f__law_is_word : Addr} {fd__law_is_word : FuncData} {sp__law_is_word : CSp} (F__law_is_word : FnF K mg "_law_is_word" s__law_is_word f__law_is_word fd__law_is_word ["_law_thing"]) (C__law_is_word : FnG P w K mg base L2.CX0 k f__law_is_word fd__law_is_word ["_law_thing"] sp__law_is_word) {f__law_string : Addr} {fd__law_string : FuncData} {sp__law_string : CSp} (F__law_string : FnF K mg "_law_string" s__law_string f__law_string fd__law_string ["_law_pot_here"]) (C__law_string : FnG P w K mg base L2.CX0 k f__law_string fd__law_string ["_law_pot_here"] sp__law_string) {f__law_odd : Addr} {fd__law_odd : FuncData} {sp__law_odd : CSp} (F__law_odd : FnF K mg "_law_odd" s__law_odd f__law_odd fd__law_odd ["_law_pot_here"]) (C__law_odd : FnG P w K mg base L2.CX0 k f__law_odd fd__law_odd ["_law_pot_here"] sp__law_odd) {f__law_pot : Addr} {fd__law_pot : FuncData} {sp__law_pot : CSp} (F__law_pot : FnF K mg "_law_pot" s__law_pot f__law_pot fd__law_pot ["_law_script", "_law_k"]) (C__law_pot : FnG P w K mg base L2.CX0 k f__law_pot fd__law_pot ["_law_script", "_law_k"] sp__law_pot) {f : Addr} {fd : FuncData} {sp : CSp} (F : FnF K mg "law" s_law f fd ["_law_script"]) (pl : PL N_law ["_law_script"] sp (t_law sp_is_form sp__law_is_word sp__law_string sp__law_odd sp__law_pot)) : FnG P w K mg base L2.CX0 (k + 1) f fd ["_law_script"] sp :=
  fn_mk F.F sc_law pl.mono pl.len (fun cdv A outer s H E hr => bd_law T F_is_form C_is_form F__law_is_word C__law_is_word F__law_string C__law_string F__law_odd C__law_odd F__law_pot C__law_pot hr) pl.go
def b_law (m_is_form : List Cv → Option Cv) (m__law_is_word : List Cv → Option Cv) (m__law_string : List Cv → Option (Cv × Cv)) (m__law_odd : List Cv → Option (Cv × Cv)) (m__law_pot : List Cv → Option Cv) : XS :=
  xSeq (xFor (xpA (mRng1 (mCons (mCB fMax (mCons (mC (.int 1)) (mCons (mCB fMin (mCons (mC (.int 3)) (mCons (mCB fLen (mCons (mVar 0) (mNil))) (mNil)))) (mNil)))) (mNil)))) (mgName 1) (xSeq (xAsgN (xCB (arg 2 m__law_pot) (xCons (xp (mVar 0)) (xCons (xp (mVar 1)) (xNil)))) 2)
      (xSeq (xAsg (xp (mLst (mCons (mC (.str "")) (mCons (mC (.str "a")) (mCons (mC (.str "z")) (mCons (mC (.str "abcdefgh")) (mCons (mC (.str "abcdefghi")) (mCons (mC (.str "Abc")) (mCons (mC (.str "a b")) (mCons (mC (.str "a1")) (mCons (mC .non) (mCons (mTup (mCons (mC (.str "a")) (mNil))) (mCons (mLst (mCons (mC (.str "a")) (mNil))) (mCons (mC (.bl true)) (mNil))))))))))))))) (mgName 3))
      (xSeq (xAsg (xOp fAdd (xOp fAdd (xp (mVar 3)) (xLcc (xpA (mRng1 (mCons (mC (.int 20)) (mNil)))) (mgName 6) (xpT mYes) (xCall 1 2 m__law_string (xNil)) [6])) (xLcc (xpA (mRng1 (mCons (mC (.int 12)) (mNil)))) (mgName 6) (xpT mYes) (xCall 1 2 m__law_odd (xNil)) [6])) (mgName 3))
      (xSeq (xFor (xpA (mSeqI (mVar 3))) (mgName 4) (xSeq (xAsg (xp (mCB fReprE (mCons (mVar 4) (mNil)))) (mgName 5))
      (xSeq (xIfS (xpT (mOr (mB (mOp fNe (mCB fReprE (mCons (mCB (arg 1 m_is_form) (mCons (mVar 4) (mNil))) (mNil))) (mCB fReprE (mCons (mCB (arg 1 m__law_is_word) (mCons (mVar 4) (mNil))) (mNil))))) (mB (mOp fNe (mCB fReprE (mCons (mVar 4) (mNil))) (mVar 5))))) (xSeq (xRet (xp (mC (.bl false))))
      (xNext)) (xNext))
      (xNext))) [4, 5])
      (xNext))))) [1, 2, 3, 4, 5])
      (xSeq (xRet (xp (mC (.bl true))))
      (xNext))
theorem es_law {m_is_form : List Cv → Option Cv} {m__law_is_word : List Cv → Option Cv} {m__law_string : List Cv → Option (Cv × Cv)} {m__law_odd : List Cv → Option (Cv × Cv)} {m__law_pot : List Cv → Option Cv} : EvXS false WF (t_law (spM 1 m_is_form) (spM 1 m__law_is_word) (spX 1 m__law_string) (spX 1 m__law_odd) (spN 2 m__law_pot)) (b_law m_is_form m__law_is_word m__law_string m__law_odd m__law_pot) :=
  CL.ss_seq (ss_forX (vs := [1, 2, 3, 4, 5]) (xi_p (ei_rng1 (ea_cons (ev_cb ec_max (ea_cons (ev_c) (ea_cons (ev_cb ec_min (ea_cons (ev_c) (ea_cons (ev_cb ec_len (ea_cons (ev_var) (ea_nil))) (ea_nil)))) (ea_nil)))) (ea_nil)))) (xg_name) (CL.ss_seq (ss_asgN (xn_call (xa_cons (ex_p (ev_var)) (xa_cons (ex_p (ev_var)) (xa_nil)))))
      (CL.ss_seq (ss_asgX (ex_p (ev_lst (ea_cons (ev_c) (ea_cons (ev_c) (ea_cons (ev_c) (ea_cons (ev_c) (ea_cons (ev_c) (ea_cons (ev_c) (ea_cons (ev_c) (ea_cons (ev_c) (ea_cons (ev_c) (ea_cons (ev_tup (ea_cons (ev_c) (ea_nil))) (ea_cons (ev_lst (ea_cons (ev_c) (ea_nil))) (ea_cons (ev_c) (ea_nil))))))))))))))) xg_name)
      (CL.ss_seq (ss_asgX (ex_op e2_add (ex_op e2_add (ex_p (ev_var)) (ex_lc (xi_p (ei_rng1 (ea_cons (ev_c) (ea_nil)))) (gv_name) (xt_p et_yes) (ex_callX (xa_nil)))) (ex_lc (xi_p (ei_rng1 (ea_cons (ev_c) (ea_nil)))) (gv_name) (xt_p et_yes) (ex_callX (xa_nil)))) xg_name)
      (CL.ss_seq (ss_forX (vs := [4, 5]) (xi_p (ei_seq (ev_var))) (xg_name) (CL.ss_seq (ss_asgX (ex_p (ev_cb ec_reprE (ea_cons (ev_var) (ea_nil)))) xg_name)
      (CL.ss_seq (ss_ifX (xt_p (et_or (et_b (ev_op e2_eqB (ev_cb ec_reprE (ea_cons (ev_call (ea_cons (ev_var) (ea_nil))) (ea_nil))) (ev_cb ec_reprE (ea_cons (ev_call (ea_cons (ev_var) (ea_nil))) (ea_nil))))) (et_b (ev_op e2_eqB (ev_cb ec_reprE (ea_cons (ev_var) (ea_nil))) (ev_var))))) (CL.ss_seq (ss_ret' (ex_p (ev_c)))
      (CL.ss_next)) (CL.ss_next))
      (CL.ss_next))))
      (CL.ss_next))))))
      (CL.ss_seq (ss_ret' (ex_p (ev_c)))
      (CL.ss_next))
theorem mst_law {a0 : Cv} : mstart N_law [a0] = [.pl a0, .no, .no, .no, .no, .no, .no] := rfl
def m_law (us : List Cv) : Option Cv := runV N_law (b_law m_is_form m__law_is_word m__law_string m__law_odd m__law_pot) us
end Lw

set_option Elab.async false
set_option linter.all false
set_option maxRecDepth 100000
set_option maxHeartbeats 2000000
namespace Lw
open PySem PySem.Spec PyProof.Rows L2 CL
local macro_rules
  | `(tactic| simp! [$xs,*]) => `(tactic| simp only [w_mth, w_tupF, q_ltS, q_argK1, q_argK2, q_argK2', q_argK3a, q_argK3b, q_argK3c, q_argK3d, q_argK3e, q_argK3f, q_mtupF, q_tupF1, q_tupF2, q_tupF3, q_ord, q_msetL, q_wkF, q_wkT, q_wkL, q_wkN, q_wkS, q_wkI, q_wkB, q_tupleF, q_dictL, q_dictF, q_mth, q_fIndexL, q_zipI, q_fZipL, q_fZipT, q_isBB, q_revT, q_fRevT, q_inS, q_oIx, q_oIn, q_oGet2, q_oGet1, q_dc, q_disp1, q_keyS, q_keyI, q_mrg0, q_mrg, q_put0, q_dkOnly, q_dput, q_setd, q_asgSetd, q_fDIx, q_fDIn, q_dget2, q_dget1, q_fget2, q_fget1, w_m, w_rzN, q_mulAI, q_mulAL, q_rng3, q_isiTT, q_isiLT, q_isiST, q_isiIT, q_isiBT, q_isiNT, q_isiTS, q_isiLS, q_isiSS, q_isiIS, q_isiBS, q_isiNS, q_isiTI, q_isiLI, q_isiSI, q_isiII, q_isiBI, q_isiNI, q_isiTB, q_isiLB, q_isiSB, q_isiIB, q_isiBB, q_isiNB, w_bx, w_bxe, w_sx, w_sxe, w_lift, w_iteT, w_iteF, w_iteN, w_p, w_pT, w_pA, w_op, w_un, w_b, w_not, w_and, w_or, w_notV, w_andV, w_orV, w_if, w_nil, w_cons, w_tup, w_lst, w_cb, w_seqI, w_rng1, w_rng2, w_lc, w_noEx, w_lcL0, w_call, w_argX1, w_argX2, w_argX3, w_argX4, w_pop, w_popAt, w_nxt, w_setc0, w_setc1, w_setc2, w_seq, w_thN, w_thR, w_thO, w_thB, w_thC, w_thE, w_asg, w_asgN, w_drop, w_ret, w_retN, w_retO, w_ifS, w_brk, w_cnt, w_for, w_forL0, w_lkN, w_lkC, w_lkB, w_lkR, w_lkO, w_lkE, w_aug, w_h2, w_h3, w_j2, w_j3, w_par, w_par3, w_parO, w_parO3, w_frz, w_append, w_extend, w_setL, w_runP, w_runV, w_runN, w_outP, w_outPN, w_outV, w_outVN, w_outO, w_rest0, w_rest, q_revL, q_fRev, ite_t, ite_f, ite_n, q_var0, q_varS, q_c, q_op, q_un, q_b, q_fB, q_and, q_or, q_not, q_andV, q_orV, q_notV, q_if, q_chain, q_nil, q_cons, q_tup, q_lst, q_cb, q_ckw, q_noPart, q_part, q_fPart, q_sl, q_gname, q_gnil, q_gcons, q_gtup2, q_gtup3, q_gtup4, q_seqI, q_fSeqT, q_fSeqL, q_fSeqS, q_rng1, q_rng2, q_enumI, q_fEnumT, q_fEnumL, q_arg0, q_arg1, q_arg2, q_arg3, q_arg4, q_arg5, q_next, q_seq, q_thenN, q_thenR, q_thenB, q_thenC, q_asg, q_drop, q_ret, q_retN, q_ifS, q_break, q_cont, q_for, q_forL0, q_forL, q_loopN, q_loopC, q_loopB, q_loopR, q_while, q_loopWN, q_loopWC, q_loopWB, q_loopWR, q_slP, q_slO, q_aug, q_f2, q_f3, q_par, q_par3, q_g2, q_g3, q_parO, q_parO3, q_oNil, q_oP, q_oN, q_asgN, q_frz, q_bor, q_borT, q_thO, q_thP, q_thN, q_ttI, q_ttB, q_ttS, q_append, q_lstOnly, q_extend, q_lc, q_lc2, q_wipe0, q_wipe, q_fI, q_addI, q_eqI, q_eqS, q_isNN, q_isNI, q_isNT, q_isNS, q_isNB, q_ixT, q_ixL, q_at0, q_at1, q_at2, q_at3, q_neg, q_cutT, q_cutL, q_lenT, q_lenL, q_abs, q_lenR, q_ixR, q_intB, q_intI, q_tupL, q_tupT, q_listL, q_listT, q_max2, q_min2, q_maxC, q_minC, q_maxD, q_minD, q_sum, q_allM, q_anyM, q_tup0, q_tup1, q_tup2, q_tup3, q_tup4, q_lst0, q_lst1, q_lst2, q_lst3, q_lst4, q_lst5, q_lst6, q_lst7, q_lst8, q_lst9, q_lst10, q_lst11, q_lst12, q_tup5, q_tup6, q_tup7, q_tup8, q_out, q_outR, q_outN, Option.bind_some, Option.map_some, Option.bind_none, Option.map_none, List.set_cons_zero, List.set_cons_succ, List.getElem?_cons_zero, List.getElem?_cons_succ, List.map_cons, List.map_nil, List.cons_append, List.nil_append, reduceCtorEq, reduceIte, decide_true, decide_false, Bool.false_eq_true, $xs,*])
theorem nb60s : NB (10 ^ Int.toNat 60) 200 := by
  show ((10 : Int) ^ 60).natAbs < 2 ^ 200
  decide
theorem m_pot_eq {ns : List Int} {k : Int} (h0 : 0 ≤ k) (h1 : k < 1000000) : ∃ st, m__law_pot [.scr (ns.map Cv.int), .int k] = some st ∧ PotV st 0 := by
  rw [m__law_pot, b__law_pot]
  simp only [w_runN, mst__law_pot, w_seq, w_asg, w_p]
  generalize hm : mIf _ _ _ _ = o
  obtain ⟨c, rfl⟩ : ∃ c : Int, o = some (.int c) := by
    rw [← hm]
    by_cases h : k < ns.length
    · obtain ⟨w, hw, ew⟩ := atI_mem (xs := ns.map Cv.int) (i := k) h0 (by simpa using h)
      obtain ⟨c, _, rfl⟩ := List.mem_map.mp hw
      simp! [List.length_map, h, ew]
      exact ⟨_, rfl⟩
    · simp! [List.length_map, h]
      rw [q_mulN (k := 23) (by (repeat' with_reducible first | (refine NB.v1 (by omega)) | exact nb60 | exact nb10 | exact nb300 | refine NB.mod (by omega) ?_ | refine NB.mul1 ?_ ?_ | refine NB.add1 ?_ ?_ | refine NB.sub1 ?_ ?_ | refine NB.div (by omega) ?_ | refine NB.abs ?_ | refine NB.pow1 ?_ | assumption)) (by (repeat' with_reducible first | (refine NB.v1 (by omega)) | exact nb60 | exact nb10 | exact nb300 | refine NB.mod (by omega) ?_ | refine NB.mul1 ?_ ?_ | refine NB.add1 ?_ ?_ | refine NB.sub1 ?_ ?_ | refine NB.div (by omega) ?_ | refine NB.abs ?_ | refine NB.pow1 ?_ | assumption))]
      simp! [q_ev0]
      exact ⟨_, rfl⟩
  clear hm
  simp! [q_ev0]
  rw [q_powN (k := 10) (l := 60) (by (repeat' with_reducible first | (refine NB.v1 (by omega)) | exact nb60 | exact nb10 | exact nb300 | refine NB.mod (by omega) ?_ | refine NB.mul1 ?_ ?_ | refine NB.add1 ?_ ?_ | refine NB.sub1 ?_ ?_ | refine NB.div (by omega) ?_ | refine NB.abs ?_ | refine NB.pow1 ?_ | assumption)) (by decide)]
  simp! [q_ev0]
  rw [q_powN (l := 5) (nb60s.mono (by decide)) (by decide)]
  simp! [q_ev0]
  rw [q_mod p300, q_powN (k := 10) (l := 18) (by (repeat' with_reducible first | (refine NB.v1 (by omega)) | exact nb60 | exact nb10 | exact nb300 | refine NB.mod (by omega) ?_ | refine NB.mul1 ?_ ?_ | refine NB.add1 ?_ ?_ | refine NB.sub1 ?_ ?_ | refine NB.div (by omega) ?_ | refine NB.abs ?_ | refine NB.pow1 ?_ | assumption)) (by decide)]
  simp! [q_ev0]
  rw [q_mulN (NB.mod p300 (NB.mono (NB.pow nb60s (by decide) (Int.toNat 5)) (by decide))) (by split <;> exact NB.v1 (by decide))]
  simp! [q_ev0]
  rw [q_mod (l := 2305843009213693951) (by decide)]
  simp! [q_ev0]
  rw [q_mulN (k := c % 2305843009213693951) (by (repeat' with_reducible first | (refine NB.v1 (by omega)) | exact nb60 | exact nb10 | exact nb300 | refine NB.mod (by omega) ?_ | refine NB.mul1 ?_ ?_ | refine NB.add1 ?_ ?_ | refine NB.sub1 ?_ ?_ | refine NB.div (by omega) ?_ | refine NB.abs ?_ | refine NB.pow1 ?_ | assumption)) (by (repeat' with_reducible first | (refine NB.v1 (by omega)) | exact nb60 | exact nb10 | exact nb300 | refine NB.mod (by omega) ?_ | refine NB.mul1 ?_ ?_ | refine NB.add1 ?_ ?_ | refine NB.sub1 ?_ ?_ | refine NB.div (by omega) ?_ | refine NB.abs ?_ | refine NB.pow1 ?_ | assumption)), q_mulN (k := 7919) (by (repeat' with_reducible first | (refine NB.v1 (by omega)) | exact nb60 | exact nb10 | exact nb300 | refine NB.mod (by omega) ?_ | refine NB.mul1 ?_ ?_ | refine NB.add1 ?_ ?_ | refine NB.sub1 ?_ ?_ | refine NB.div (by omega) ?_ | refine NB.abs ?_ | refine NB.pow1 ?_ | assumption)) (by (repeat' with_reducible first | (refine NB.v1 (by omega)) | exact nb60 | exact nb10 | exact nb300 | refine NB.mod (by omega) ?_ | refine NB.mul1 ?_ ?_ | refine NB.add1 ?_ ?_ | refine NB.sub1 ?_ ?_ | refine NB.div (by omega) ?_ | refine NB.abs ?_ | refine NB.pow1 ?_ | assumption))]
  simp! [q_ev0]
  rw [q_mulN (by (repeat' with_reducible first | (refine NB.v1 (by omega)) | exact nb60 | exact nb10 | exact nb300 | refine NB.mod (by omega) ?_ | refine NB.mul1 ?_ ?_ | refine NB.add1 ?_ ?_ | refine NB.sub1 ?_ ?_ | refine NB.div (by omega) ?_ | refine NB.abs ?_ | refine NB.pow1 ?_ | assumption)) (by (repeat' with_reducible first | (refine NB.v1 (by omega)) | exact nb60 | exact nb10 | exact nb300 | refine NB.mod (by omega) ?_ | refine NB.mul1 ?_ ?_ | refine NB.add1 ?_ ?_ | refine NB.sub1 ?_ ?_ | refine NB.div (by omega) ?_ | refine NB.abs ?_ | refine NB.pow1 ?_ | assumption))]
  simp! [q_ev0]
  rw [q_mod (l := 2305843009213693921) (by decide)]
  simp! [q_ev0]
  obtain ⟨p0, p1⟩ := pot_own (c := (c.natAbs : Int)) (m := (10 ^ Int.toNat 60) ^ Int.toNat 5) (b := decide ((10 : Int) ^ Int.toNat 18 ≤ c.natAbs)) p300 p300le
  exact ⟨_, rfl, _, _, _, rfl, p0, p1, Int.emod_nonneg _ (by decide), Int.lt_trans (Int.emod_lt_of_pos _ (by decide)) (by decide), by decide, by decide⟩
theorem m_take_eq {st : Cv} {b u : Int} (h : PotV st b) (hb : b < 1000000000) (h0 : 0 < u) (h1 : u < 2 ^ 63) : ∃ r st', m__law_take [st, .int u] = some (.int r, st') ∧ 0 ≤ r ∧ r < u ∧ PotV st' (b + 1) := by
  obtain ⟨o, s, n, rfl, a1, a2, a3, a4, a5, a6⟩ := h
  rw [m__law_take, b__law_take]
  by_cases ho : 0 < o
  · simp! [ho, mst__law_take]
    rw [q_mod h0]
    simp! [q_ev0]
    rw [q_fdN h0 (by (repeat' with_reducible first | (refine NB.v1 (by omega)) | exact nb60 | exact nb10 | exact nb300 | refine NB.mod (by omega) ?_ | refine NB.mul1 ?_ ?_ | refine NB.add1 ?_ ?_ | refine NB.sub1 ?_ ?_ | refine NB.div (by omega) ?_ | refine NB.abs ?_ | refine NB.pow1 ?_ | assumption))]
    simp! [q_ev0]
    have d1 := Int.ediv_nonneg a1 (show 0 ≤ u by omega)
    have d2 : o / u ≤ o := Int.ediv_le_self u a1
    exact ⟨_, _, rfl, Int.emod_nonneg o (by omega), Int.emod_lt_of_pos o h0, _, _, _, rfl, d1, by omega, a3, a4, a5, by omega⟩
  · simp! [ho, mst__law_take]
    rw [q_mod (k := n + 1) (l := 5) (by decide)]
    simp! [q_ev0]
    obtain ⟨w, hw, ew⟩ := atI_mem (xs := [Cv.int 2147483647, .int 2147483629, .int 2147483587, .int 2147483579, .int 2147483563]) (i := (n + 1) % 5) (Int.emod_nonneg _ (by decide)) (by have := Int.emod_lt_of_pos (n + 1) (show (0 : Int) < 5 by decide); simp only [List.length_cons, List.length_nil]; omega)
    obtain ⟨p, rfl, p0, p1⟩ : ∃ p : Int, w = .int p ∧ 2147483563 ≤ p ∧ p ≤ 2147483647 := by
      simp only [List.mem_cons, List.not_mem_nil, or_false] at hw
      rcases hw with h | h | h | h | h <;> exact ⟨_, h, by decide, by decide⟩
    simp! [ew]
    rw [q_mulN (k := 99989) (l := n + 1) (by (repeat' with_reducible first | (refine NB.v1 (by omega)) | exact nb60 | exact nb10 | exact nb300 | refine NB.mod (by omega) ?_ | refine NB.mul1 ?_ ?_ | refine NB.add1 ?_ ?_ | refine NB.sub1 ?_ ?_ | refine NB.div (by omega) ?_ | refine NB.abs ?_ | refine NB.pow1 ?_ | assumption)) (by (repeat' with_reducible first | (refine NB.v1 (by omega)) | exact nb60 | exact nb10 | exact nb300 | refine NB.mod (by omega) ?_ | refine NB.mul1 ?_ ?_ | refine NB.add1 ?_ ?_ | refine NB.sub1 ?_ ?_ | refine NB.div (by omega) ?_ | refine NB.abs ?_ | refine NB.pow1 ?_ | assumption))]
    simp! [q_ev0]
    rw [q_mulN (by (repeat' with_reducible first | (refine NB.v1 (by omega)) | exact nb60 | exact nb10 | exact nb300 | refine NB.mod (by omega) ?_ | refine NB.mul1 ?_ ?_ | refine NB.add1 ?_ ?_ | refine NB.sub1 ?_ ?_ | refine NB.div (by omega) ?_ | refine NB.abs ?_ | refine NB.pow1 ?_ | assumption)) (by (repeat' with_reducible first | (refine NB.v1 (by omega)) | exact nb60 | exact nb10 | exact nb300 | refine NB.mod (by omega) ?_ | refine NB.mul1 ?_ ?_ | refine NB.add1 ?_ ?_ | refine NB.sub1 ?_ ?_ | refine NB.div (by omega) ?_ | refine NB.abs ?_ | refine NB.pow1 ?_ | assumption))]
    simp! [q_ev0]
    rw [q_powN (by (repeat' with_reducible first | (refine NB.v1 (by omega)) | exact nb60 | exact nb10 | exact nb300 | refine NB.mod (by omega) ?_ | refine NB.mul1 ?_ ?_ | refine NB.add1 ?_ ?_ | refine NB.sub1 ?_ ?_ | refine NB.div (by omega) ?_ | refine NB.abs ?_ | refine NB.pow1 ?_ | assumption)) (by decide)]
    simp! [q_ev0]
    rw [q_mod (show 0 < p by omega)]
    generalize hx : (s + 99989 * (n + 1) * (n + 1) + 31) ^ Int.toNat 3 % p = x
    have x0 : 0 ≤ x := by rw [← hx]; exact Int.emod_nonneg _ (by omega)
    have x1 : x < p := by rw [← hx]; exact Int.emod_lt_of_pos _ (by omega)
    simp! [q_ev0]
    rw [q_mod (k := x) (l := 10007) (by decide), q_mulN (k := 79) (l := n + 1) (by (repeat' with_reducible first | (refine NB.v1 (by omega)) | exact nb60 | exact nb10 | exact nb300 | refine NB.mod (by omega) ?_ | refine NB.mul1 ?_ ?_ | refine NB.add1 ?_ ?_ | refine NB.sub1 ?_ ?_ | refine NB.div (by omega) ?_ | refine NB.abs ?_ | refine NB.pow1 ?_ | assumption)) (by (repeat' with_reducible first | (refine NB.v1 (by omega)) | exact nb60 | exact nb10 | exact nb300 | refine NB.mod (by omega) ?_ | refine NB.mul1 ?_ ?_ | refine NB.add1 ?_ ?_ | refine NB.sub1 ?_ ?_ | refine NB.div (by omega) ?_ | refine NB.abs ?_ | refine NB.pow1 ?_ | assumption))]
    simp! [q_ev0]
    rw [q_mulN (by (repeat' with_reducible first | (refine NB.v1 (by omega)) | exact nb60 | exact nb10 | exact nb300 | refine NB.mod (by omega) ?_ | refine NB.mul1 ?_ ?_ | refine NB.add1 ?_ ?_ | refine NB.sub1 ?_ ?_ | refine NB.div (by omega) ?_ | refine NB.abs ?_ | refine NB.pow1 ?_ | assumption)) (by (repeat' with_reducible first | (refine NB.v1 (by omega)) | exact nb60 | exact nb10 | exact nb300 | refine NB.mod (by omega) ?_ | refine NB.mul1 ?_ ?_ | refine NB.add1 ?_ ?_ | refine NB.sub1 ?_ ?_ | refine NB.div (by omega) ?_ | refine NB.abs ?_ | refine NB.pow1 ?_ | assumption))]
    simp! [q_ev0]
    rw [q_mod (l := 2305843009213693907) (by decide)]
    simp! [q_ev0]
    rw [q_fdN (l := 101) (by decide) (by (repeat' with_reducible first | (refine NB.v1 (by omega)) | exact nb60 | exact nb10 | exact nb300 | refine NB.mod (by omega) ?_ | refine NB.mul1 ?_ ?_ | refine NB.add1 ?_ ?_ | refine NB.sub1 ?_ ?_ | refine NB.div (by omega) ?_ | refine NB.abs ?_ | refine NB.pow1 ?_ | assumption))]
    simp! [q_ev0]
    rw [q_mod h0]
    exact ⟨_, _, rfl, Int.emod_nonneg _ (by omega), Int.emod_lt_of_pos _ h0, _, _, _, rfl, a1, a2, a3, a4, by omega, by omega⟩
theorem m_of_eq {st : Cv} {b : Int} {xs : List Cv} (h : PotV st b) (hb : b < 1000000000) (hx : xs ≠ []) (hl : xs.length < 1000000) : ∃ v st', m__law_of [st, .lst xs] = some (v, st') ∧ v ∈ xs ∧ PotV st' (b + 1) := by
  rw [m__law_of, b__law_of]
  have h0 : 0 < (xs.length : Int) := by
    cases xs with
    | nil => exact absurd rfl hx
    | cons x r => rw [List.length_cons]; omega
  obtain ⟨r, st', e, r0, r1, hp⟩ := m_take_eq (u := xs.length) h hb h0 (by omega)
  obtain ⟨w, hw, ew⟩ := atI_mem (xs := xs) (i := r) r0 r1
  simp! [mst__law_of, e, ew]
  exact ⟨_, _, rfl, hw, hp⟩
end Lw

set_option Elab.async false
set_option linter.all false
set_option maxRecDepth 100000
set_option maxHeartbeats 2000000
namespace Lw
open PySem PySem.Spec PyProof.Rows L2 CL
local macro_rules
  | `(tactic| simp! [$xs,*]) => `(tactic| simp -implicitDefEqProofs only [w_mth, w_tupF, q_ltS, q_argK1, q_argK2, q_argK2', q_argK3a, q_argK3b, q_argK3c, q_argK3d, q_argK3e, q_argK3f, q_mtupF, q_tupF1, q_tupF2, q_tupF3, q_ord, q_msetL, q_wkF, q_wkT, q_wkL, q_wkN, q_wkS, q_wkI, q_wkB, q_tupleF, q_dictL, q_dictF, q_mth, q_fIndexL, q_zipI, q_fZipL, q_fZipT, q_isBB, q_revT, q_fRevT, q_inS, q_oIx, q_oIn, q_oGet2, q_oGet1, q_dc, q_disp1, q_keyS, q_keyI, q_mrg0, q_mrg, q_put0, q_dkOnly, q_dput, q_setd, q_asgSetd, q_fDIx, q_fDIn, q_dget2, q_dget1, q_fget2, q_fget1, w_m, w_rzN, q_mulAI, q_mulAL, q_rng3, q_isiTT, q_isiLT, q_isiST, q_isiIT, q_isiBT, q_isiNT, q_isiTS, q_isiLS, q_isiSS, q_isiIS, q_isiBS, q_isiNS, q_isiTI, q_isiLI, q_isiSI, q_isiII, q_isiBI, q_isiNI, q_isiTB, q_isiLB, q_isiSB, q_isiIB, q_isiBB, q_isiNB, w_bx, w_bxe, w_sx, w_sxe, w_lift, w_iteT, w_iteF, w_iteN, w_p, w_pT, w_pA, w_op, w_un, w_b, w_not, w_and, w_or, w_notV, w_andV, w_orV, w_if, w_nil, w_cons, w_tup, w_lst, w_cb, w_seqI, w_rng1, w_rng2, w_lc, w_noEx, w_lcL0, w_call, w_argX1, w_argX2, w_argX3, w_argX4, w_pop, w_popAt, w_nxt, w_setc0, w_setc1, w_setc2, w_seq, w_thN, w_thR, w_thO, w_thB, w_thC, w_thE, w_asg, w_asgN, w_drop, w_ret, w_retN, w_retO, w_ifS, w_brk, w_cnt, w_for, w_forL0, w_lkN, w_lkC, w_lkB, w_lkR, w_lkO, w_lkE, w_aug, w_h2, w_h3, w_j2, w_j3, w_par, w_par3, w_parO, w_parO3, w_frz, w_append, w_extend, w_setL, w_runP, w_runV, w_runN, w_outP, w_outPN, w_outV, w_outVN, w_outO, w_rest0, w_rest, q_revL, q_fRev, ite_t, ite_f, ite_n, q_var0, q_varS, q_c, q_op, q_un, q_b, q_fB, q_and, q_or, q_not, q_andV, q_orV, q_notV, q_if, q_chain, q_nil, q_cons, q_tup, q_lst, q_cb, q_ckw, q_noPart, q_part, q_fPart, q_sl, q_gname, q_gnil, q_gcons, q_gtup2, q_gtup3, q_gtup4, q_seqI, q_fSeqT, q_fSeqL, q_fSeqS, q_rng1, q_rng2, q_enumI, q_fEnumT, q_fEnumL, q_arg0, q_arg1, q_arg2, q_arg3, q_arg4, q_arg5, q_next, q_seq, q_thenN, q_thenR, q_thenB, q_thenC, q_asg, q_drop, q_ret, q_retN, q_ifS, q_break, q_cont, q_for, q_forL0, q_forL, q_loopN, q_loopC, q_loopB, q_loopR, q_while, q_loopWN, q_loopWC, q_loopWB, q_loopWR, q_slP, q_slO, q_aug, q_f2, q_f3, q_par, q_par3, q_g2, q_g3, q_parO, q_parO3, q_oNil, q_oP, q_oN, q_asgN, q_frz, q_bor, q_borT, q_thO, q_thP, q_thN, q_ttI, q_ttB, q_ttS, q_append, q_lstOnly, q_extend, q_lc, q_lc2, q_wipe0, q_wipe, q_fI, q_addI, q_eqI, q_eqS, q_isNN, q_isNI, q_isNT, q_isNS, q_isNB, q_ixT, q_ixL, q_at0, q_at1, q_at2, q_at3, q_neg, q_cutT, q_cutL, q_lenT, q_lenL, q_abs, q_lenR, q_ixR, q_intB, q_intI, q_tupL, q_tupT, q_listL, q_listT, q_max2, q_min2, q_maxC, q_minC, q_maxD, q_minD, q_sum, q_allM, q_anyM, q_tup0, q_tup1, q_tup2, q_tup3, q_tup4, q_lst0, q_lst1, q_lst2, q_lst3, q_lst4, q_lst5, q_lst6, q_lst7, q_lst8, q_lst9, q_lst10, q_lst11, q_lst12, q_tup5, q_tup6, q_tup7, q_tup8, q_out, q_outR, q_outN, Option.bind_some, Option.map_some, Option.bind_none, Option.map_none, List.set_cons_zero, List.set_cons_succ, List.getElem?_cons_zero, List.getElem?_cons_succ, List.map_cons, List.map_nil, List.cons_append, List.nil_append, reduceCtorEq, reduceIte, decide_true, decide_false, Bool.false_eq_true, $xs,*])
/-! any values, and whether they are forms (k01) -/
def okSm (w : Cv) (d b : Nat) : Bool := isE w && (pyE w).showable && (pyE w).leavesShort 40 && decide ((pyE w).depth ≤ d) && decide ((pyE w).bulk ≤ b)
theorem smE_of {w : Cv} {d b : Nat} (h : okSm w d b = true) : SmE w d b := by
  unfold okSm at h
  rw [Bool.and_eq_true, Bool.and_eq_true, Bool.and_eq_true, Bool.and_eq_true, decide_eq_true_eq, decide_eq_true_eq] at h
  exact ⟨h.1.1.1.1, h.1.1.1.2, h.1.1.2, h.1.2, h.2⟩
def plnB : Cv → Bool
  | .str x => decide (x.length ≤ 1000)
  | .non | .bl _ | .int _ | .tup _ | .lst _ | .dK _ => true
  | _ => false
def Pln (w : Cv) : Prop := plnB w = true
def abcS : Str := "abcdefghijklmnopqrstuvwxyz"
theorem q_isiDS {kvs : List (Key × Cv)} : fIsi [.dK kvs, .opq (.ty "str")] = some (.bl false) := rfl
theorem form_str {x : Str} (hx : x.length ≤ 1000) : ∃ b, m_is_form [.str x] = some (.bl b) ∧ m__law_is_word [.str x] = some (.bl b) := by
  have hx : x.cps.size ≤ 1000 := hx
  have kl : fLen [.str x] = some (.int ((x.cps.size : Nat) : Int)) := by
    show (if lenOk x.cps.size = true then _ else none) = _
    rw [if_pos (decide_eq_true (by omega))]; rfl
  have kc : ∀ a b : Sl, mLcL (mgName 1) mYes (mOp fInS (mVar 1) (mC (.str "abcdefghijklmnopqrstuvwxyz"))) [a, b] (signs x) = some (x.cps.toList.map fun c => Cv.bl (decide (c ∈ abcS.cps.toList))) := fun a b =>
    mLcL_map (fun c : Nat => Cv.str ⟨#[c]⟩) (fun c => Cv.bl (decide (c ∈ abcS.cps.toList))) fun c _ => by
      simp! [q_ev0]
      rfl
  have kf := fLst_ok (xs := x.cps.toList.map fun c => Cv.bl (decide (c ∈ abcS.cps.toList))) (by rw [List.length_map, Array.length_toList]; omega)
  have ka : fAll [.lst (x.cps.toList.map fun c => Cv.bl (decide (c ∈ abcS.cps.toList)))] = some (.bl (x.cps.toList.all fun c => decide (c ∈ abcS.cps.toList))) := q_allM
  by_cases h0 : 1 ≤ x.cps.size
  · by_cases h1 : x.cps.size ≤ 8
    · have g1 : (1 : Int) ≤ ((x.cps.size : Nat) : Int) := by omega
      have g2 : ((x.cps.size : Nat) : Int) ≤ 8 := by omega
      have g3 : (0 : Int) < ((x.cps.size : Nat) : Int) := by omega
      have g4 : ((x.cps.size : Nat) : Int) < 9 := by omega
      refine ⟨x.cps.toList.all fun c => decide (c ∈ abcS.cps.toList), ?_, ?_⟩
      · rw [m_is_form, mst_is_form, b_is_form]
        simp! [q_isiSS, kl, g1, g2, Bool.not_true, kc, kf, ka]
      · rw [m__law_is_word, mst__law_is_word, b__law_is_word]
        simp! [q_isiSS, kl, g3, g4, Bool.not_true, kc, kf, ka]
    · have g1 : (1 : Int) ≤ ((x.cps.size : Nat) : Int) := by omega
      have g2 : ¬ ((x.cps.size : Nat) : Int) ≤ 8 := by omega
      have g3 : (0 : Int) < ((x.cps.size : Nat) : Int) := by omega
      have g4 : ¬ ((x.cps.size : Nat) : Int) < 9 := by omega
      refine ⟨false, ?_, ?_⟩
      · rw [m_is_form, mst_is_form, b_is_form]
        simp! [q_isiSS, kl, g1, g2, Bool.not_true, Bool.not_false]
      · rw [m__law_is_word, mst__law_is_word, b__law_is_word]
        simp! [q_isiSS, kl, g3, g4, Bool.not_true, Bool.not_false]
  · have g1 : ¬ (1 : Int) ≤ ((x.cps.size : Nat) : Int) := by omega
    have g3 : ¬ (0 : Int) < ((x.cps.size : Nat) : Int) := by omega
    refine ⟨false, ?_, ?_⟩
    · rw [m_is_form, mst_is_form, b_is_form]
      simp! [q_isiSS, kl, g1, Bool.not_true, Bool.not_false]
    · rw [m__law_is_word, mst__law_is_word, b__law_is_word]
      simp! [q_isiSS, kl, g3, Bool.not_true, Bool.not_false]
theorem form_any {w : Cv} (h : Pln w) : ∃ b, m_is_form [w] = some (.bl b) ∧ m__law_is_word [w] = some (.bl b) := by
  have no : ∀ {w : Cv}, fIsi [w, .opq (.ty "str")] = some (.bl false) → ∃ b, m_is_form [w] = some (.bl b) ∧ m__law_is_word [w] = some (.bl b) := fun {w} e => by
    refine ⟨false, ?_, ?_⟩
    · rw [m_is_form, mst_is_form, b_is_form]
      simp! [e, Bool.not_false]
    · rw [m__law_is_word, mst__law_is_word, b__law_is_word]
      simp! [e, Bool.not_false]
  cases w with
  | str x => exact form_str (of_decide_eq_true h)
  | non => exact no rfl
  | bl b => exact no rfl
  | int i => exact no rfl
  | tup xs => exact no rfl
  | lst xs => exact no rfl
  | dK xs => exact no rfl
  | _ => cases h
/-! drawn values of any kind -/
def odd16 : List Cv := [.non, .bl true, .bl false, .int 0, .int 1, .int (-1), .int 1000000000000000000000000000000, .str "", .str "a", .str "one", .str "One", .str "ninelette", .tup [], .lst [], .dK [], .tup [.int 0]]
def odd6 : List Cv := [.tup [.str "in", .int 0, .int 1, .int 1], .tup [.tup [], .str "other"], .tup [.tup [.tup [], .str "a"]], .lst [.int 1], .tup [.str "in", .int 10, .int 1, .int 10], .tup [.str "one", .str "x"]]
def odd1 : List Cv := [.tup [.tup [.str "one", .str "x"]]]
theorem odd_all : ∀ w ∈ odd16 ++ odd6 ++ odd1, SmE w 3 30 ∧ Pln w := fun w hw => by
  have := List.all_eq_true.mp (show ((odd16 ++ odd6 ++ odd1).all fun w => okSm w 3 30 && plnB w) = true by decide +kernel) w hw
  rw [Bool.and_eq_true] at this
  exact ⟨smE_of this.1, this.2⟩
theorem m_odd_eq {st : Cv} {b : Int} (hp : PotV st b) (hb : b + 100 < 1000000000) : ∃ w st', m__law_odd [st] = some (w, st') ∧ SmE w 33 4000 ∧ Pln w ∧ PotV st' (b + 100) := by
  rw [m__law_odd, b__law_odd]
  have p30 : fPow (.int 10) (.int 30) = some (.int 1000000000000000000000000000000) := isAns_eq (by decide +kernel)
  have l1 : fLst odd16 = some (.lst odd16) := fLst_ok (Nat.le_of_ble_eq_true rfl)
  have l6 : fLst odd6 = some (.lst odd6) := fLst_ok (Nat.le_of_ble_eq_true rfl)
  have a1 : fAdd (.lst odd16) (.lst odd6) = some (.lst (odd16 ++ odd6)) := q_addL (Nat.le_of_ble_eq_true rfl)
  have a2 : fAdd (.lst (odd16 ++ odd6)) (.lst odd1) = some (.lst (odd16 ++ odd6 ++ odd1)) := q_addL (Nat.le_of_ble_eq_true rfl)
  obtain ⟨v, st1, e1, hv, hp1⟩ := m_of_eq (xs := odd16 ++ odd6 ++ odd1) hp (by omega) (by decide) (by decide)
  obtain ⟨hs, hpl⟩ := odd_all v hv
  obtain ⟨n, st2, e2, hn, hp2⟩ := m_of_eq (xs := [.int 0, .int 0, .int 0, .int 1, .int 2, .int 30]) hp1 (by omega) (by decide) (by decide)
  obtain ⟨k, rfl, k0, k1⟩ : ∃ k : Int, n = .int k ∧ 0 ≤ k ∧ k ≤ 30 := by
    simp only [List.mem_cons, List.not_mem_nil, or_false] at hn
    rcases hn with rfl | rfl | rfl | rfl | rfl | rfl <;> exact ⟨_, rfl, by decide, by decide⟩
  obtain ⟨gs', e0, st9, w9, rfl, hs9, hpl9, hp9⟩ := w_forNx (G := mgName 3) (p := ((xSeq (xAsg (xCall 2 0 m__law_of (xCons (xp (mLst (mCons (mTup (mCons (mVar 2) (mNil))) (mCons (mLst (mCons (mVar 2) (mNil))) (mCons (mDisp [(mC (.str "a"), mVar 2)]) (mCons (mTup (mCons (mC (.str "not")) (mCons (mVar 2) (mNil)))) (mCons (mTup (mCons (mVar 2) (mCons (mC (.str "a")) (mNil)))) (mNil)))))))) (xNil))) (mgName 2)) (xNext)))) (vs := [3])
    (I := fun xs gs => ∃ st w, gs = [.ow st, .pl (.lst (odd16 ++ odd6)), .pl w, .no] ∧ (xs.length ≤ 30 ∧ SmE w (33 - xs.length) (30 + 110 * (30 - xs.length))) ∧ Pln w ∧ PotV st (b + 2 + (30 - (xs.length : Int))))
    (by
      rintro x xr gs ⟨st, w, rfl, ⟨hl, hs⟩, hpl, hp⟩
      rw [List.length_cons] at hl hs hp
      obtain ⟨v, st5, e5, hv, hp5⟩ := m_of_eq (xs := [.tup [w], .lst [w], .dK [(Sum.inr "a", w)], .tup [.str "not", w], .tup [w, .str "a"]]) hp (by omega) (by simp) (by simp)
      have s1 : SmEs [w] (33 - (xr.length + 1)) (30 + 110 * (30 - (xr.length + 1)) + 1 + 0) := SmEs.cons hs SmEs.nil
      have n1 : SmE (.str "not") (33 - (xr.length + 1)) 10 := (smE_of (d := 0) (by decide +kernel)).mono (Nat.zero_le _) (Nat.le_refl _)
      have n2 : SmE (.str "a") (33 - (xr.length + 1)) 10 := (smE_of (d := 0) (by decide +kernel)).mono (Nat.zero_le _) (Nat.le_refl _)
      have key : SmE v (33 - xr.length) (30 + 110 * (30 - xr.length)) ∧ Pln v := by
        simp only [List.mem_cons, List.not_mem_nil, or_false] at hv
        rcases hv with rfl | rfl | rfl | rfl | rfl
        · exact ⟨(SmE.tup s1).mono (by omega) (by omega), rfl⟩
        · exact ⟨(SmE.lst s1).mono (by omega) (by omega), rfl⟩
        · exact ⟨(SmE.dict1 hs (by decide +kernel) (by decide +kernel)).mono (by omega) (by omega), rfl⟩
        · exact ⟨(SmE.tup (SmEs.cons n1 s1)).mono (by omega) (by omega), rfl⟩
        · exact ⟨(SmE.tup (SmEs.cons hs (SmEs.cons n2 SmEs.nil))).mono (by omega) (by omega), rfl⟩
      refine ⟨_, by simp! [e5]; rfl, st5, v, rfl, ⟨by omega, key.1⟩, key.2, hp5.mono (by omega)⟩)
    (iota 0 k.toNat) [.ow st2, .pl (.lst (odd16 ++ odd6)), .pl v, .no] ⟨st2, v, rfl, ⟨by unfold iota; rw [List.length_map, List.length_range]; omega, hs.mono (by unfold iota; rw [List.length_map, List.length_range]; omega) (by omega)⟩, hpl, hp2.mono (by unfold iota; rw [List.length_map, List.length_range]; omega)⟩
  refine ⟨w9, st9, ?_, hs9.2.mono (by simp) (by simp), hpl9, hp9.mono (by simp; omega)⟩
  have l1' := l1
  have a1' := a1
  have a2' := a2
  have e1' := e1
  simp only [odd16, odd6, odd1, List.cons_append, List.nil_append] at l1' a1' a2' e1' e0 l6
  simp! [mst__law_odd, p30, l1', l6, a1', a2', e1', e2, q_rngI (k := k) (by omega), e0]

end Lw

set_option Elab.async false
set_option linter.all false
set_option maxRecDepth 100000
set_option maxHeartbeats 2000000
namespace Lw
open PySem PySem.Spec PyProof.Rows L2 CL
local macro_rules
  | `(tactic| simp! [$xs,*]) => `(tactic| simp -implicitDefEqProofs only [w_mth, w_tupF, q_ltS, q_argK1, q_argK2, q_argK2', q_argK3a, q_argK3b, q_argK3c, q_argK3d, q_argK3e, q_argK3f, q_mtupF, q_tupF1, q_tupF2, q_tupF3, q_ord, q_msetL, q_wkF, q_wkT, q_wkL, q_wkN, q_wkS, q_wkI, q_wkB, q_tupleF, q_dictL, q_dictF, q_mth, q_fIndexL, q_zipI, q_fZipL, q_fZipT, q_isBB, q_revT, q_fRevT, q_inS, q_oIx, q_oIn, q_oGet2, q_oGet1, q_dc, q_disp1, q_keyS, q_keyI, q_mrg0, q_mrg, q_put0, q_dkOnly, q_dput, q_setd, q_asgSetd, q_fDIx, q_fDIn, q_dget2, q_dget1, q_fget2, q_fget1, w_m, w_rzN, q_mulAI, q_mulAL, q_rng3, q_isiTT, q_isiLT, q_isiST, q_isiIT, q_isiBT, q_isiNT, q_isiTS, q_isiLS, q_isiSS, q_isiIS, q_isiBS, q_isiNS, q_isiTI, q_isiLI, q_isiSI, q_isiII, q_isiBI, q_isiNI, q_isiTB, q_isiLB, q_isiSB, q_isiIB, q_isiBB, q_isiNB, w_bx, w_bxe, w_sx, w_sxe, w_lift, w_iteT, w_iteF, w_iteN, w_p, w_pT, w_pA, w_op, w_un, w_b, w_not, w_and, w_or, w_notV, w_andV, w_orV, w_if, w_nil, w_cons, w_tup, w_lst, w_cb, w_seqI, w_rng1, w_rng2, w_lc, w_noEx, w_lcL0, w_call, w_argX1, w_argX2, w_argX3, w_argX4, w_pop, w_popAt, w_nxt, w_setc0, w_setc1, w_setc2, w_seq, w_thN, w_thR, w_thO, w_thB, w_thC, w_thE, w_asg, w_asgN, w_drop, w_ret, w_retN, w_retO, w_ifS, w_brk, w_cnt, w_for, w_forL0, w_lkN, w_lkC, w_lkB, w_lkR, w_lkO, w_lkE, w_aug, w_h2, w_h3, w_j2, w_j3, w_par, w_par3, w_parO, w_parO3, w_frz, w_append, w_extend, w_setL, w_runP, w_runV, w_runN, w_outP, w_outPN, w_outV, w_outVN, w_outO, w_rest0, w_rest, q_revL, q_fRev, ite_t, ite_f, ite_n, q_var0, q_varS, q_c, q_op, q_un, q_b, q_fB, q_and, q_or, q_not, q_andV, q_orV, q_notV, q_if, q_chain, q_nil, q_cons, q_tup, q_lst, q_cb, q_ckw, q_noPart, q_part, q_fPart, q_sl, q_gname, q_gnil, q_gcons, q_gtup2, q_gtup3, q_gtup4, q_seqI, q_fSeqT, q_fSeqL, q_fSeqS, q_rng1, q_rng2, q_enumI, q_fEnumT, q_fEnumL, q_arg0, q_arg1, q_arg2, q_arg3, q_arg4, q_arg5, q_next, q_seq, q_thenN, q_thenR, q_thenB, q_thenC, q_asg, q_drop, q_ret, q_retN, q_ifS, q_break, q_cont, q_for, q_forL0, q_forL, q_loopN, q_loopC, q_loopB, q_loopR, q_while, q_loopWN, q_loopWC, q_loopWB, q_loopWR, q_slP, q_slO, q_aug, q_f2, q_f3, q_par, q_par3, q_g2, q_g3, q_parO, q_parO3, q_oNil, q_oP, q_oN, q_asgN, q_frz, q_bor, q_borT, q_thO, q_thP, q_thN, q_ttI, q_ttB, q_ttS, q_append, q_lstOnly, q_extend, q_lc, q_lc2, q_wipe0, q_wipe, q_fI, q_addI, q_eqI, q_eqS, q_isNN, q_isNI, q_isNT, q_isNS, q_isNB, q_ixT, q_ixL, q_at0, q_at1, q_at2, q_at3, q_neg, q_cutT, q_cutL, q_lenT, q_lenL, q_abs, q_lenR, q_ixR, q_intB, q_intI, q_tupL, q_tupT, q_listL, q_listT, q_max2, q_min2, q_maxC, q_minC, q_maxD, q_minD, q_sum, q_allM, q_anyM, q_tup0, q_tup1, q_tup2, q_tup3, q_tup4, q_lst0, q_lst1, q_lst2, q_lst3, q_lst4, q_lst5, q_lst6, q_lst7, q_lst8, q_lst9, q_lst10, q_lst11, q_lst12, q_tup5, q_tup6, q_tup7, q_tup8, q_out, q_outR, q_outN, Option.bind_some, Option.map_some, Option.bind_none, Option.map_none, List.set_cons_zero, List.set_cons_succ, List.getElem?_cons_zero, List.getElem?_cons_succ, List.map_cons, List.map_nil, List.cons_append, List.nil_append, reduceCtorEq, reduceIte, decide_true, decide_false, Bool.false_eq_true, $xs,*])
/-! k01: drawn texts, and the law -/
theorem iota_len {lo : Int} {n : Nat} : (iota lo n).length = n := by unfold iota; rw [List.length_map, List.length_range]
theorem m_of_str {st : Cv} {b : Int} {x : Str} (h : PotV st b) (hb : b < 1000000000) (h0 : 0 < x.cps.size) (hl : x.cps.size ≤ 1000) : ∃ c st', m__law_of [st, .str x] = some (.str ⟨#[c]⟩, st') ∧ c ∈ x.cps.toList ∧ PotV st' (b + 1) := by
  rw [m__law_of, b__law_of]
  have kl : fLen [.str x] = some (.int ((x.cps.size : Nat) : Int)) := by
    show (if lenOk x.cps.size = true then _ else none) = _
    rw [if_pos (decide_eq_true (by omega))]; rfl
  obtain ⟨r, st', e, r0, r1, hp⟩ := m_take_eq (u := ((x.cps.size : Nat) : Int)) h hb (by omega) (by omega)
  obtain ⟨c, hc, ec⟩ := atI_mem (xs := x.cps.toList) (i := r) r0 (by rw [Array.length_toList]; exact r1)
  have ki : fIx (.str x) (.int r) = some (.str ⟨#[c]⟩) := by
    show (if lenOk x.cps.size = true then _ else none) = _
    rw [if_pos (decide_eq_true (by omega)), ec]; rfl
  refine ⟨c, st', ?_, hc, hp⟩
  simp! [mst__law_of, kl, e, ki]
def abcL : Str := "abcdefghijklmnopqrstuvwxyz"
def okC (x : Str) : Prop := ∀ c ∈ x.cps.toList, c < 16 ^ 8
theorem join_e : ∀ ys : List Str, (Txt.join "" ys).cps.toList = ys.flatMap fun y => y.cps.toList
  | [] => rfl
  | y :: r => by
    have key : ∀ (r : List Str) (a : Array Nat), (r.foldl (fun acc p => acc ++ ("" : Str).cps ++ p.cps) a).toList = a.toList ++ r.flatMap fun y => y.cps.toList := fun r => by
      induction r with
      | nil => intro a; simp
      | cons z r ih =>
        intro a
        rw [List.foldl_cons, ih, List.flatMap_cons, Array.toList_append, Array.toList_append, show ("" : Str).cps.toList = [] from rfl, List.append_nil, List.append_assoc]
    exact key r y.cps
theorem join_small {ys : List Str} {n : Nat} (hl : ys.length ≤ n) (h : ∀ y ∈ ys, y.cps.size = 1 ∧ okC y) : (Txt.join "" ys).cps.size ≤ n ∧ okC (Txt.join "" ys) := by
  constructor
  · rw [← Array.length_toList, join_e]
    have : ∀ zs : List Str, (∀ y ∈ zs, y.cps.size = 1 ∧ okC y) → (zs.flatMap fun y => y.cps.toList).length = zs.length := fun zs h => by
      induction zs with
      | nil => rfl
      | cons z zs ih =>
        rw [List.flatMap_cons, List.length_append, Array.length_toList, (h z List.mem_cons_self).1, ih fun y hy => h y (List.mem_cons_of_mem _ hy), List.length_cons]; omega
    rw [this ys h]; exact hl
  · intro c hc
    rw [join_e, List.mem_flatMap] at hc
    obtain ⟨y, hy, hc⟩ := hc
    exact (h y hy).2 c hc
theorem abc_ok : okC abcL := fun c hc => by
  have := List.all_eq_true.mp (show (abcL.cps.toList.all fun c => decide (c < 16 ^ 8)) = true by decide +kernel) c hc
  exact of_decide_eq_true this
theorem strs_of {P : Str → Prop} : ∀ {ys : List Cv}, (∀ y ∈ ys, ∃ x, y = .str x ∧ P x) → ∃ zs : List Str, ys = zs.map Cv.str ∧ ∀ z ∈ zs, P z
  | [], _ => ⟨[], rfl, fun _ h => by cases h⟩
  | y :: ys, h => by
    obtain ⟨x, rfl, hx⟩ := h y List.mem_cons_self
    obtain ⟨zs, rfl, hz⟩ := strs_of fun z hz => h z (List.mem_cons_of_mem _ hz)
    exact ⟨x :: zs, rfl, fun z hm => (List.mem_cons.mp hm).elim (fun e => e ▸ hx) (hz z)⟩
def ends8 : List Str := ["", "", "", "A", "0", " ", "\n", "-"]
theorem ends_ok : ∀ s ∈ ends8, s.cps.size ≤ 1 ∧ okC s := fun s hs => by
  have := List.all_eq_true.mp (show (ends8.all fun s => decide (s.cps.size ≤ 1) && s.cps.toList.all fun c => decide (c < 16 ^ 8)) = true by decide +kernel) s hs
  rw [Bool.and_eq_true, decide_eq_true_eq, List.all_eq_true] at this
  exact ⟨this.1, fun c hc => of_decide_eq_true (this.2 c hc)⟩
theorem smE_str {x : Str} {d : Nat} (h : okC x) (hl : x.cps.size ≤ 100) : SmE (.str x) d 100 := by
  refine ⟨rfl, rfl, ?_, ?_, ?_⟩
  · simp only [pyE, PyData.leavesShort]
    exact List.all_eq_true.mpr fun c hc => decide_eq_true (h c hc)
  · simp only [pyE, PyData.depth]; exact Nat.zero_le _
  · simp only [pyE, PyData.bulk]; exact hl
theorem m_string_eq {st : Cv} {b : Int} (hp : PotV st b) (hb : b + 100 < 1000000000) : ∃ x st', m__law_string [st] = some (.str x, st') ∧ (okC x ∧ x.cps.size ≤ 12) ∧ PotV st' (b + 100) := by
  rw [m__law_string, b__law_string]
  obtain ⟨n, st1, e1, n0, n1, hp1⟩ := m_take_eq (u := 11) hp (by omega) (by decide) (by decide)
  obtain ⟨ys, st2, e2, l2, g2, hp2⟩ := lc_draw (G := mgName 3) (te := ((xCall 2 0 m__law_of (xCons (xp (mVar 1)) (xNil))))) (vs := [3]) (rest := [.pl (.str abcL), .no, .no])
    (fun y => ∃ x, y = .str x ∧ x.cps.size = 1 ∧ okC x) 1 (by decide) (iota 0 n.toNat) st1 _ hp1 fun x hx s1 c1 q1 q2 q3 => by
      rw [iota_len] at q3
      obtain ⟨c, s2, e2, hc, hp2⟩ := m_of_str (x := abcL) q1 (by omega) (by decide +kernel) (by decide +kernel)
      exact ⟨_, s2, _, ⟨by simp! [e2]; rfl, rfl⟩, ⟨_, rfl, rfl, fun k hk => by
        have : k = c := by simpa using hk
        rw [this]; exact abc_ok c hc⟩, hp2⟩
  rw [iota_len] at l2 hp2
  obtain ⟨zs, rfl, hz⟩ := strs_of g2
  rw [List.length_map] at l2
  have hzl : zs.length ≤ 10 := by omega
  have kj := q_join (z := "") (ys := zs) (by
    have : (zs.map (·.length)).sum = zs.length := by
      clear l2 hp2 e2 g2 hzl
      induction zs with
      | nil => rfl
      | cons z zs ih =>
        rw [List.map_cons, List.sum_cons, ih fun y hy => hz y (List.mem_cons_of_mem _ hy), List.length_cons, show z.length = 1 from (hz z List.mem_cons_self).1]; omega
    rw [this, show ("" : Str).length = 0 from rfl]; omega)
  obtain ⟨j1, j2⟩ := join_small hzl hz
  have fl := fLst_ok (xs := zs.map Cv.str) (by rw [List.length_map]; omega)
  obtain ⟨v, st3, e3, hv, hp3⟩ := m_of_eq (xs := ends8.map Cv.str) hp2 (by omega) (by decide) (by decide)
  obtain ⟨s, hs, rfl⟩ := List.mem_map.mp hv
  obtain ⟨s1, s2⟩ := ends_ok s hs
  generalize Txt.join "" zs = jz at *
  have ka : fAdd (.str jz) (.str s) = some (.str (jz ++ s)) := if_pos (decide_eq_true (by
    show jz.cps.size + s.cps.size ≤ _
    have e : sizeLine = 16777216 := by decide
    omega))
  have kc : (jz ++ s).cps = jz.cps ++ s.cps := rfl
  refine ⟨jz ++ s, st3, ?_, ⟨fun c hc => ?_, by rw [kc, Array.size_append]; omega⟩, hp3.mono (by omega)⟩
  · have e3' := e3
    simp only [ends8, List.map_cons, List.map_nil] at e3'
    unfold abcL at e2
    simp! [mst__law_string, e1, q_rngI (k := n) (by omega), e2, fl, kj, e3', ka]
  · rw [kc, Array.toList_append] at hc
    exact (List.mem_append.mp hc).elim (j2 c) (s2 c)
def start12 : List Cv := [.str "", .str "a", .str "z", .str "abcdefgh", .str "abcdefghi", .str "Abc", .str "a b", .str "a1", .non, .tup [.str "a"], .lst [.str "a"], .bl true]
theorem start_ok : ∀ w ∈ start12, SmE w 33 4000 ∧ Pln w := fun w hw => by
  have := List.all_eq_true.mp (show (start12.all fun w => okSm w 33 4000 && plnB w) = true by decide +kernel) w hw
  rw [Bool.and_eq_true] at this
  exact ⟨smE_of this.1, this.2⟩
theorem law_ok : ∀ ns : List Int, m_law [.scr (ns.map Cv.int)] = some (.bl true) := by
  intro ns
  rw [m_law, b_law]
  obtain ⟨gs', e0, _, rfl⟩ := w_forNx (G := mgName 1) (p := ((xSeq (xAsgN (xCB (arg 2 m__law_pot) (xCons (xp (mVar 0)) (xCons (xp (mVar 1)) (xNil)))) 2) (xSeq (xAsg (xp (mLst (mCons (mC (.str "")) (mCons (mC (.str "a")) (mCons (mC (.str "z")) (mCons (mC (.str "abcdefgh")) (mCons (mC (.str "abcdefghi")) (mCons (mC (.str "Abc")) (mCons (mC (.str "a b")) (mCons (mC (.str "a1")) (mCons (mC .non) (mCons (mTup (mCons (mC (.str "a")) (mNil))) (mCons (mLst (mCons (mC (.str "a")) (mNil))) (mCons (mC (.bl true)) (mNil))))))))))))))) (mgName 3)) (xSeq (xAsg (xOp fAdd (xOp fAdd (xp (mVar 3)) (xLcc (xpA (mRng1 (mCons (mC (.int 20)) (mNil)))) (mgName 6) (xpT mYes) (xCall 1 2 m__law_string (xNil)) [6])) (xLcc (xpA (mRng1 (mCons (mC (.int 12)) (mNil)))) (mgName 6) (xpT mYes) (xCall 1 2 m__law_odd (xNil)) [6])) (mgName 3)) (xSeq (xFor (xpA (mSeqI (mVar 3))) (mgName 4) (xSeq (xAsg (xp (mCB fReprE (mCons (mVar 4) (mNil)))) (mgName 5)) (xSeq (xIfS (xpT (mOr (mB (mOp fNe (mCB fReprE (mCons (mCB (arg 1 m_is_form) (mCons (mVar 4) (mNil))) (mNil))) (mCB fReprE (mCons (mCB (arg 1 m__law_is_word) (mCons (mVar 4) (mNil))) (mNil))))) (mB (mOp fNe (mCB fReprE (mCons (mVar 4) (mNil))) (mVar 5))))) (xSeq (xRet (xp (mC (.bl false)))) (xNext)) (xNext)) (xNext))) [4, 5]) (xNext))))))) (vs := [1, 2, 3, 4, 5])
    (I := fun xs gs => (∀ x ∈ xs, ∃ k : Int, x = .int k ∧ 0 ≤ k ∧ k < 1000) ∧ gs = [.pl (.scr (ns.map Cv.int)), .no, .no, .no, .no, .no, .no])
    (by
      rintro x xr gs ⟨hx, rfl⟩
      obtain ⟨k, rfl, k0, k1⟩ := hx x List.mem_cons_self
      obtain ⟨st, e1, hp⟩ := m_pot_eq (ns := ns) k0 (by omega)
      obtain ⟨ys, gs5, e5, st5, rfl, ⟨hy, hn⟩, hp5⟩ := w_lcInv (G := mgName 6) (t := xpT mYes) (vs := [6]) (te := ((xCall 1 2 m__law_string (xNil))))
        (I := fun xs acc gs => ∃ st, gs = [.pl (.scr (ns.map Cv.int)), .pl (.int k), .ow st, .pl (.lst start12), .no, .no, .no] ∧ ((∀ w ∈ acc, SmE w 33 4000 ∧ Pln w) ∧ acc.length + xs.length = 20) ∧ PotV st (100 * (20 - (xs.length : Int))))
        (by
          rintro x xs acc gs ⟨st, rfl, ⟨ha, hn⟩, hp⟩
          rw [List.length_cons] at hn hp
          obtain ⟨x, st6, e6, ⟨h1, h2⟩, hp6⟩ := m_string_eq hp (by push_cast; omega)
          refine ⟨_, true, _, rfl, rfl, fun _ => ⟨.str x, _, by simp! [e6]; rfl, st6, rfl, ⟨fun w hw => ?_, by rw [List.length_append, List.length_singleton]; omega⟩, hp6.mono (by push_cast; omega)⟩, fun h => by cases h⟩
          rcases List.mem_append.mp hw with hw | hw
          · exact ha w hw
          · rw [List.mem_singleton.mp hw]
            exact ⟨(smE_str h1 (by omega)).mono (Nat.le_refl _) (by omega), decide_eq_true (by show x.cps.size ≤ 1000; omega)⟩)
        (iota 0 (20 : Int).toNat) [] [.pl (.scr (ns.map Cv.int)), .pl (.int k), .ow st, .pl (.lst start12), .no, .no, .no] ⟨st, rfl, ⟨⟨(fun _ h => by cases h), rfl⟩, hp.mono (by decide)⟩⟩
      obtain ⟨zs, gs7, e7, st7, rfl, ⟨hz, hm⟩, hp7⟩ := w_lcInv (G := mgName 6) (t := xpT mYes) (vs := [6]) (te := ((xCall 1 2 m__law_odd (xNil))))
        (I := fun xs acc gs => ∃ st, gs = [.pl (.scr (ns.map Cv.int)), .pl (.int k), .ow st, .pl (.lst start12), .no, .no, .no] ∧ ((∀ w ∈ acc, SmE w 33 4000 ∧ Pln w) ∧ acc.length + xs.length = 12) ∧ PotV st (10000 + 100 * (12 - (xs.length : Int))))
        (by
          rintro x xs acc gs ⟨st, rfl, ⟨ha, hn⟩, hp⟩
          rw [List.length_cons] at hn hp
          obtain ⟨w, st6, e6, h1, h2, hp6⟩ := m_odd_eq hp (by push_cast; omega)
          refine ⟨_, true, _, rfl, rfl, fun _ => ⟨w, _, by simp! [e6]; rfl, st6, rfl, ⟨fun w' hw => ?_, by rw [List.length_append, List.length_singleton]; omega⟩, hp6.mono (by push_cast; omega)⟩, fun h => by cases h⟩
          rcases List.mem_append.mp hw with hw | hw
          · exact ha w' hw
          · rw [List.mem_singleton.mp hw]
            exact ⟨h1, h2⟩)
        (iota 0 (12 : Int).toNat) [] [.pl (.scr (ns.map Cv.int)), .pl (.int k), .ow st5, .pl (.lst start12), .no, .no, .no] ⟨st5, rfl, ⟨⟨(fun _ h => by cases h), rfl⟩, hp5.mono (by simp; decide)⟩⟩
      rw [List.nil_append] at hy hn hz hm
      rw [List.length_nil, Nat.add_zero] at hn hm
      have fs : fLst start12 = some (.lst start12) := fLst_ok (Nat.le_of_ble_eq_true rfl)
      have fy := fLst_ok (xs := ys) (by omega)
      have fz := fLst_ok (xs := zs) (by omega)
      have sl : start12.length = 12 := rfl
      have a1 : fAdd (.lst start12) (.lst ys) = some (.lst (start12 ++ ys)) := q_addL (by omega)
      have a2 : fAdd (.lst (start12 ++ ys)) (.lst zs) = some (.lst (start12 ++ ys ++ zs)) := q_addL (by rw [List.length_append]; omega)
      have all : ∀ w ∈ start12 ++ ys ++ zs, SmE w 33 4000 ∧ Pln w := fun w hw => by
        rcases List.mem_append.mp hw with hw | hw
        · rcases List.mem_append.mp hw with hw | hw
          · exact start_ok w hw
          · exact hy w hw
        · exact hz w hw
      have inner := fun L0 : List Cv => w_forSame (G := mgName 4) (p := ((xSeq (xAsg (xp (mCB fReprE (mCons (mVar 4) (mNil)))) (mgName 5)) (xSeq (xIfS (xpT (mOr (mB (mOp fNe (mCB fReprE (mCons (mCB (arg 1 m_is_form) (mCons (mVar 4) (mNil))) (mNil))) (mCB fReprE (mCons (mCB (arg 1 m__law_is_word) (mCons (mVar 4) (mNil))) (mNil))))) (mB (mOp fNe (mCB fReprE (mCons (mVar 4) (mNil))) (mVar 5))))) (xSeq (xRet (xp (mC (.bl false)))) (xNext)) (xNext)) (xNext))))) (vs := [4, 5]) (gs := [.pl (.scr (ns.map Cv.int)), .pl (.int k), .ow st7, .pl (.lst L0), .no, .no, .no]) (xs := start12 ++ ys ++ zs) fun w hw => by
        obtain ⟨h1, h2⟩ := all w hw
        obtain ⟨b, f1, f2⟩ := form_any h2
        have r1 := q_reprE (h1.ok (by decide) (by decide))
        have r2 := q_reprE (w := .bl b) (by cases b <;> decide +kernel)
        refine ⟨_, _, rfl, by simp! [r1, f1, f2, r2, Bool.not_true]; rfl, _, .inl rfl, rfl⟩
      generalize start12 ++ ys ++ zs = big at *
      generalize start12 ++ ys = mid at *
      have fs' := fs
      have e5' := e5
      have e7' := e7
      have a1' := a1
      simp only [start12] at fs' e5' e7' a1'
      refine ⟨_, by simp! [e1, fs', q_rngI (k := 20) (by decide), e5', fy, a1', q_rngI (k := 12) (by decide), e7', fz, a2, inner big]; rfl, fun z hz => hx z (List.mem_cons_of_mem _ hz), rfl⟩)
    (iota 0 (max 1 (min 3 (ns.length : Int))).toNat) [.pl (.scr (ns.map Cv.int)), .no, .no, .no, .no, .no, .no] ⟨fun x hx => by
      obtain ⟨i, hi, rfl⟩ := List.mem_map.mp hx
      have hi := List.mem_range.mp hi
      exact ⟨_, rfl, by omega, by omega⟩, rfl⟩
  simp! [mst_law, List.length_map, q_rngI (k := max 1 (min 3 (ns.length : Int))) (by omega), e0]

end Lw

set_option Elab.async false
set_option linter.all false
set_option maxRecDepth 100000
set_option maxHeartbeats 1000000
namespace Lw
open PySem PySem.Spec PyProof.Rows L2 CL
theorem law_sp : ∀ _ : World, LawSp 63 (spM 1 m_law) := fun _ ns _ _ => x_m (law_ok ns) rfl
theorem fnf {K : Fg} {h : Heap} {mg : Str → Option Value} {x : Str} {st : Stmt} {f : Addr} {fd : FuncData} {ps : List Str} (X : K.In h) (G : h.Ns mainGlobals mg) (a : PySem.W.nsIn K mainGlobals x = some (some (.ref f))) (F : Fun K x x st f fd) (b : Binds K fd ps []) (k : PySem.W.keepIn K (.ref f) = true) : FnF K mg x st f fd ps := ⟨F, b, PySem.W.mg_of X G a, k⟩
theorem spM_zero {P : Program} {w : World} {K : Fg} {mg : Str → Option Value} {base : Heap} {k : Nat} {f : Addr} {fd : FuncData} {ps : List Str} {n : Nat} {m : List Cv → Option Cv} (h : ∀ us, m us = none) : FnG P w K mg base L2.CX0 k f fd ps (spM n m) := fn_no.imp spM_mono fun us S Q E ⟨_, v, e, _⟩ => by rw [h] at e; cases e
theorem spX_zero {P : Program} {w : World} {K : Fg} {mg : Str → Option Value} {base : Heap} {k : Nat} {f : Addr} {fd : FuncData} {ps : List Str} {n : Nat} {m : List Cv → Option (Cv × Cv)} (h : ∀ us, m us = none) : FnG P w K mg base L2.CX0 k f fd ps (spX n m) := fn_no.imp spX_mono fun us S Q E ⟨_, _, _, _, _, _, _, _, _, _, e, _⟩ => by rw [h] at e; cases e
theorem all_mk {l : PySem.W.OpenLaw} {w : World} {K : Fg} {h : Heap} {mg : Str → Option Value} {fa : Addr} (X : K.In h) (G : h.Ns mainGlobals mg) (hfa : mg "law" = some (.ref fa))
    {f_is_form : Addr} {od_is_form an_is_form : Option Addr} {sl_is_form : Array (Option Value)} {oc_is_form kV_is_form dc_is_form pm_is_form cd_is_form ct_is_form : Value} (a_is_form : PySem.W.nsIn K mainGlobals "is_form" = some (some (.ref f_is_form)))
    (l_is_form : K.lookup f_is_form = some ⟨oc_is_form, od_is_form, .func (PySem.W.fnOf "is_form" "is_form" (defArgs s_is_form) (defBody s_is_form) (defScope s_is_form) .none kV_is_form dc_is_form pm_is_form an_is_form cd_is_form ct_is_form), sl_is_form⟩) (c_is_form : PySem.W.codeIn K cd_is_form "is_form" = true) (k_is_form : PySem.W.keepIn K (.ref f_is_form) = true)
    {f__law_is_word : Addr} {od__law_is_word an__law_is_word : Option Addr} {sl__law_is_word : Array (Option Value)} {oc__law_is_word kV__law_is_word dc__law_is_word pm__law_is_word cd__law_is_word ct__law_is_word : Value} (a__law_is_word : PySem.W.nsIn K mainGlobals "_law_is_word" = some (some (.ref f__law_is_word)))
    (l__law_is_word : K.lookup f__law_is_word = some ⟨oc__law_is_word, od__law_is_word, .func (PySem.W.fnOf "_law_is_word" "_law_is_word" (defArgs s__law_is_word) (defBody s__law_is_word) (defScope s__law_is_word) .none kV__law_is_word dc__law_is_word pm__law_is_word an__law_is_word cd__law_is_word ct__law_is_word), sl__law_is_word⟩) (c__law_is_word : PySem.W.codeIn K cd__law_is_word "_law_is_word" = true) (k__law_is_word : PySem.W.keepIn K (.ref f__law_is_word) = true)
    {f__law_take : Addr} {od__law_take an__law_take : Option Addr} {sl__law_take : Array (Option Value)} {oc__law_take kV__law_take dc__law_take pm__law_take cd__law_take ct__law_take : Value} (a__law_take : PySem.W.nsIn K mainGlobals "_law_take" = some (some (.ref f__law_take)))
    (l__law_take : K.lookup f__law_take = some ⟨oc__law_take, od__law_take, .func (PySem.W.fnOf "_law_take" "_law_take" (defArgs s__law_take) (defBody s__law_take) (defScope s__law_take) .none kV__law_take dc__law_take pm__law_take an__law_take cd__law_take ct__law_take), sl__law_take⟩) (c__law_take : PySem.W.codeIn K cd__law_take "_law_take" = true) (k__law_take : PySem.W.keepIn K (.ref f__law_take) = true)
    {f__law_of : Addr} {od__law_of an__law_of : Option Addr} {sl__law_of : Array (Option Value)} {oc__law_of kV__law_of dc__law_of pm__law_of cd__law_of ct__law_of : Value} (a__law_of : PySem.W.nsIn K mainGlobals "_law_of" = some (some (.ref f__law_of)))
    (l__law_of : K.lookup f__law_of = some ⟨oc__law_of, od__law_of, .func (PySem.W.fnOf "_law_of" "_law_of" (defArgs s__law_of) (defBody s__law_of) (defScope s__law_of) .none kV__law_of dc__law_of pm__law_of an__law_of cd__law_of ct__law_of), sl__law_of⟩) (c__law_of : PySem.W.codeIn K cd__law_of "_law_of" = true) (k__law_of : PySem.W.keepIn K (.ref f__law_of) = true)
    {f__law_string : Addr} {od__law_string an__law_string : Option Addr} {sl__law_string : Array (Option Value)} {oc__law_string kV__law_string dc__law_string pm__law_string cd__law_string ct__law_string : Value} (a__law_string : PySem.W.nsIn K mainGlobals "_law_string" = some (some (.ref f__law_string)))
    (l__law_string : K.lookup f__law_string = some ⟨oc__law_string, od__law_string, .func (PySem.W.fnOf "_law_string" "_law_string" (defArgs s__law_string) (defBody s__law_string) (defScope s__law_string) .none kV__law_string dc__law_string pm__law_string an__law_string cd__law_string ct__law_string), sl__law_string⟩) (c__law_string : PySem.W.codeIn K cd__law_string "_law_string" = true) (k__law_string : PySem.W.keepIn K (.ref f__law_string) = true)
    {f__law_odd : Addr} {od__law_odd an__law_odd : Option Addr} {sl__law_odd : Array (Option Value)} {oc__law_odd kV__law_odd dc__law_odd pm__law_odd cd__law_odd ct__law_odd : Value} (a__law_odd : PySem.W.nsIn K mainGlobals "_law_odd" = some (some (.ref f__law_odd)))
    (l__law_odd : K.lookup f__law_odd = some ⟨oc__law_odd, od__law_odd, .func (PySem.W.fnOf "_law_odd" "_law_odd" (defArgs s__law_odd) (defBody s__law_odd) (defScope s__law_odd) .none kV__law_odd dc__law_odd pm__law_odd an__law_odd cd__law_odd ct__law_odd), sl__law_odd⟩) (c__law_odd : PySem.W.codeIn K cd__law_odd "_law_odd" = true) (k__law_odd : PySem.W.keepIn K (.ref f__law_odd) = true)
    {f__law_pot : Addr} {od__law_pot an__law_pot : Option Addr} {sl__law_pot : Array (Option Value)} {oc__law_pot kV__law_pot dc__law_pot pm__law_pot cd__law_pot ct__law_pot : Value} (a__law_pot : PySem.W.nsIn K mainGlobals "_law_pot" = some (some (.ref f__law_pot)))
    (l__law_pot : K.lookup f__law_pot = some ⟨oc__law_pot, od__law_pot, .func (PySem.W.fnOf "_law_pot" "_law_pot" (defArgs s__law_pot) (defBody s__law_pot) (defScope s__law_pot) .none kV__law_pot dc__law_pot pm__law_pot an__law_pot cd__law_pot ct__law_pot), sl__law_pot⟩) (c__law_pot : PySem.W.codeIn K cd__law_pot "_law_pot" = true) (k__law_pot : PySem.W.keepIn K (.ref f__law_pot) = true)
    {f_law : Addr} {od_law an_law : Option Addr} {sl_law : Array (Option Value)} {oc_law kV_law dc_law pm_law cd_law ct_law : Value} (a_law : PySem.W.nsIn K mainGlobals "law" = some (some (.ref f_law)))
    (l_law : K.lookup f_law = some ⟨oc_law, od_law, .func (PySem.W.fnOf "law" "law" (defArgs s_law) (defBody s_law) (defScope s_law) .none kV_law dc_law pm_law an_law cd_law ct_law), sl_law⟩) (c_law : PySem.W.codeIn K cd_law "law" = true) (k_law : PySem.W.keepIn K (.ref f_law) = true)
    (b_abs : PySem.W.nsIn K mainGlobals "abs" = some none)
    (b_all : PySem.W.nsIn K mainGlobals "all" = some none)
    (b_int : PySem.W.nsIn K mainGlobals "int" = some none)
    (b_isinstance : PySem.W.nsIn K mainGlobals "isinstance" = some none)
    (b_len : PySem.W.nsIn K mainGlobals "len" = some none)
    (b_max : PySem.W.nsIn K mainGlobals "max" = some none)
    (b_min : PySem.W.nsIn K mainGlobals "min" = some none)
    (b_range : PySem.W.nsIn K mainGlobals "range" = some none)
    (b_repr : PySem.W.nsIn K mainGlobals "repr" = some none)
    (b_str : PySem.W.nsIn K mainGlobals "str" = some none)
    {t_LETTERS : Tok} (n_LETTERS : PySem.W.nsIn K mainGlobals "LETTERS" = some (some (.str "abcdefghijklmnopqrstuvwxyz" t_LETTERS)))
    {t_MOST_LETTERS : Tok} (n_MOST_LETTERS : PySem.W.nsIn K mainGlobals "MOST_LETTERS" = some (some (.int 8 t_MOST_LETTERS)))
    : ∃ fd : FuncData, (∀ (s : Shared) (v : Value), BindsTo s fd ⟨[v], []⟩ [("_law_script", v)]) ∧ ∀ base : Heap, K.In base → base.Ns mainGlobals mg → (∃ m, base.Ns sysModules m) → FnG l.prog w K mg base L2.CX0 4 fa fd ["_law_script"] (spM 1 m_law) := by
  have e := hfa.symm.trans (PySem.W.mg_of X G a_law)
  cases e
  have U_is_form := fun_mk (st := s_is_form) l_is_form c_is_form k_is_form
  have F_is_form := fnf (ps := ["value"]) X G a_is_form U_is_form (U_is_form.binds fun _ _ _ _ _ _ us hl => match us, hl with | [_], _ => rfl) k_is_form
  have U__law_is_word := fun_mk (st := s__law_is_word) l__law_is_word c__law_is_word k__law_is_word
  have F__law_is_word := fnf (ps := ["_law_thing"]) X G a__law_is_word U__law_is_word (U__law_is_word.binds fun _ _ _ _ _ _ us hl => match us, hl with | [_], _ => rfl) k__law_is_word
  have U__law_take := fun_mk (st := s__law_take) l__law_take c__law_take k__law_take
  have F__law_take := fnf (ps := ["_law_pot_here", "_law_upto"]) X G a__law_take U__law_take (U__law_take.binds fun _ _ _ _ _ _ us hl => match us, hl with | [_, _], _ => rfl) k__law_take
  have U__law_of := fun_mk (st := s__law_of) l__law_of c__law_of k__law_of
  have F__law_of := fnf (ps := ["_law_pot_here", "_law_some"]) X G a__law_of U__law_of (U__law_of.binds fun _ _ _ _ _ _ us hl => match us, hl with | [_, _], _ => rfl) k__law_of
  have U__law_string := fun_mk (st := s__law_string) l__law_string c__law_string k__law_string
  have F__law_string := fnf (ps := ["_law_pot_here"]) X G a__law_string U__law_string (U__law_string.binds fun _ _ _ _ _ _ us hl => match us, hl with | [_], _ => rfl) k__law_string
  have U__law_odd := fun_mk (st := s__law_odd) l__law_odd c__law_odd k__law_odd
  have F__law_odd := fnf (ps := ["_law_pot_here"]) X G a__law_odd U__law_odd (U__law_odd.binds fun _ _ _ _ _ _ us hl => match us, hl with | [_], _ => rfl) k__law_odd
  have U__law_pot := fun_mk (st := s__law_pot) l__law_pot c__law_pot k__law_pot
  have F__law_pot := fnf (ps := ["_law_script", "_law_k"]) X G a__law_pot U__law_pot (U__law_pot.binds fun _ _ _ _ _ _ us hl => match us, hl with | [_, _], _ => rfl) k__law_pot
  have U_law := fun_mk (st := s_law) l_law c_law k_law
  have F_law := fnf (ps := ["_law_script"]) X G a_law U_law (U_law.binds fun _ _ _ _ _ _ us hl => match us, hl with | [_], _ => rfl) k_law
  refine ⟨PySem.W.fnOf "law" "law" (defArgs s_law) (defBody s_law) (defScope s_law) .none kV_law dc_law pm_law an_law cd_law ct_law, fun s v => .of_eq rfl, fun base _ _ hsy => ?_⟩
  have T : Txt K mg base := { b_abs := PySem.W.mg_none_of X G b_abs, b_all := PySem.W.mg_none_of X G b_all, b_int := PySem.W.mg_none_of X G b_int, b_isinstance := PySem.W.mg_none_of X G b_isinstance, b_len := PySem.W.mg_none_of X G b_len, b_max := PySem.W.mg_none_of X G b_max, b_min := PySem.W.mg_none_of X G b_min, b_range := PySem.W.mg_none_of X G b_range, b_repr := PySem.W.mg_none_of X G b_repr, b_str := PySem.W.mg_none_of X G b_str, c_LETTERS := ⟨_, PySem.W.mg_of X G n_LETTERS⟩, c_MOST_LETTERS := ⟨_, PySem.W.mg_of X G n_MOST_LETTERS⟩, sys := (let ⟨_, o, _, _, e, _⟩ := hsy; ⟨o, e⟩), yes := True.intro }
  have C_is_form : FnG l.prog w K mg base L2.CX0 1 f_is_form _ ["value"] (spM 1 m_is_form) := ok_is_form T  F_is_form (PL.ofEv es_is_form)
  have C__law_is_word : FnG l.prog w K mg base L2.CX0 1 f__law_is_word _ ["_law_thing"] (spM 1 m__law_is_word) := ok__law_is_word T  F__law_is_word (PL.ofEv es__law_is_word)
  have C__law_take : FnG l.prog w K mg base L2.CX0 1 f__law_take _ ["_law_pot_here", "_law_upto"] (spX 2 m__law_take) := ok__law_take T  F__law_take (PL.ofX es__law_take)
  have C__law_of : FnG l.prog w K mg base L2.CX0 2 f__law_of _ ["_law_pot_here", "_law_some"] (spX 2 m__law_of) := ok__law_of T F__law_take (C__law_take.mono_k (by decide)) F__law_of (PL.ofX es__law_of)
  have C__law_string : FnG l.prog w K mg base L2.CX0 3 f__law_string _ ["_law_pot_here"] (spX 1 m__law_string) := ok__law_string T F__law_of (C__law_of.mono_k (by decide)) F__law_take (C__law_take.mono_k (by decide)) F__law_string (PL.ofX es__law_string)
  have C__law_odd : FnG l.prog w K mg base L2.CX0 3 f__law_odd _ ["_law_pot_here"] (spX 1 m__law_odd) := ok__law_odd T F__law_of (C__law_of.mono_k (by decide)) F__law_odd (PL.ofX es__law_odd)
  have C__law_pot : FnG l.prog w K mg base L2.CX0 1 f__law_pot _ ["_law_script", "_law_k"] (spN 2 m__law_pot) := ok__law_pot T  F__law_pot (PL.ofXN es__law_pot)
  have C_law : FnG l.prog w K mg base L2.CX0 4 fa _ ["_law_script"] (spM 1 m_law) := ok_law T F_is_form (C_is_form.mono_k (by decide)) F__law_is_word (C__law_is_word.mono_k (by decide)) F__law_string (C__law_string.mono_k (by decide)) F__law_odd (C__law_odd.mono_k (by decide)) F__law_pot (C__law_pot.mono_k (by decide)) F_law (PL.ofXV es_law)
  exact C_law
end Lw
open PySem PySem.W PyProof.Rows in
set_option maxRecDepth 100000 in
set_option maxHeartbeats 0 in
theorem PySem.Challenge.cw_pluralforms_k01_forms_of_any_value_holds : PySem.Challenge.rw_pluralforms_k01_forms_of_any_value.Holds := by
  w_on; o_law; k_head; (case hw => w_witness2)
  k_fill
  refine CL.law_endS (l := PySem.Challenge.rw_pluralforms_k01_forms_of_any_value) (n := 63) (k := 4) (x := "_law_script") (sp := fun _ => CL.spM 1 Lw.m_law) rfl (by decide) rfl (CL.room_caller (by decide)) (fun w h Y => PySem.W.kIn_of Y) ?F Lw.law_sp (by rfl)
  case F =>
    intro w mg fa h KX G hmg
    refine' Lw.all_mk KX G hmg ?a_is_form ?l_is_form ?c_is_form ?k_is_form ?a__law_is_word ?l__law_is_word ?c__law_is_word ?k__law_is_word ?a__law_take ?l__law_take ?c__law_take ?k__law_take ?a__law_of ?l__law_of ?c__law_of ?k__law_of ?a__law_string ?l__law_string ?c__law_string ?k__law_string ?a__law_odd ?l__law_odd ?c__law_odd ?k__law_odd ?a__law_pot ?l__law_pot ?c__law_pot ?k__law_pot ?a_law ?l_law ?c_law ?k_law ?b_abs ?b_all ?b_int ?b_isinstance ?b_len ?b_max ?b_min ?b_range ?b_repr ?b_str ?n_LETTERS ?n_MOST_LETTERS
    (case a_is_form => k_is)
    (case l_is_form => k_is)
    (case c_is_form => k_is)
    (case k_is_form => k_is)
    (case a__law_is_word => k_is)
    (case l__law_is_word => k_is)
    (case c__law_is_word => k_is)
    (case k__law_is_word => k_is)
    (case a__law_take => k_is)
    (case l__law_take => k_is)
    (case c__law_take => k_is)
    (case k__law_take => k_is)
    (case a__law_of => k_is)
    (case l__law_of => k_is)
    (case c__law_of => k_is)
    (case k__law_of => k_is)
    (case a__law_string => k_is)
    (case l__law_string => k_is)
    (case c__law_string => k_is)
    (case k__law_string => k_is)
    (case a__law_odd => k_is)
    (case l__law_odd => k_is)
    (case c__law_odd => k_is)
    (case k__law_odd => k_is)
    (case a__law_pot => k_is)
    (case l__law_pot => k_is)
    (case c__law_pot => k_is)
    (case k__law_pot => k_is)
    (case a_law => k_is)
    (case l_law => k_is)
    (case c_law => k_is)
    (case k_law => k_is)
    (case b_abs => k_is)
    (case b_all => k_is)
    (case b_int => k_is)
    (case b_isinstance => k_is)
    (case b_len => k_is)
    (case b_max => k_is)
    (case b_min => k_is)
    (case b_range => k_is)
    (case b_repr => k_is)
    (case b_str => k_is)
    (case n_LETTERS => k_is)
    (case n_MOST_LETTERS => k_is)
#print axioms PySem.Challenge.cw_pluralforms_k01_forms_of_any_value_holds
