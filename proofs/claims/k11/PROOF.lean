import PyProof.Rows.All
import Wide.All
import OpenK.AllK
import Wide.FinOn
import HandS.ForMost
import HandS.ForExc
import HandS.Wide
import HandS.SortKw
import HandS.TupAny
import KE.DatumOrd
import HandS.EndBits
import HandS.Style
import PyProof.ReprBulk
import HandS.Iter
import KE.GoesMore
import PySem.Challenge.RW_pluralforms_k11_whole_forms_of_great_num
set_option Elab.async false
set_option linter.all false
set_option maxRecDepth 100000
set_option maxHeartbeats 4000000
/-! CL1: clean values, the owned store, what a clean value stands for; lifted readings -/
namespace CL
open PySem PySem.Spec PyProof.Rows L2

abbrev Fg := PySem.W.Frag

/-- clean values: immutable trees, and references to owned objects -/
inductive Cv where
  | non | bl (b : Bool) | int (i : Int) | str (x : Str)
  | tup (xs : List Cv) | lst (xs : List Cv)
  | dK (kvs : List (Key × Cv)) | dT (kvs : List (List Key × Cv))
  | ref (a : Addr) | opq (v : V)
  /-- a list that is only read (the script) -/
  | scr (xs : List Cv)

inductive Ob where
  | lst (xs : List Cv)
  | dK (kvs : List (Key × Cv)) | dT (kvs : List (List Key × Cv))
  | ins (C dx : Addr) (fs : List (Str × Cv))

abbrev Sto := Addr → Option Ob
def Sto.set (S : Sto) (a : Addr) (o : Ob) : Sto := fun b => if b = a then some o else S b
@[simp] theorem Sto.set_same {S : Sto} {a : Addr} {o : Ob} : S.set a o a = some o := by simp [Sto.set]
theorem Sto.set_ne {S : Sto} {a b : Addr} {o : Ob} (h : b ≠ a) : S.set a o b = S b := by simp [Sto.set, h]
@[simp] theorem Sto.set_set {S : Sto} {a : Addr} {o u : Ob} : (S.set a o).set a u = S.set a u := by
  funext b; by_cases h : b = a <;> simp [Sto.set, h]

mutual
inductive Rep (K : Fg) (Z : List Addr) (S : Sto) (H : Hp) : Cv → V → Prop
  | non : Rep K Z S H .non .non
  | bl (b : Bool) : Rep K Z S H (.bl b) (.bl b)
  | int (i : Int) : Rep K Z S H (.int i) (.int i)
  | str (x : Str) : Rep K Z S H (.str x) (.str x)
  | tup {a : Addr} {vs : List V} {ws : List Cv} : Rd H a (.tup vs) → S a = none → Reps K Z S H ws vs → Rep K Z S H (.tup ws) (.ref a)
  | tupK {a : Addr} {vs : List V} {ws : List Cv} : (∀ H' : Hp, SqT K H' a vs) → Reps K Z S H ws vs → Rep K Z S H (.tup ws) (.ref a)
  | lst {a : Addr} {vs : List V} {ws : List Cv} : H a = some (.lst vs) → S a = none → a ∉ Z → Reps K Z S H ws vs → Rep K Z S H (.lst ws) (.ref a)
  | scr {a : Addr} {vs : List V} {ws : List Cv} {o : Obj} : H a = some (.frz o (.lst vs)) → S a = none → Reps K Z S H ws vs → Rep K Z S H (.scr ws) (.ref a)
  | scrK {a : Addr} {vs : List V} {ws : List Cv} : (∀ H' : Hp, SqL K H' a vs) → Reps K Z S H ws vs → Rep K Z S H (.scr ws) (.ref a)
  | dK {a : Addr} {kvs : List (Key × V)} {kws : List (Key × Cv)} : H a = some (.dK kvs) → S a = none → a ∉ Z → kws.map Prod.fst = kvs.map Prod.fst → Reps K Z S H (kws.map Prod.snd) (kvs.map Prod.snd) → Rep K Z S H (.dK kws) (.ref a)
  | dT {a : Addr} {kvs : List (List Key × V)} {kws : List (List Key × Cv)} : H a = some (.dT kvs) → S a = none → a ∉ Z → kws.map Prod.fst = kvs.map Prod.fst → Reps K Z S H (kws.map Prod.snd) (kvs.map Prod.snd) → Rep K Z S H (.dT kws) (.ref a)
  | ref (a : Addr) : Rep K Z S H (.ref a) (.ref a)
  | opq (v : V) : Rep K Z S H (.opq v) v
inductive Reps (K : Fg) (Z : List Addr) (S : Sto) (H : Hp) : List Cv → List V → Prop
  | nil : Reps K Z S H [] []
  | cons {w : Cv} {v : V} {ws : List Cv} {vs : List V} : Rep K Z S H w v → Reps K Z S H ws vs → Reps K Z S H (w :: ws) (v :: vs)
end

def RepOb (K : Fg) (Z : List Addr) (S : Sto) (H : Hp) (a : Addr) : Ob → Prop
  | .lst ws => ∃ vs, H a = some (.lst vs) ∧ Reps K Z S H ws vs
  | .dK kws => ∃ kvs, H a = some (.dK kvs) ∧ kws.map Prod.fst = kvs.map Prod.fst ∧ Reps K Z S H (kws.map Prod.snd) (kvs.map Prod.snd)
  | .dT kws => ∃ kvs, H a = some (.dT kvs) ∧ kws.map Prod.fst = kvs.map Prod.fst ∧ Reps K Z S H (kws.map Prod.snd) (kvs.map Prod.snd)
  | .ins C dx fs => ∃ fvs, H a = some (.ins C dx fvs) ∧ fs.map Prod.fst = fvs.map Prod.fst ∧ Reps K Z S H (fs.map Prod.snd) (fvs.map Prod.snd)

/-- no tuple, nothing locked -/
def plainO : HO → Bool
  | .tup _ => false
  | .frz _ _ => false
  | _ => true
/-- the owned objects stand so -/
structure StOk (K : Fg) (Z : List Addr) (S : Sto) (H : Hp) : Prop where
  ob : ∀ a o, S a = some o → RepOb K Z S H a o
  hid : ∀ a, a ∈ Z → S a = none ∧ ∃ u, H a = some u ∧ plainO u = true
/-- what is not owned is kept, and not taken; what is tracked stays tracked -/
structure Fr (S : Sto) (H : Hp) (S' : Sto) (H' : Hp) : Prop where
  keep : ∀ a o, H a = some o → S a = none → H' a = some o ∧ S' a = none
  dom : ∀ a, H' a = none → H a = none

theorem Fr.refl (S : Sto) (H : Hp) : Fr S H S H := ⟨fun _ _ h n => ⟨h, n⟩, fun _ h => h⟩
theorem Fr.trans {S S1 S2 : Sto} {H H1 H2 : Hp} (a : Fr S H S1 H1) (b : Fr S1 H1 S2 H2) : Fr S H S2 H2 :=
  ⟨fun p o h n => let ⟨h1, n1⟩ := a.keep p o h n; b.keep p o h1 n1, fun p h => a.dom p (b.dom p h)⟩
theorem dom_upd {H : Hp} {p : Addr} {o : HO} : ∀ a, upd H p o a = none → H a = none := fun a h => by
  by_cases e : a = p
  · rw [e, upd_same] at h; cases h
  · rwa [upd_ne e] at h
/-- a new object, tracked and not owned -/
theorem Fr.new {S : Sto} {H : Hp} {p : Addr} {o : HO} (h : H p = none) : Fr S H S (upd H p o) :=
  ⟨fun a u e n => ⟨by rw [upd_ne (ne_of_none e h)]; exact e, n⟩, dom_upd⟩
/-- a new object, owned -/
theorem Fr.own {S : Sto} {H : Hp} {p : Addr} {o : HO} {u : Ob} (h : H p = none) : Fr S H (S.set p u) (upd H p o) :=
  ⟨fun a x e n => by
    have np := ne_of_none e h
    exact ⟨by rw [upd_ne np]; exact e, by rw [Sto.set_ne np]; exact n⟩, dom_upd⟩
/-- an owned object is written -/
theorem Fr.wr {S : Sto} {H : Hp} {p : Addr} {o : HO} {u u' : Ob} (h : S p = some u') : Fr S H (S.set p u) (upd H p o) :=
  ⟨fun a x e n => by
    have np : a ≠ p := fun z => by subst z; rw [h] at n; cases n
    exact ⟨by rw [upd_ne np]; exact e, by rw [Sto.set_ne np]; exact n⟩, dom_upd⟩

/-- the same, but for what is hidden -/
structure FrZ (Z : List Addr) (S : Sto) (H : Hp) (S' : Sto) (H' : Hp) : Prop where
  keep : ∀ a o, a ∉ Z → H a = some o → S a = none → H' a = some o ∧ S' a = none
  dom : ∀ a, H' a = none → H a = none
theorem Fr.z {S S' : Sto} {H H' : Hp} (f : Fr S H S' H') (Z : List Addr) : FrZ Z S H S' H' := ⟨fun a o _ h n => f.keep a o h n, f.dom⟩
theorem FrZ.trans {Z : List Addr} {S S1 S2 : Sto} {H H1 H2 : Hp} (a : FrZ Z S H S1 H1) (b : FrZ Z S1 H1 S2 H2) : FrZ Z S H S2 H2 :=
  ⟨fun p o z h n => let ⟨h1, n1⟩ := a.keep p o z h n; b.keep p o z h1 n1, fun p h => a.dom p (b.dom p h)⟩
theorem FrZ.chg {Z : List Addr} {S : Sto} {H : Hp} {D : Addr} {o : HO} (hD : D ∈ Z) : FrZ Z S H S (upd H D o) :=
  ⟨fun a u z e n => ⟨by rw [upd_ne (fun q => z (by rw [q]; exact hD))]; exact e, n⟩, dom_upd⟩
theorem Rd.fr {S S' : Sto} {H H' : Hp} {a : Addr} {u : HO} (f : Fr S H S' H') (h : Rd H a u) (n : S a = none) : Rd H' a u ∧ S' a = none := by
  rcases h with h | ⟨o, h⟩
  · exact ⟨.inl (f.keep _ _ h n).1, (f.keep _ _ h n).2⟩
  · exact ⟨.inr ⟨o, (f.keep _ _ h n).1⟩, (f.keep _ _ h n).2⟩

section
variable {K : Fg} {Z : List Addr} {S S' : Sto} {H H' : Hp}
mutual
theorem Rep.fr (f : Fr S H S' H') : ∀ {w : Cv} {v : V}, Rep K Z S H w v → Rep K Z S' H' w v
  | _, _, .non => .non
  | _, _, .bl b => .bl b
  | _, _, .int i => .int i
  | _, _, .str x => .str x
  | _, _, .tup h n r => .tup (Rd.fr f h n).1 (Rd.fr f h n).2 (Reps.fr f r)
  | _, _, .tupK h r => .tupK h (Reps.fr f r)
  | _, _, .lst h n z r => .lst (f.keep _ _ h n).1 (f.keep _ _ h n).2 z (Reps.fr f r)
  | _, _, .scr h n r => .scr (f.keep _ _ h n).1 (f.keep _ _ h n).2 (Reps.fr f r)
  | _, _, .scrK h r => .scrK h (Reps.fr f r)
  | _, _, .dK h n z e r => .dK (f.keep _ _ h n).1 (f.keep _ _ h n).2 z e (Reps.fr f r)
  | _, _, .dT h n z e r => .dT (f.keep _ _ h n).1 (f.keep _ _ h n).2 z e (Reps.fr f r)
  | _, _, .ref a => .ref a
  | _, _, .opq v => .opq v
theorem Reps.fr (f : Fr S H S' H') : ∀ {ws : List Cv} {vs : List V}, Reps K Z S H ws vs → Reps K Z S' H' ws vs
  | _, _, .nil => .nil
  | _, _, .cons a r => .cons (Rep.fr f a) (Reps.fr f r)
end
theorem Reps.length : ∀ {ws : List Cv} {vs : List V}, Reps K Z S H ws vs → ws.length = vs.length
  | _, _, .nil => rfl
  | _, _, .cons _ r => by simp [Reps.length r]
theorem Reps.get : ∀ {ws : List Cv} {vs : List V} {i : Nat} {w : Cv}, Reps K Z S H ws vs → ws[i]? = some w → ∃ v, vs[i]? = some v ∧ Rep K Z S H w v
  | _, _, _, _, .nil, h => by simp at h
  | _, _, 0, _, .cons a _, h => by simp at h; subst h; exact ⟨_, rfl, a⟩
  | _, _, i + 1, w, .cons _ r, h => by
    obtain ⟨v, h1, h2⟩ := Reps.get (i := i) (w := w) r (by simpa using h)
    exact ⟨v, by simpa using h1, h2⟩
theorem Reps.getV : ∀ {ws : List Cv} {vs : List V} {i : Nat} {v : V}, Reps K Z S H ws vs → vs[i]? = some v → ∃ w, ws[i]? = some w ∧ Rep K Z S H w v
  | _, _, _, _, .nil, h => by simp at h
  | _, _, 0, _, .cons a _, h => by simp at h; subst h; exact ⟨_, rfl, a⟩
  | _, _, i + 1, w, .cons _ r, h => by
    obtain ⟨v, h1, h2⟩ := Reps.getV (i := i) (v := w) r (by simpa using h)
    exact ⟨v, by simpa using h1, h2⟩
theorem Reps.app : ∀ {ws us : List Cv} {vs xs : List V}, Reps K Z S H ws vs → Reps K Z S H us xs → Reps K Z S H (ws ++ us) (vs ++ xs)
  | _, _, _, _, .nil, s => s
  | _, _, _, _, .cons a r, s => .cons a (Reps.app r s)
theorem Reps.one {w : Cv} {v : V} (h : Rep K Z S H w v) : Reps K Z S H [w] [v] := .cons h .nil
theorem Reps.split : ∀ {us ws : List Cv} {vs : List V}, Reps K Z S H (us ++ ws) vs → ∃ xs ys, vs = xs ++ ys ∧ Reps K Z S H us xs ∧ Reps K Z S H ws ys
  | [], _, vs, r => ⟨[], vs, rfl, .nil, r⟩
  | _ :: us, ws, _, .cons a r => by
    obtain ⟨xs, ys, rfl, h1, h2⟩ := Reps.split (us := us) (ws := ws) r
    exact ⟨_ :: xs, ys, rfl, .cons a h1, h2⟩
theorem Reps.take : ∀ {ws : List Cv} {vs : List V} (n : Nat), Reps K Z S H ws vs → Reps K Z S H (ws.take n) (vs.take n)
  | _, _, 0, _ => .nil
  | _, _, _ + 1, .nil => .nil
  | _, _, n + 1, .cons a r => .cons a (Reps.take n r)
theorem Reps.drop : ∀ {ws : List Cv} {vs : List V} (n : Nat), Reps K Z S H ws vs → Reps K Z S H (ws.drop n) (vs.drop n)
  | _, _, 0, r => r
  | _, _, _ + 1, .nil => .nil
  | _, _, n + 1, .cons _ r => Reps.drop n r
theorem Reps.set {w : Cv} {v : V} (h : Rep K Z S H w v) : ∀ {ws : List Cv} {vs : List V} (n : Nat), Reps K Z S H ws vs → Reps K Z S H (ws.set n w) (vs.set n v)
  | _, _, _, .nil => .nil
  | _, _, 0, .cons _ r => .cons h r
  | _, _, n + 1, .cons a r => .cons a (Reps.set h n r)
theorem Reps.rev {ws : List Cv} {vs : List V} (r : Reps K Z S H ws vs) : Reps K Z S H ws.reverse vs.reverse := by
  induction ws generalizing vs with
  | nil => cases r; exact .nil
  | cons w ws ih =>
    cases r with
    | cons a r => rw [List.reverse_cons, List.reverse_cons]; exact (ih r).app (.one a)
theorem RepOb.fr {a : Addr} {o : Ob} (f : Fr S H S' H') (e : H' a = H a) (h : RepOb K Z S H a o) : RepOb K Z S' H' a o := by
  cases o with
  | lst ws => obtain ⟨vs, h1, h2⟩ := h; exact ⟨vs, e.trans h1, h2.fr f⟩
  | dK ws => obtain ⟨vs, h1, h3, h2⟩ := h; exact ⟨vs, e.trans h1, h3, h2.fr f⟩
  | dT ws => obtain ⟨vs, h1, h3, h2⟩ := h; exact ⟨vs, e.trans h1, h3, h2.fr f⟩
  | ins C dx fs => obtain ⟨vs, h1, h3, h2⟩ := h; exact ⟨vs, e.trans h1, h3, h2.fr f⟩
theorem RepOb.there {a : Addr} {o : Ob} (h : RepOb K Z S H a o) : ∃ u, H a = some u := by
  cases o with
  | lst ws => obtain ⟨vs, h1, h2⟩ := h; exact ⟨_, h1⟩
  | dK ws => obtain ⟨vs, h1, h3, h2⟩ := h; exact ⟨_, h1⟩
  | dT ws => obtain ⟨vs, h1, h3, h2⟩ := h; exact ⟨_, h1⟩
  | ins C dx fs => obtain ⟨vs, h1, h3, h2⟩ := h; exact ⟨_, h1⟩
theorem StOk.free (ok : StOk K Z S H) {p : Addr} (h : H p = none) : S p = none := by
  cases e : S p with
  | none => rfl
  | some o => obtain ⟨u, hu⟩ := (ok.ob p o e).there; rw [h] at hu; cases hu
theorem StOk.notZ (ok : StOk K Z S H) {p : Addr} (h : H p = none) : p ∉ Z := fun z => by
  obtain ⟨_, u, e, _⟩ := ok.hid p z
  rw [h] at e; cases e
/-- a new object, not owned -/
theorem StOk.new (ok : StOk K Z S H) {p : Addr} {o : HO} (h : H p = none) : StOk K Z S (upd H p o) where
  ob := fun a u e => (ok.ob a u e).fr (Fr.new h) (upd_ne (fun z => by subst z; rw [ok.free h] at e; cases e))
  hid := fun a z => by
    obtain ⟨n, u, e, p⟩ := ok.hid a z
    exact ⟨n, u, by rw [upd_ne (ne_of_none e h)]; exact e, p⟩
/-- a new object, owned -/
theorem StOk.own (ok : StOk K Z S H) {p : Addr} {o : HO} {u : Ob} (h : H p = none) (r : RepOb K Z (S.set p u) (upd H p o) p u) : StOk K Z (S.set p u) (upd H p o) where
  ob := fun a x e => by
    by_cases np : a = p
    · subst np; rw [Sto.set_same] at e; cases e; exact r
    · rw [Sto.set_ne np] at e
      exact (ok.ob a x e).fr (Fr.own h) (upd_ne np)
  hid := fun a z => by
    obtain ⟨n, u, e, p⟩ := ok.hid a z
    have np := ne_of_none e h
    exact ⟨by rw [Sto.set_ne np]; exact n, u, by rw [upd_ne np]; exact e, p⟩
/-- an owned object is written -/
theorem StOk.wr (ok : StOk K Z S H) {p : Addr} {o : HO} {u u' : Ob} (h : S p = some u') (r : RepOb K Z (S.set p u) (upd H p o) p u) : StOk K Z (S.set p u) (upd H p o) where
  ob := fun a x e => by
    by_cases np : a = p
    · subst np; rw [Sto.set_same] at e; cases e; exact r
    · rw [Sto.set_ne np] at e
      exact (ok.ob a x e).fr (Fr.wr h) (upd_ne np)
  hid := fun a z => by
    obtain ⟨n, x, e, q⟩ := ok.hid a z
    have np : a ≠ p := fun q => by subst q; rw [h] at n; cases n
    exact ⟨by rw [Sto.set_ne np]; exact n, x, by rw [upd_ne np]; exact e, q⟩
/-! what is hidden may change, nobody sees it -/
mutual
theorem Rep.hid {D : Addr} {l l' : List V} (hD : D ∈ Z) (hl : H D = some (.lst l)) : ∀ {w : Cv} {v : V}, Rep K Z S H w v → Rep K Z S (upd H D (.lst l')) w v
  | _, _, .non => .non
  | _, _, .bl b => .bl b
  | _, _, .int i => .int i
  | _, _, .str x => .str x
  | _, _, .tup h n r => .tup (by
      rcases h with h | ⟨o, h⟩
      · exact .inl (by rw [upd_ne (ne_of h hl (by intro z; cases z))]; exact h)
      · exact .inr ⟨o, by rw [upd_ne (ne_of h hl (by intro z; cases z))]; exact h⟩) n (Reps.hid hD hl r)
  | _, _, .tupK h r => .tupK h (Reps.hid hD hl r)
  | _, _, .lst h n z r => .lst (by rw [upd_ne (fun q => z (by rw [q]; exact hD))]; exact h) n z (Reps.hid hD hl r)
  | _, _, .scr h n r => .scr (by rw [upd_ne (ne_of h hl (by intro z; cases z))]; exact h) n (Reps.hid hD hl r)
  | _, _, .scrK h r => .scrK h (Reps.hid hD hl r)
  | _, _, .dK h n z e r => .dK (by rw [upd_ne (fun q => z (by rw [q]; exact hD))]; exact h) n z e (Reps.hid hD hl r)
  | _, _, .dT h n z e r => .dT (by rw [upd_ne (fun q => z (by rw [q]; exact hD))]; exact h) n z e (Reps.hid hD hl r)
  | _, _, .ref a => .ref a
  | _, _, .opq v => .opq v
theorem Reps.hid {D : Addr} {l l' : List V} (hD : D ∈ Z) (hl : H D = some (.lst l)) : ∀ {ws : List Cv} {vs : List V}, Reps K Z S H ws vs → Reps K Z S (upd H D (.lst l')) ws vs
  | _, _, .nil => .nil
  | _, _, .cons a r => .cons (Rep.hid hD hl a) (Reps.hid hD hl r)
end
theorem RepOb.hid {D a : Addr} {l l' : List V} {o : Ob} (hD : D ∈ Z) (hl : H D = some (.lst l)) (na : a ≠ D) (h : RepOb K Z S H a o) : RepOb K Z S (upd H D (.lst l')) a o := by
  cases o with
  | lst ws => obtain ⟨vs, h1, h2⟩ := h; exact ⟨vs, by rw [upd_ne na]; exact h1, h2.hid hD hl⟩
  | dK ws => obtain ⟨vs, h1, h3, h2⟩ := h; exact ⟨vs, by rw [upd_ne na]; exact h1, h3, h2.hid hD hl⟩
  | dT ws => obtain ⟨vs, h1, h3, h2⟩ := h; exact ⟨vs, by rw [upd_ne na]; exact h1, h3, h2.hid hD hl⟩
  | ins C dx fs => obtain ⟨vs, h1, h3, h2⟩ := h; exact ⟨vs, by rw [upd_ne na]; exact h1, h3, h2.hid hD hl⟩
theorem StOk.chg {D : Addr} {l l' : List V} (hD : D ∈ Z) (hl : H D = some (.lst l)) (ok : StOk K Z S H) : StOk K Z S (upd H D (.lst l')) where
  ob := fun a o e => (ok.ob a o e).hid hD hl (fun q => by subst q; rw [(ok.hid _ hD).1] at e; cases e)
  hid := fun a z => by
    by_cases q : a = D
    · subst q; exact ⟨(ok.hid _ z).1, _, upd_same, rfl⟩
    · rw [upd_ne q]; exact ok.hid a z
/-! less is hidden -/
mutual
theorem Rep.sub {Z' : List Addr} (hz : ∀ a, a ∈ Z' → a ∈ Z) : ∀ {w : Cv} {v : V}, Rep K Z S H w v → Rep K Z' S H w v
  | _, _, .non => .non
  | _, _, .bl b => .bl b
  | _, _, .int i => .int i
  | _, _, .str x => .str x
  | _, _, .tup h n r => .tup h n (Reps.sub hz r)
  | _, _, .tupK h r => .tupK h (Reps.sub hz r)
  | _, _, .lst h n z r => .lst h n (fun q => z (hz _ q)) (Reps.sub hz r)
  | _, _, .scr h n r => .scr h n (Reps.sub hz r)
  | _, _, .scrK h r => .scrK h (Reps.sub hz r)
  | _, _, .dK h n z e r => .dK h n (fun q => z (hz _ q)) e (Reps.sub hz r)
  | _, _, .dT h n z e r => .dT h n (fun q => z (hz _ q)) e (Reps.sub hz r)
  | _, _, .ref a => .ref a
  | _, _, .opq v => .opq v
theorem Reps.sub {Z' : List Addr} (hz : ∀ a, a ∈ Z' → a ∈ Z) : ∀ {ws : List Cv} {vs : List V}, Reps K Z S H ws vs → Reps K Z' S H ws vs
  | _, _, .nil => .nil
  | _, _, .cons a r => .cons (Rep.sub hz a) (Reps.sub hz r)
end
theorem RepOb.sub {Z' : List Addr} (hz : ∀ a, a ∈ Z' → a ∈ Z) {a : Addr} {o : Ob} (h : RepOb K Z S H a o) : RepOb K Z' S H a o := by
  cases o with
  | lst ws => obtain ⟨vs, h1, h2⟩ := h; exact ⟨vs, h1, h2.sub hz⟩
  | dK ws => obtain ⟨vs, h1, h3, h2⟩ := h; exact ⟨vs, h1, h3, h2.sub hz⟩
  | dT ws => obtain ⟨vs, h1, h3, h2⟩ := h; exact ⟨vs, h1, h3, h2.sub hz⟩
  | ins C dx fs => obtain ⟨vs, h1, h3, h2⟩ := h; exact ⟨vs, h1, h3, h2.sub hz⟩
theorem StOk.sub {Z' : List Addr} (hz : ∀ a, a ∈ Z' → a ∈ Z) (ok : StOk K Z S H) : StOk K Z' S H :=
  ⟨fun a o e => (ok.ob a o e).sub hz, fun a z => ok.hid a (hz a z)⟩
/-! a new list, to be filled unseen -/
mutual
theorem Rep.more {D : Addr} (hD : H D = none) : ∀ {w : Cv} {v : V}, Rep K Z S H w v → Rep K (D :: Z) S H w v
  | _, _, .non => .non
  | _, _, .bl b => .bl b
  | _, _, .int i => .int i
  | _, _, .str x => .str x
  | _, _, .tup h n r => .tup h n (Reps.more hD r)
  | _, _, .tupK h r => .tupK h (Reps.more hD r)
  | _, _, .lst h n z r => .lst h n (fun q => (List.mem_cons.mp q).elim (ne_of_none h hD) z) (Reps.more hD r)
  | _, _, .scr h n r => .scr h n (Reps.more hD r)
  | _, _, .scrK h r => .scrK h (Reps.more hD r)
  | _, _, .dK h n z e r => .dK h n (fun q => (List.mem_cons.mp q).elim (ne_of_none h hD) z) e (Reps.more hD r)
  | _, _, .dT h n z e r => .dT h n (fun q => (List.mem_cons.mp q).elim (ne_of_none h hD) z) e (Reps.more hD r)
  | _, _, .ref a => .ref a
  | _, _, .opq v => .opq v
theorem Reps.more {D : Addr} (hD : H D = none) : ∀ {ws : List Cv} {vs : List V}, Reps K Z S H ws vs → Reps K (D :: Z) S H ws vs
  | _, _, .nil => .nil
  | _, _, .cons a r => .cons (Rep.more hD a) (Reps.more hD r)
end
theorem Rep.newD {D : Addr} (hD : H D = none) {o : HO} {w : Cv} {v : V} (r : Rep K Z S H w v) : Rep K (D :: Z) S (upd H D o) w v := (r.more hD).fr (Fr.new hD)
theorem Reps.newD {D : Addr} (hD : H D = none) {o : HO} {w : List Cv} {v : List V} (r : Reps K Z S H w v) : Reps K (D :: Z) S (upd H D o) w v := (r.more hD).fr (Fr.new hD)
theorem RepOb.more {D a : Addr} (hD : H D = none) {o : Ob} (h : RepOb K Z S H a o) : RepOb K (D :: Z) S H a o := by
  cases o with
  | lst ws => obtain ⟨vs, h1, h2⟩ := h; exact ⟨vs, h1, h2.more hD⟩
  | dK ws => obtain ⟨vs, h1, h3, h2⟩ := h; exact ⟨vs, h1, h3, h2.more hD⟩
  | dT ws => obtain ⟨vs, h1, h3, h2⟩ := h; exact ⟨vs, h1, h3, h2.more hD⟩
  | ins C dx fs => obtain ⟨vs, h1, h3, h2⟩ := h; exact ⟨vs, h1, h3, h2.more hD⟩
theorem StOk.newD {D : Addr} (hD : H D = none) {o : HO} (ok : StOk K Z S H) (po : plainO o = true := by rfl) : StOk K (D :: Z) S (upd H D o) where
  ob := fun a u e => ((ok.ob a u e).more hD).fr (Fr.new hD) (upd_ne (fun z => by subst z; rw [ok.free hD] at e; cases e))
  hid := fun a z => by
    rcases List.mem_cons.mp z with q | z
    · subst q; exact ⟨ok.free hD, _, upd_same, po⟩
    · obtain ⟨n, u, e, p⟩ := ok.hid a z
      exact ⟨n, u, by rw [upd_ne (ne_of_none e hD)]; exact e, p⟩
/-! what was hidden becomes an owned list -/
mutual
theorem Rep.toOwn {D : Addr} {l : List V} {o : Ob} {Z' : List Addr} (hD : D ∈ Z) (hl : H D = some (.lst l)) (hz : ∀ a, a ∈ Z' → a ∈ Z) : ∀ {w : Cv} {v : V}, Rep K Z S H w v → Rep K Z' (S.set D o) H w v
  | _, _, .non => .non
  | _, _, .bl b => .bl b
  | _, _, .int i => .int i
  | _, _, .str x => .str x
  | _, _, .tup h n r => .tup h (by
      rw [Sto.set_ne]
      · exact n
      · intro e
        subst e
        rcases h with h | ⟨o, h⟩ <;> (rw [hl] at h; cases h)) (Reps.toOwn hD hl hz r)
  | _, _, .tupK h r => .tupK h (Reps.toOwn hD hl hz r)
  | _, _, .lst h n z r => .lst h (by rw [Sto.set_ne (fun q => z (by rw [q]; exact hD))]; exact n) (fun q => z (hz _ q)) (Reps.toOwn hD hl hz r)
  | _, _, .scr h n r => .scr h (by
      rw [Sto.set_ne]
      · exact n
      · intro e
        subst e
        rw [hl] at h; cases h) (Reps.toOwn hD hl hz r)
  | _, _, .scrK h r => .scrK h (Reps.toOwn hD hl hz r)
  | _, _, .dK h n z e r => .dK h (by rw [Sto.set_ne (fun q => z (by rw [q]; exact hD))]; exact n) (fun q => z (hz _ q)) e (Reps.toOwn hD hl hz r)
  | _, _, .dT h n z e r => .dT h (by rw [Sto.set_ne (fun q => z (by rw [q]; exact hD))]; exact n) (fun q => z (hz _ q)) e (Reps.toOwn hD hl hz r)
  | _, _, .ref a => .ref a
  | _, _, .opq v => .opq v
theorem Reps.toOwn {D : Addr} {l : List V} {o : Ob} {Z' : List Addr} (hD : D ∈ Z) (hl : H D = some (.lst l)) (hz : ∀ a, a ∈ Z' → a ∈ Z) : ∀ {ws : List Cv} {vs : List V}, Reps K Z S H ws vs → Reps K Z' (S.set D o) H ws vs
  | _, _, .nil => .nil
  | _, _, .cons a r => .cons (Rep.toOwn hD hl hz a) (Reps.toOwn hD hl hz r)
end
theorem RepOb.toOwn {D a : Addr} {l : List V} {o u : Ob} {Z' : List Addr} (hD : D ∈ Z) (hl : H D = some (.lst l)) (hz : ∀ a, a ∈ Z' → a ∈ Z) (h : RepOb K Z S H a u) : RepOb K Z' (S.set D o) H a u := by
  cases u with
  | lst ws => obtain ⟨vs, h1, h2⟩ := h; exact ⟨vs, h1, h2.toOwn hD hl hz⟩
  | dK ws => obtain ⟨vs, h1, h3, h2⟩ := h; exact ⟨vs, h1, h3, h2.toOwn hD hl hz⟩
  | dT ws => obtain ⟨vs, h1, h3, h2⟩ := h; exact ⟨vs, h1, h3, h2.toOwn hD hl hz⟩
  | ins C dx fs => obtain ⟨vs, h1, h3, h2⟩ := h; exact ⟨vs, h1, h3, h2.toOwn hD hl hz⟩
theorem StOk.toOwn {D : Addr} {l : List V} {ws : List Cv} (nZ : D ∉ Z) (ok : StOk K (D :: Z) S H) (hl : H D = some (.lst l)) (r : Reps K (D :: Z) S H ws l) : StOk K Z (S.set D (.lst ws)) H where
  ob := fun a u e => by
    by_cases q : a = D
    · subst q
      rw [Sto.set_same] at e
      cases e
      exact ⟨l, hl, r.toOwn List.mem_cons_self hl fun _ z => List.mem_cons_of_mem _ z⟩
    · rw [Sto.set_ne q] at e
      exact (ok.ob a u e).toOwn List.mem_cons_self hl fun _ z => List.mem_cons_of_mem _ z
  hid := fun a z => by
    obtain ⟨n, u⟩ := ok.hid a (List.mem_cons_of_mem _ z)
    exact ⟨by rw [Sto.set_ne (fun q => nZ (by rw [← q]; exact z))]; exact n, u⟩
end

/-! ### the slots -/
abbrev Env := List (Option Cv)
def RepSt (K : Fg) (Z : List Addr) (S : Sto) (H : Hp) (σ : L2.St) (ws : CL.Env) : Prop := σ.length = ws.length ∧ ∀ (i : Nat) (w : Cv), ws[i]? = some (some w) → ∃ v, σ[i]? = some (some v) ∧ Rep K Z S H w v
theorem RepSt.fr {K : Fg} {Z : List Addr} {S S' : Sto} {H H' : Hp} {σ : L2.St} {ws : CL.Env} (h : RepSt K Z S H σ ws) (f : Fr S H S' H') : RepSt K Z S' H' σ ws :=
  ⟨h.1, fun i w e => let ⟨v, h1, h2⟩ := h.2 i w e; ⟨v, h1, h2.fr f⟩⟩
theorem RepSt.set {K : Fg} {Z : List Addr} {S : Sto} {H : Hp} {σ : L2.St} {ws : CL.Env} {i : Nat} {w : Cv} {v : V} (h : RepSt K Z S H σ ws) (r : Rep K Z S H w v) : RepSt K Z S H (σ.set i (some v)) (ws.set i (some w)) := by
  refine ⟨by rw [List.length_set, List.length_set]; exact h.1, fun j u e => ?_⟩
  by_cases hj : i = j
  · subst hj
    have hl : i < ws.length := by
      have := (List.getElem?_eq_some_iff.mp e).1
      rwa [List.length_set] at this
    rw [List.getElem?_set_self hl] at e
    cases e
    exact ⟨v, by rw [List.getElem?_set_self (by rw [h.1]; exact hl)], r⟩
  · rw [List.getElem?_set_ne hj] at e
    obtain ⟨x, h1, h2⟩ := h.2 j u e
    exact ⟨x, by rw [List.getElem?_set_ne hj]; exact h1, h2⟩

/-! ### clean readings -/
abbrev CE := CL.Env → Sto → (Cv → Sto → Prop) → Prop
abbrev CT := CL.Env → Sto → (Bool → Sto → Prop) → Prop
abbrev CA := CL.Env → Sto → (List Cv → Sto → Prop) → Prop
def MonE (t : CE) : Prop := ∀ ws S (Q Q' : Cv → Sto → Prop), (∀ w S', Q w S' → Q' w S') → t ws S Q → t ws S Q'
def MonT (t : CT) : Prop := ∀ ws S (Q Q' : Bool → Sto → Prop), (∀ w S', Q w S' → Q' w S') → t ws S Q → t ws S Q'
def MonA (t : CA) : Prop := ∀ ws S (Q Q' : List Cv → Sto → Prop), (∀ w S', Q w S' → Q' w S') → t ws S Q → t ws S Q'

def liftE (K : Fg) (t : CE) : TE := fun σ H Q => ∃ Z S ws, StOk K Z S H ∧ RepSt K Z S H σ ws ∧ t ws S fun w S' => ∀ v H', Fr S H S' H' → StOk K Z S' H' → Rep K Z S' H' w v → Q v H'
def liftT (K : Fg) (t : CT) : TT := fun σ H Q => ∃ Z S ws, StOk K Z S H ∧ RepSt K Z S H σ ws ∧ t ws S fun b S' => ∀ H', Fr S H S' H' → StOk K Z S' H' → Q b H'
def liftA (K : Fg) (t : CA) : TA := fun σ H Q => ∃ Z S ws, StOk K Z S H ∧ RepSt K Z S H σ ws ∧ t ws S fun us S' => ∀ vs H', Fr S H S' H' → StOk K Z S' H' → Reps K Z S' H' us vs → Q vs H'

structure SE (X : Cx) (e : Expr) (t : CE) : Prop where
  mono : MonE t
  ok : PE X e (liftE X.K t)
structure ST (X : Cx) (e : Expr) (t : CT) : Prop where
  mono : MonT t
  ok : PT X e (liftT X.K t)
structure SW (X : Cx) (e : Expr) (t : CT) : Prop where
  mono : MonT t
  ok : PW X e (liftT X.K t)
structure SA (X : Cx) (es : List Expr) (t : CA) : Prop where
  mono : MonA t
  ok : PA X es (liftA X.K t)

theorem _root_.L2.PE.imp {X : Cx} {e : Expr} {t t' : TE} (h : PE X e t) (f : ∀ σ H Q, t' σ H Q → t σ H Q) : PE X e t' := ⟨fun pins s σ H Q I q => h.run pins s σ H Q I (f σ H Q q)⟩
theorem _root_.L2.PT.imp {X : Cx} {e : Expr} {t t' : TT} (h : PT X e t) (f : ∀ σ H Q, t' σ H Q → t σ H Q) : PT X e t' := ⟨fun pins s σ H Q I q => h.run pins s σ H Q I (f σ H Q q)⟩
theorem _root_.L2.PW.imp {X : Cx} {e : Expr} {t t' : TT} (h : PW X e t) (f : ∀ σ H Q, t' σ H Q → t σ H Q) : PW X e t' := ⟨fun wh pins s σ H Q I q => h.run wh pins s σ H Q I (f σ H Q q)⟩
theorem _root_.L2.PA.imp {X : Cx} {es : List Expr} {t t' : TA} (h : PA X es t) (f : ∀ σ H Q, t' σ H Q → t σ H Q) : PA X es t' := ⟨fun pos pins s σ H Q I q => h.run pos pins s σ H Q I (f σ H Q q)⟩
theorem _root_.L2.PS.imp {X : Cx} {st : Stmt} {t t' : TS} (h : PS X st t) (f : ∀ D σ H, t' D σ H → t D σ H) : PS X st t' := ⟨fun pins s σ H D I q => h.run pins s σ H D I (f D σ H q)⟩
theorem _root_.L2.PSs.imp {X : Cx} {st : List Stmt} {t t' : TS} (h : PSs X st t) (f : ∀ D σ H, t' D σ H → t D σ H) : PSs X st t' := ⟨fun pins s σ H D I q => h.run pins s σ H D I (f D σ H q)⟩

section
variable {K : Fg} {Z : List Addr} {S : Sto} {H : Hp} {σ : L2.St} {ws : CL.Env}
theorem liftE_of {t : CE} {R : Cv → Sto → Prop} {Q : VK} (m : MonE t) (ok : StOk K Z S H) (re : RepSt K Z S H σ ws) (h : t ws S R)
    (f : ∀ w S' v H', Fr S H S' H' → StOk K Z S' H' → Rep K Z S' H' w v → R w S' → Q v H') : liftE K t σ H Q :=
  ⟨Z, S, ws, ok, re, m ws S _ _ (fun w S' r v H' a b c => f w S' v H' a b c r) h⟩
theorem liftT_of {t : CT} {R : Bool → Sto → Prop} {Q : Bool → Hp → Prop} (m : MonT t) (ok : StOk K Z S H) (re : RepSt K Z S H σ ws) (h : t ws S R)
    (f : ∀ b S' H', Fr S H S' H' → StOk K Z S' H' → R b S' → Q b H') : liftT K t σ H Q :=
  ⟨Z, S, ws, ok, re, m ws S _ _ (fun b S' r H' a c => f b S' H' a c r) h⟩
theorem liftA_of {t : CA} {R : List Cv → Sto → Prop} {Q : List V → Hp → Prop} (m : MonA t) (ok : StOk K Z S H) (re : RepSt K Z S H σ ws) (h : t ws S R)
    (f : ∀ us S' vs H', Fr S H S' H' → StOk K Z S' H' → Reps K Z S' H' us vs → R us S' → Q vs H') : liftA K t σ H Q :=
  ⟨Z, S, ws, ok, re, m ws S _ _ (fun us S' r vs H' a b c => f us S' vs H' a b c r) h⟩
end

/-! ### names, constants -/
def cVar (i : Nat) : CE := fun ws S Q => match ws[i]? with | some (some w) => Q w S | _ => False
def cC (w : Cv) : CE := fun _ S Q => Q w S
theorem s_var {X : Cx} {e : Expr} {i : Nat} (h : PE X e (tVar i)) : SE X e (cVar i) := by
  refine ⟨fun ws S Q Q' f h => ?_, h.imp fun σ H Q h => ?_⟩
  · unfold cVar at h ⊢
    split at h <;> first | exact f _ _ h | exact h
  · obtain ⟨Z, S, ws, ok, re, h⟩ := h
    unfold cVar at h
    split at h
    · rename_i w e1
      obtain ⟨v, h1, h2⟩ := re.2 i w e1
      exact ⟨v, h1, h v H (Fr.refl S H) ok h2⟩
    · exact h.elim
theorem s_const {X : Cx} {e : Expr} {v : V} {w : Cv} (h : PE X e (tC v)) (r : ∀ K Z S H, Rep K Z S H w v) : SE X e (cC w) := by
  refine ⟨fun ws S Q Q' f h => f _ _ h, h.imp fun σ H Q h => ?_⟩
  obtain ⟨Z, S, ws, ok, re, h⟩ := h
  exact h v H (Fr.refl S H) ok (r _ _ _ _)
section
variable {X : Cx}
theorem s_int {i j pos} : SE X (.Constant (.int i) j pos) (cC (.int i)) := s_const pe_int fun _ _ _ _ => .int i
theorem s_bl {b j pos} : SE X (.Constant (.bool b) j pos) (cC (.bl b)) := s_const pe_bl fun _ _ _ _ => .bl b
theorem s_non {j pos} : SE X (.Constant .none j pos) (cC .non) := s_const pe_non fun _ _ _ _ => .non
theorem s_str {x j pos} : SE X (.Constant (.str x) j pos) (cC (.str x)) := s_const pe_str fun _ _ _ _ => .str x
theorem sv (i : Nat) {x : Str} {pos : Pos} (hN : X.N[i]? = some x := by rfl) (hv : Vis X.env.scope x := by first | exact Or.inl rfl | exact Or.inr (Or.inl rfl) | exact Or.inr (Or.inr rfl))
    (hd : (x == ("__debug__" : Str)) = false := by decide) (hcd : (x == ("__classdict__" : Str)) = false := by decide) : SE X (.Name x pos) (cVar i) := s_var (pe_var hN hv hd hcd)
theorem s_gint {x : Str} {i : Int} {t : Tok} {pos : Pos} (hg : Gl X x) (hm : X.mg x = some (.int i t)) (hd : (x == ("__debug__" : Str)) = false := by decide) : SE X (.Name x pos) (cC (.int i)) := s_const (pe_glob (v := .int i) hg hm ⟨t, rfl⟩ hd) fun _ _ _ _ => .int i
theorem s_gstr {x z : Str} {t : Tok} {pos : Pos} (hg : Gl X x) (hm : X.mg x = some (.str z t)) (hd : (x == ("__debug__" : Str)) = false := by decide) : SE X (.Name x pos) (cC (.str z)) := s_const (pe_glob (v := .str z) hg hm ⟨t, rfl⟩ hd) fun _ _ _ _ => .str z
end

/-! ### operations on two values -/
abbrev C2 := Cv → Cv → Sto → (Cv → Sto → Prop) → Prop
def Mon2 (r : C2) : Prop := ∀ a b S (Q Q' : Cv → Sto → Prop), (∀ w S', Q w S' → Q' w S') → r a b S Q → r a b S Q'
def lift2 (K : Fg) (r : C2) : R2 := fun x y H Q => ∃ Z S a b, StOk K Z S H ∧ Rep K Z S H a x ∧ Rep K Z S H b y ∧ r a b S fun w S' => ∀ v H', Fr S H S' H' → StOk K Z S' H' → Rep K Z S' H' w v → Q v H'
structure S2 (X : Cx) (f : Value → Value → Sem Value) (r : C2) : Prop where
  mono : Mon2 r
  ok : OpR X f (lift2 X.K r)
def cOp (r : C2) (ta tb : CE) : CE := fun ws S Q => ta ws S fun a S1 => tb ws S1 fun b S2 => r a b S2 Q
section
variable {X : Cx} {a b : Expr} {ta tb : CE} {pos : Pos}
theorem cOp_mono {r : C2} (hr : Mon2 r) (ha : MonE ta) (hb : MonE tb) : MonE (cOp r ta tb) := fun ws S Q Q' f h =>
  ha _ _ _ _ (fun x S1 h1 => hb _ _ _ _ (fun y S2 h2 => hr _ _ _ _ _ f h2) h1) h
theorem cOp_ok {K : Fg} {r : C2} (hr : Mon2 r) (ha : MonE ta) (hb : MonE tb) {σ : L2.St} {H : Hp} {Q : VK} (h : liftE K (cOp r ta tb) σ H Q) : tOp (lift2 K r) (liftE K ta) (liftE K tb) σ H Q := by
  obtain ⟨Z, S, ws, ok, re, h⟩ := h
  refine liftE_of ha ok re h fun x S1 v1 H1 f1 ok1 r1 h1 => ?_
  refine liftE_of hb ok1 (re.fr f1) h1 fun y S2 v2 H2 f2 ok2 r2 h2 => ?_
  exact ⟨Z, S2, x, y, ok2, r1.fr f2, r2, hr _ _ _ _ _ (fun w S' g v H' a b c => g v H' ((f1.trans f2).trans a) b c) h2⟩
theorem s_op {op : Operator} {r : C2} (ho : S2 X (binaryOp op) r) (ha : SE X a ta) (hb : SE X b tb) : SE X (.BinOp a op b pos) (cOp r ta tb) :=
  ⟨cOp_mono ho.mono ha.mono hb.mono, (pe_op ho.ok ha.ok hb.ok).imp fun _ _ _ h => cOp_ok ho.mono ha.mono hb.mono h⟩
theorem s_cmp {op : CmpOp} {r : C2} (ho : S2 X (compareOp op) r) (ha : SE X a ta) (hb : SE X b tb) (hm : behindInMarks op b = false := by first | exact nomark _ | rfl) : SE X (.Compare a [op] [b] pos) (cOp r ta tb) :=
  ⟨cOp_mono ho.mono ha.mono hb.mono, (pe_cmpR ho.ok ha.ok hb.ok hm).imp fun _ _ _ h => cOp_ok ho.mono ha.mono hb.mono h⟩
/-- a value that is a bool, as a test -/
def cB (t : CE) : CT := fun ws S Q => t ws S fun w S' => match w with | .bl b => Q b S' | _ => False
theorem cB_mono {t : CE} (h : MonE t) : MonT (cB t) := fun ws S Q Q' f h1 => h _ _ _ _ (fun w S' g => by
  cases w <;> first | exact f _ _ g | exact g) h1
theorem cB_ok {K : Fg} {t : CE} (m : MonE t) {σ : L2.St} {H : Hp} {Q : Bool → Hp → Prop} (h : liftT K (cB t) σ H Q) : liftE K t σ H fun x H' => ∃ k, x = .bl k ∧ Q k H' := by
  obtain ⟨Z, S, ws, ok, re, h⟩ := h
  refine liftE_of m ok re h fun w S1 v1 H1 f1 ok1 r1 h1 => ?_
  cases w with
  | bl c => cases r1; exact ⟨c, rfl, h1 H1 f1 ok1⟩
  | _ => exact h1.elim
theorem st_cmp {op : CmpOp} {r : C2} (ho : S2 X (compareOp op) r) (ha : SE X a ta) (hb : SE X b tb) (hm : behindInMarks op b = false := by first | exact nomark _ | rfl) : ST X (.Compare a [op] [b] pos) (cB (cOp r ta tb)) :=
  ⟨cB_mono (cOp_mono ho.mono ha.mono hb.mono), (pt_cmpR ho.ok ha.ok hb.ok hm).imp fun σ H Q h => by
    obtain ⟨Z, S, ws, ok, re, h⟩ := h
    refine cOp_ok ho.mono ha.mono hb.mono ?_
    exact cB_ok (cOp_mono ho.mono ha.mono hb.mono) ⟨Z, S, ws, ok, re, h⟩⟩
/-- any expression whose value is a bool, as a test -/
theorem st_val {e : Expr} {t : CE} (h : SE X e t) (he : ∀ whole, isTrue e X.env whole = (do let v ← whole; standAt e.pos; holding [v] (truthy v)) := by intro _; rfl) : ST X e (cB t) :=
  ⟨cB_mono h.mono, (pt_val h.ok he).imp fun _ _ _ q => cB_ok h.mono q⟩
end

/-! ### one value -/
abbrev C1 := Cv → Sto → (Cv → Sto → Prop) → Prop
def Mon1 (r : C1) : Prop := ∀ a S (Q Q' : Cv → Sto → Prop), (∀ w S', Q w S' → Q' w S') → r a S Q → r a S Q'
def cUn (r : C1) (ta : CE) : CE := fun ws S Q => ta ws S fun a S1 => r a S1 Q
def lift1 (K : Fg) (r : C1) : V → Hp → VK → Prop := fun x H Q => ∃ Z S a, StOk K Z S H ∧ Rep K Z S H a x ∧ r a S fun w S' => ∀ v H', Fr S H S' H' → StOk K Z S' H' → Rep K Z S' H' w v → Q v H'
structure S1 (X : Cx) (f : Value → Sem Value) (r : C1) : Prop where
  mono : Mon1 r
  ok : UnR X f (lift1 X.K r)
theorem s_un {X : Cx} {op : UnaryOp} {a : Expr} {ta : CE} {r : C1} {pos : Pos} (ho : S1 X (unaryOp op) r) (ha : SE X a ta) : SE X (.UnaryOp op a pos) (cUn r ta) := by
  refine ⟨fun ws S Q Q' f h => ha.mono _ _ _ _ (fun x S1 h1 => ho.mono _ _ _ _ f h1) h, (pe_un ho.ok ha.ok).imp fun σ H Q h => ?_⟩
  obtain ⟨Z, S, ws, ok, re, h⟩ := h
  refine liftE_of ha.mono ok re h fun x S1 v1 H1 f1 ok1 r1 h1 => ?_
  exact ⟨Z, S1, x, ok1, r1, ho.mono _ _ _ _ (fun w S' g v H' a b c => g v H' (f1.trans a) b c) h1⟩

/-! ### and, or, not, if-else -/
section
variable {X : Cx} {a b c : Expr} {ta tb : CE} {tA tB : CT} {pos : Pos} {rest : List Expr}
def cAnd (t u : CT) : CT := fun ws S Q => t ws S fun b S1 => if b = true then u ws S1 Q else Q false S1
def cOr (t u : CT) : CT := fun ws S Q => t ws S fun b S1 => if b = true then Q true S1 else u ws S1 Q
def cNot (t : CT) : CT := fun ws S Q => t ws S fun b S1 => Q (!b) S1
theorem cAnd_mono {t u : CT} (ht : MonT t) (hu : MonT u) : MonT (cAnd t u) := fun ws S Q Q' f h => ht _ _ _ _ (fun b S1 h1 => by
  cases b with
  | true => exact hu _ _ _ _ f h1
  | false => exact f _ _ h1) h
theorem cOr_mono {t u : CT} (ht : MonT t) (hu : MonT u) : MonT (cOr t u) := fun ws S Q Q' f h => ht _ _ _ _ (fun b S1 h1 => by
  cases b with
  | false => exact hu _ _ _ _ f h1
  | true => exact f _ _ h1) h
theorem sw_and1 (ha : ST X a tA) : SW X (.BoolOp .And [a] pos) tA := ⟨ha.mono, pw_and1 ha.ok⟩
theorem sw_or1 (ha : ST X a tA) : SW X (.BoolOp .Or [a] pos) tA := ⟨ha.mono, pw_or1 ha.ok⟩
theorem sw_and (ha : ST X a tA) (hb : SW X (.BoolOp .And (b :: rest) pos) tB) : SW X (.BoolOp .And (a :: b :: rest) pos) (cAnd tA tB) := by
  refine ⟨cAnd_mono ha.mono hb.mono, (pw_and ha.ok hb.ok).imp fun σ H Q h => ?_⟩
  obtain ⟨Z, S, ws, ok, re, h⟩ := h
  refine liftT_of ha.mono ok re h fun k S1 H1 f1 ok1 h1 => ?_
  cases k with
  | true => exact liftT_of hb.mono ok1 (re.fr f1) h1 fun k2 S2 H2 f2 ok2 h2 => h2 H2 (f1.trans f2) ok2
  | false => exact h1 H1 f1 ok1
theorem sw_or (ha : ST X a tA) (hb : SW X (.BoolOp .Or (b :: rest) pos) tB) : SW X (.BoolOp .Or (a :: b :: rest) pos) (cOr tA tB) := by
  refine ⟨cOr_mono ha.mono hb.mono, (pw_or ha.ok hb.ok).imp fun σ H Q h => ?_⟩
  obtain ⟨Z, S, ws, ok, re, h⟩ := h
  refine liftT_of ha.mono ok re h fun k S1 H1 f1 ok1 h1 => ?_
  cases k with
  | false => exact liftT_of hb.mono ok1 (re.fr f1) h1 fun k2 S2 H2 f2 ok2 h2 => h2 H2 (f1.trans f2) ok2
  | true => exact h1 H1 f1 ok1
theorem SW.st (h : SW X a tA) : ST X a tA := ⟨h.mono, h.ok.pt⟩
theorem st_not (ha : ST X a tA) : ST X (.UnaryOp .Not a pos) (cNot tA) := by
  refine ⟨fun ws S Q Q' f h => ha.mono _ _ _ _ (fun b S1 h1 => f _ _ h1) h, (pt_not ha.ok).imp fun σ H Q h => ?_⟩
  obtain ⟨Z, S, ws, ok, re, h⟩ := h
  exact liftT_of ha.mono ok re h fun k S1 H1 f1 ok1 h1 => h1 H1 f1 ok1
/-- as values (bools) -/
def cAndV (ta tb : CE) : CE := fun ws S Q => ta ws S fun w S1 => match w with | .bl true => tb ws S1 Q | .bl false => Q (.bl false) S1 | _ => False
def cOrV (ta tb : CE) : CE := fun ws S Q => ta ws S fun w S1 => match w with | .bl false => tb ws S1 Q | .bl true => Q (.bl true) S1 | _ => False
def cNotV (ta : CE) : CE := fun ws S Q => ta ws S fun w S1 => match w with | .bl b => Q (.bl (!b)) S1 | _ => False
theorem s_one {op} (h : SE X a ta) : SE X (.BoolOp op [a] pos) ta := ⟨h.mono, pe_one h.ok⟩
theorem s_and (ha : SE X a ta) (hb : SE X (.BoolOp .And (b :: rest) pos) tb) : SE X (.BoolOp .And (a :: b :: rest) pos) (cAndV ta tb) := by
  refine ⟨fun ws S Q Q' f h => ha.mono _ _ _ _ (fun w S1 h1 => ?_) h, (pe_and ha.ok hb.ok).imp fun σ H Q h => ?_⟩
  · cases w with
    | bl k => cases k with
      | true => exact hb.mono _ _ _ _ f h1
      | false => exact f _ _ h1
    | _ => exact h1
  · obtain ⟨Z, S, ws, ok, re, h⟩ := h
    refine liftE_of ha.mono ok re h fun w S1 v1 H1 f1 ok1 r1 h1 => ?_
    cases w with
    | bl k =>
      cases r1
      refine ⟨k, rfl, ?_⟩
      cases k with
      | true => exact liftE_of hb.mono ok1 (re.fr f1) h1 fun u S2 v2 H2 f2 ok2 r2 h2 => h2 v2 H2 (f1.trans f2) ok2 r2
      | false => exact h1 _ H1 f1 ok1 (.bl false)
    | _ => exact h1.elim
theorem s_or (ha : SE X a ta) (hb : SE X (.BoolOp .Or (b :: rest) pos) tb) : SE X (.BoolOp .Or (a :: b :: rest) pos) (cOrV ta tb) := by
  refine ⟨fun ws S Q Q' f h => ha.mono _ _ _ _ (fun w S1 h1 => ?_) h, (pe_or ha.ok hb.ok).imp fun σ H Q h => ?_⟩
  · cases w with
    | bl k => cases k with
      | false => exact hb.mono _ _ _ _ f h1
      | true => exact f _ _ h1
    | _ => exact h1
  · obtain ⟨Z, S, ws, ok, re, h⟩ := h
    refine liftE_of ha.mono ok re h fun w S1 v1 H1 f1 ok1 r1 h1 => ?_
    cases w with
    | bl k =>
      cases r1
      refine ⟨k, rfl, ?_⟩
      cases k with
      | false => exact liftE_of hb.mono ok1 (re.fr f1) h1 fun u S2 v2 H2 f2 ok2 r2 h2 => h2 v2 H2 (f1.trans f2) ok2 r2
      | true => exact h1 _ H1 f1 ok1 (.bl true)
    | _ => exact h1.elim
theorem s_not (ha : SE X a ta) : SE X (.UnaryOp .Not a pos) (cNotV ta) := by
  refine ⟨fun ws S Q Q' f h => ha.mono _ _ _ _ (fun w S1 h1 => ?_) h, (pe_not ha.ok).imp fun σ H Q h => ?_⟩
  · cases w with
    | bl k => exact f _ _ h1
    | _ => exact h1
  · obtain ⟨Z, S, ws, ok, re, h⟩ := h
    refine liftE_of ha.mono ok re h fun w S1 v1 H1 f1 ok1 r1 h1 => ?_
    cases w with
    | bl k => cases r1; exact ⟨k, rfl, h1 _ H1 f1 ok1 (.bl _)⟩
    | _ => exact h1.elim
def cIf (t : CT) (ta tb : CE) : CE := fun ws S Q => t ws S fun b S1 => if b = true then ta ws S1 Q else tb ws S1 Q
theorem s_ifExp (hc : ST X c tA) (ha : SE X a ta) (hb : SE X b tb) : SE X (.IfExp c a b pos) (cIf tA ta tb) := by
  refine ⟨fun ws S Q Q' f h => hc.mono _ _ _ _ (fun k S1 h1 => ?_) h, (pe_ifExp hc.ok ha.ok hb.ok).imp fun σ H Q h => ?_⟩
  · cases k with
    | true => exact ha.mono _ _ _ _ f h1
    | false => exact hb.mono _ _ _ _ f h1
  · obtain ⟨Z, S, ws, ok, re, h⟩ := h
    refine liftT_of hc.mono ok re h fun k S1 H1 f1 ok1 h1 => ?_
    cases k with
    | true => exact liftE_of ha.mono ok1 (re.fr f1) h1 fun u S2 v2 H2 f2 ok2 r2 h2 => h2 v2 H2 (f1.trans f2) ok2 r2
    | false => exact liftE_of hb.mono ok1 (re.fr f1) h1 fun u S2 v2 H2 f2 ok2 r2 h2 => h2 v2 H2 (f1.trans f2) ok2 r2
end

/-! ### argument lists, displays -/
def cNil : CA := fun _ S Q => Q [] S
def cCons (t : CE) (u : CA) : CA := fun ws S Q => t ws S fun w S1 => u ws S1 fun r S2 => Q (w :: r) S2
section
variable {X : Cx} {e : Expr} {es : List Expr} {t : CE} {u : CA} {pos : Pos}
theorem sa_nil : SA X [] cNil := by
  refine ⟨fun ws S Q Q' f h => f _ _ h, pa_nil.imp fun σ H Q h => ?_⟩
  obtain ⟨Z, S, ws, ok, re, h⟩ := h
  exact h [] H (Fr.refl S H) ok .nil
theorem sa_cons (he : SE X e t) (hr : SA X es u) (hs : starEach (e :: es) X.env = (false, eval e X.env) :: starEach es X.env := by rfl) : SA X (e :: es) (cCons t u) := by
  refine ⟨fun ws S Q Q' f h => he.mono _ _ _ _ (fun w S1 h1 => hr.mono _ _ _ _ (fun r S2 h2 => f _ _ h2) h1) h, (pa_cons he.ok hr.ok hs).imp fun σ H Q h => ?_⟩
  obtain ⟨Z, S, ws, ok, re, h⟩ := h
  refine liftE_of he.mono ok re h fun w S1 v1 H1 f1 ok1 r1 h1 => ?_
  refine liftA_of hr.mono ok1 (re.fr f1) h1 fun us S2 vs H2 f2 ok2 r2 h2 => ?_
  exact h2 (v1 :: vs) H2 (f1.trans f2) ok2 (.cons (r1.fr f2) r2)
def cTup (u : CA) : CE := fun ws S Q => u ws S fun r S1 => r.length ≤ sizeLine ∧ Q (.tup r) S1
/-- a list that nobody will write -/
def cLst (u : CA) : CE := fun ws S Q => u ws S fun r S1 => r.length ≤ sizeLine ∧ Q (.lst r) S1
/-- a list that is owned -/
def cLstO (u : CA) : CE := fun ws S Q => u ws S fun r S1 => r.length ≤ sizeLine ∧ ∀ p, S1 p = none → Q (.ref p) (S1.set p (.lst r))
theorem s_tup {k} (h : SA X es u) : SE X (.Tuple es k pos) (cTup u) := by
  refine ⟨fun ws S Q Q' f q => h.mono _ _ _ _ (fun r S1 h1 => ⟨h1.1, f _ _ h1.2⟩) q, (pe_tup h.ok).imp fun σ H Q q => ?_⟩
  obtain ⟨Z, S, ws, ok, re, q⟩ := q
  refine liftA_of h.mono ok re q fun us S1 vs H1 f1 ok1 r1 q1 => ?_
  refine ⟨by rw [← r1.length]; exact q1.1, fun p hp => q1.2 (.ref p) _ (f1.trans (Fr.new hp)) (ok1.new hp) (.tup (.inl upd_same) (ok1.free hp) (r1.fr (Fr.new hp)))⟩
theorem s_lst (h : SA X es u) : SE X (.List es pos) (cLst u) := by
  refine ⟨fun ws S Q Q' f q => h.mono _ _ _ _ (fun r S1 h1 => ⟨h1.1, f _ _ h1.2⟩) q, (pe_lst h.ok).imp fun σ H Q q => ?_⟩
  obtain ⟨Z, S, ws, ok, re, q⟩ := q
  refine liftA_of h.mono ok re q fun us S1 vs H1 f1 ok1 r1 q1 => ?_
  refine ⟨by rw [← r1.length]; exact q1.1, fun p hp => q1.2 (.ref p) _ (f1.trans (Fr.new hp)) (ok1.new hp) (.lst upd_same (ok1.free hp) (ok1.notZ hp) (r1.fr (Fr.new hp)))⟩
theorem s_lstO (h : SA X es u) : SE X (.List es pos) (cLstO u) := by
  refine ⟨fun ws S Q Q' f q => h.mono _ _ _ _ (fun r S1 h1 => ⟨h1.1, fun p hp => f _ _ (h1.2 p hp)⟩) q, (pe_lst h.ok).imp fun σ H Q q => ?_⟩
  obtain ⟨Z, S, ws, ok, re, q⟩ := q
  refine liftA_of h.mono ok re q fun us S1 vs H1 f1 ok1 r1 q1 => ?_
  refine ⟨by rw [← r1.length]; exact q1.1, fun p hp => q1.2 p (ok1.free hp) (.ref p) _ (f1.trans (Fr.own hp)) (ok1.own hp ⟨_, upd_same, r1.fr (Fr.own hp)⟩) (.ref p)⟩
end
end CL

set_option Elab.async false
set_option linter.all false
set_option maxRecDepth 100000
set_option maxHeartbeats 4000000
/-! CL2: statements, targets, loops, comprehensions -/
namespace CL
open PySem PySem.Spec PyProof.Rows L2

/-! ### statements -/
structure CEnds where
  nx : CL.Env → Sto → Prop
  rt : Cv → Sto → Prop
  bk : CL.Env → Sto → Prop := fun _ _ => False
  ct : CL.Env → Sto → Prop := fun _ _ => False
abbrev CS := CEnds → CL.Env → Sto → Prop
structure CEnds.le (D D' : CEnds) : Prop where
  nx : ∀ ws S, D.nx ws S → D'.nx ws S
  rt : ∀ w S, D.rt w S → D'.rt w S
  bk : ∀ ws S, D.bk ws S → D'.bk ws S
  ct : ∀ ws S, D.ct ws S → D'.ct ws S
theorem CEnds.le.refl (D : CEnds) : D.le D := ⟨fun _ _ h => h, fun _ _ h => h, fun _ _ h => h, fun _ _ h => h⟩
def MonS (t : CS) : Prop := ∀ D D' ws S, CEnds.le D D' → t D ws S → t D' ws S
def liftD (K : Fg) (Z : List Addr) (S : Sto) (H : Hp) (D : Ends) : CEnds where
  nx := fun ws' S' => ∀ σ' H', Fr S H S' H' → StOk K Z S' H' → RepSt K Z S' H' σ' ws' → D.nx σ' H'
  rt := fun w S' => ∀ v H', Fr S H S' H' → StOk K Z S' H' → Rep K Z S' H' w v → D.rt v H'
  bk := fun ws' S' => ∀ σ' H', Fr S H S' H' → StOk K Z S' H' → RepSt K Z S' H' σ' ws' → D.bk σ' H'
  ct := fun ws' S' => ∀ σ' H', Fr S H S' H' → StOk K Z S' H' → RepSt K Z S' H' σ' ws' → D.ct σ' H'
theorem liftD_fr {K : Fg} {Z : List Addr} {S S1 : Sto} {H H1 : Hp} {D : Ends} (f : Fr S H S1 H1) : (liftD K Z S H D).le (liftD K Z S1 H1 D) :=
  ⟨fun _ _ h σ' H' a b c => h σ' H' (f.trans a) b c, fun _ _ h σ' H' a b c => h σ' H' (f.trans a) b c, fun _ _ h σ' H' a b c => h σ' H' (f.trans a) b c, fun _ _ h σ' H' a b c => h σ' H' (f.trans a) b c⟩
def liftS (K : Fg) (t : CS) : TS := fun D σ H => ∃ Z S ws, StOk K Z S H ∧ RepSt K Z S H σ ws ∧ t (liftD K Z S H D) ws S
structure SS (X : Cx) (st : Stmt) (t : CS) : Prop where
  mono : MonS t
  ok : PS X st (liftS X.K t)
structure SSs (X : Cx) (st : List Stmt) (t : CS) : Prop where
  mono : MonS t
  ok : PSs X st (liftS X.K t)
def cNext : CS := fun D ws S => D.nx ws S
def cSeq (t u : CS) : CS := fun D ws S => t { D with nx := u D } ws S
theorem cSeq_mono {t u : CS} (ht : MonS t) (hu : MonS u) : MonS (cSeq t u) := fun D D' ws S l h =>
  ht { D with nx := u D } { D' with nx := u D' } ws S ⟨fun ws' S' q => hu _ _ _ _ l q, l.rt, l.bk, l.ct⟩ h
section
variable {X : Cx} {st : Stmt} {rest : List Stmt} {t u : CS} {e : Expr} {te : CE} {tc : CT} {pos : Pos}
theorem ss_nil : SSs X [] cNext := ⟨fun D D' ws S l h => l.nx _ _ h, pss_nil.imp fun D σ H h => by
  obtain ⟨Z, S, ws, ok, re, h⟩ := h
  exact h σ H (Fr.refl S H) ok re⟩
theorem ss_cons (h1 : SS X st t) (h2 : SSs X rest u) : SSs X (st :: rest) (cSeq t u) := ⟨cSeq_mono h1.mono h2.mono, (pss_cons h1.ok h2.ok).imp fun D σ H h => by
  obtain ⟨Z, S, ws, ok, re, h⟩ := h
  refine ⟨Z, S, ws, ok, re, h1.mono { liftD X.K Z S H D with nx := u (liftD X.K Z S H D) } _ _ _ ⟨fun ws' S' q σ' H' f ok' re' => ⟨Z, S', ws', ok', re', h2.mono _ _ _ _ (liftD_fr f) q⟩, fun _ _ q => q, fun _ _ q => q, fun _ _ q => q⟩ h⟩⟩
theorem ss_one (h : SS X st t) : SSs X [st] t := ⟨h.mono, pss_one h.ok⟩
theorem ss_pass : SS X (.Pass pos) cNext := ⟨fun D D' ws S l h => l.nx _ _ h, ps_pass.imp fun D σ H h => by
  obtain ⟨Z, S, ws, ok, re, h⟩ := h
  exact h σ H (Fr.refl S H) ok re⟩
def cDrop (te : CE) : CS := fun D ws S => te ws S fun _ S1 => D.nx ws S1
theorem ss_expr (he : SE X e te) (hs : swapsWith e none pos.line X.env = pure false := by rfl) : SS X (.Expr e pos) (cDrop te) :=
  ⟨fun D D' ws S l h => he.mono _ _ _ _ (fun _ S1 q => l.nx _ _ q) h, (ps_expr he.ok hs).imp fun D σ H h => by
    obtain ⟨Z, S, ws, ok, re, h⟩ := h
    exact liftE_of he.mono ok re h fun w S1 v H1 f1 ok1 r1 h1 => h1 σ H1 f1 ok1 (re.fr f1)⟩
def cRet (te : CE) : CS := fun D ws S => te ws S D.rt
theorem ss_ret (he : SE X e te) : SS X (.Return (some e) pos) (cRet te) :=
  ⟨fun D D' ws S l h => he.mono _ _ _ _ l.rt h, (ps_ret he.ok).imp fun D σ H h => by
    obtain ⟨Z, S, ws, ok, re, h⟩ := h
    exact liftE_of he.mono ok re h fun w S1 v H1 f1 ok1 r1 h1 => h1 v H1 f1 ok1 r1⟩
def cRetN : CS := fun D _ S => D.rt .non S
theorem ss_retN : SS X (.Return none pos) cRetN :=
  ⟨fun D D' ws S l h => l.rt _ _ h, ps_retN.imp fun D σ H h => by
    obtain ⟨Z, S, ws, ok, re, h⟩ := h
    exact h .non H (Fr.refl S H) ok .non⟩
def cIfS (c : CT) (t u : CS) : CS := fun D ws S => c ws S fun b S1 => if b = true then t D ws S1 else u D ws S1
theorem ss_if {c : Expr} {a b : List Stmt} (hc : ST X c tc) (ha : SSs X a t) (hb : SSs X b u) : SS X (.If c a b pos) (cIfS tc t u) :=
  ⟨fun D D' ws S l h => hc.mono _ _ _ _ (fun k S1 q => by
    cases k with
    | true => exact ha.mono _ _ _ _ l q
    | false => exact hb.mono _ _ _ _ l q) h, (ps_if hc.ok ha.ok hb.ok).imp fun D σ H h => by
    obtain ⟨Z, S, ws, ok, re, h⟩ := h
    refine liftT_of hc.mono ok re h fun k S1 H1 f1 ok1 h1 => ?_
    cases k with
    | true => exact ⟨Z, S1, ws, ok1, re.fr f1, ha.mono _ _ _ _ (liftD_fr f1) h1⟩
    | false => exact ⟨Z, S1, ws, ok1, re.fr f1, hb.mono _ _ _ _ (liftD_fr f1) h1⟩⟩
def cBreak : CS := fun D ws S => D.bk ws S
def cCont : CS := fun D ws S => D.ct ws S
theorem ss_break : SS X (.Break pos) cBreak := ⟨fun D D' ws S l h => l.bk _ _ h, ps_break.imp fun D σ H h => by
  obtain ⟨Z, S, ws, ok, re, h⟩ := h
  exact h σ H (Fr.refl S H) ok re⟩
theorem ss_continue : SS X (.Continue pos) cCont := ⟨fun D D' ws S l h => l.ct _ _ h, ps_continue.imp fun D σ H h => by
  obtain ⟨Z, S, ws, ok, re, h⟩ := h
  exact h σ H (Fr.refl S H) ok re⟩
end

/-! ### targets -/
abbrev CG := Cv → CL.Env → Sto → (CL.Env → Sto → Prop) → Prop
abbrev CGs := List Cv → CL.Env → Sto → (CL.Env → Sto → Prop) → Prop
def Out (is : List Nat) (σ σ' : L2.St) : Prop := σ'.length = σ.length ∧ ∀ j, j ∉ is → σ'[j]? = σ[j]?
theorem Out.refl (is : List Nat) (σ : L2.St) : Out is σ σ := ⟨rfl, fun _ _ => rfl⟩
theorem wipe_get : ∀ (τ : L2.St) (l : List Nat) (j : Nat), (L2.wipe τ l)[j]? = if j ∈ l ∧ j < τ.length then some none else τ[j]?
  | τ, [], j => by simp [L2.wipe]
  | τ, v :: l, j => by
    show ((L2.wipe τ l).set v none)[j]? = _
    by_cases e : v = j
    · subst e
      by_cases hj : v < τ.length
      · rw [List.getElem?_set_self (by rw [wipe_length]; exact hj)]
        simp [hj]
      · rw [List.getElem?_eq_none (by rw [List.length_set, wipe_length]; omega)]
        simp [hj]
    · rw [List.getElem?_set_ne e, wipe_get τ l j]
      have e2 : ¬ j = v := fun q => e q.symm
      simp [e2]
theorem Out.wipe {vs is : List Nat} (hs : ∀ i ∈ is, i ∈ vs) {σ σ' : L2.St} (h : Out is σ σ') : L2.wipe σ' vs = L2.wipe σ vs := by
  apply List.ext_getElem?
  intro j
  rw [wipe_get, wipe_get, h.1]
  by_cases m : j ∈ vs
  · by_cases hj : j < σ.length
    · simp [m, hj]
    · have n1 : σ'[j]? = none := List.getElem?_eq_none (by rw [h.1]; omega)
      have n2 : σ[j]? = none := List.getElem?_eq_none (by omega)
      simp [n1, n2]
  · simp only [m, false_and, if_false]
    exact h.2 j fun q => m (hs j q)
theorem wipe_twice (σ : L2.St) (vs : List Nat) : L2.wipe (L2.wipe σ vs) vs = L2.wipe σ vs := by
  apply List.ext_getElem?
  intro j
  rw [wipe_get, wipe_get, wipe_length]
  split <;> simp_all
def MonG (g : CG) : Prop := ∀ w ws S (Q Q' : CL.Env → Sto → Prop), (∀ a b, Q a b → Q' a b) → g w ws S Q → g w ws S Q'
def MonGs (g : CGs) : Prop := ∀ w ws S (Q Q' : CL.Env → Sto → Prop), (∀ a b, Q a b → Q' a b) → g w ws S Q → g w ws S Q'
def liftG (K : Fg) (g : CG) (is : List Nat) : TG := fun v σ H Q => ∃ Z S ws w, StOk K Z S H ∧ RepSt K Z S H σ ws ∧ Rep K Z S H w v ∧ g w ws S fun ws' S' => ∀ σ' H', Fr S H S' H' → StOk K Z S' H' → RepSt K Z S' H' σ' ws' → Out is σ σ' → Q σ' H'
def liftGs (K : Fg) (g : CGs) (is : List Nat) : TGs := fun vs σ H Q => ∃ Z S ws us, StOk K Z S H ∧ RepSt K Z S H σ ws ∧ Reps K Z S H us vs ∧ g us ws S fun ws' S' => ∀ σ' H', Fr S H S' H' → StOk K Z S' H' → RepSt K Z S' H' σ' ws' → Out is σ σ' → Q σ' H'
structure SG (X : Cx) (tg : Expr) (g : CG) (is : List Nat) : Prop where
  mono : MonG g
  ok : PG X tg (liftG X.K g is)
structure SGs (X : Cx) (tg : List Expr) (g : CGs) (is : List Nat) : Prop where
  mono : MonGs g
  ok : PGs X tg (liftGs X.K g is)
theorem _root_.L2.PG.imp {X : Cx} {tg : Expr} {t t' : TG} (h : PG X tg t) (f : ∀ v σ H Q, t' v σ H Q → t v σ H Q) : PG X tg t' := ⟨fun pins s σ H v u Q I r q => h.run pins s σ H v u Q I r (f v σ H Q q)⟩
theorem _root_.L2.PGs.imp {X : Cx} {tg : List Expr} {t t' : TGs} (h : PGs X tg t) (f : ∀ v σ H Q, t' v σ H Q → t v σ H Q) : PGs X tg t' := ⟨fun pins s σ H v u Q I r q => h.run pins s σ H v u Q I r (f v σ H Q q)⟩
def cgName (i : Nat) : CG := fun w ws S Q => Q (ws.set i (some w)) S
section
variable {X : Cx} {pos : Pos}
theorem sg_of {e : Expr} {i : Nat} (h : PG X e (gName i)) : SG X e (cgName i) [i] := ⟨fun w ws S Q Q' f h => f _ _ h, h.imp fun v σ H Q h => by
  obtain ⟨Z, S, ws, w, ok, re, r, h⟩ := h
  exact h _ H (Fr.refl S H) ok (re.set r) ⟨by rw [List.length_set], fun j hj => List.getElem?_set_ne (fun q => hj (by rw [q]; exact List.mem_singleton.mpr rfl))⟩⟩
/-- the i-th name as a target -/
theorem sg (i : Nat) {x : Str} {pos : Pos} (hN : X.N.Nodup) (hi : X.N[i]? = some x := by rfl) (hx : Loc X.env.scope x := by first | exact Or.inl rfl | exact Or.inr rfl)
    (hf : X.fn x = true ∨ X.env.scope.names.lookup x = some .local := by first | exact .inl rfl | exact .inr rfl) : SG X (.Name x pos) (cgName i) [i] := sg_of (pg_name hN hi hx hf)
def cgNil : CGs := fun us ws S Q => us = [] ∧ Q ws S
def cgCons (g : CG) (gs : CGs) : CGs := fun us ws S Q => match us with | [] => False | w :: r => g w ws S fun ws1 S1 => gs r ws1 S1 Q
theorem sgs_nil : SGs X [] cgNil [] := ⟨fun w ws S Q Q' f h => ⟨h.1, f _ _ h.2⟩, pgs_nil.imp fun v σ H Q h => by
  obtain ⟨Z, S, ws, w, ok, re, r, e, h⟩ := h
  subst e
  cases r
  exact ⟨rfl, h σ H (Fr.refl S H) ok re (Out.refl _ _)⟩⟩
theorem sgs_cons {e : Expr} {es : List Expr} {g : CG} {gs : CGs} {is js : List Nat} (h1 : SG X e g is) (h2 : SGs X es gs js) (hs : (assignEach (e :: es) X.env).map (·.2) = assign e X.env :: (assignEach es X.env).map (·.2) := by rfl) : SGs X (e :: es) (cgCons g gs) (is ++ js) := by
  refine ⟨fun us ws S Q Q' f h => ?_, (pgs_cons h1.ok h2.ok hs).imp fun vs σ H Q h => ?_⟩
  · cases us with
    | nil => exact h
    | cons w r => exact h1.mono _ _ _ _ _ (fun ws1 S1 q => h2.mono _ _ _ _ _ f q) h
  · obtain ⟨Z, S, ws, us, ok, re, r, h⟩ := h
    cases us with
    | nil => exact h.elim
    | cons w us =>
      cases r with
      | cons a r =>
        refine ⟨_, _, rfl, Z, S, ws, w, ok, re, a, h1.mono _ _ _ _ _ (fun ws1 S1 q σ1 H1 f1 ok1 re1 o1 => ?_) h⟩
        refine ⟨Z, S1, ws1, us, ok1, re1, r.fr f1, h2.mono _ _ _ _ _ (fun ws2 S2 q2 σ2 H2 f2 ok2 re2 o2 => ?_) q⟩
        exact q2 σ2 H2 (f1.trans f2) ok2 re2 ⟨o2.1.trans o1.1, fun j hj => (o2.2 j fun z => hj (List.mem_append_right _ z)).trans (o1.2 j fun z => hj (List.mem_append_left _ z))⟩
/-- a, b, .. = a tuple -/
def cgTup (n : Nat) (gs : CGs) : CG := fun w ws S Q => match w with | .tup us => us.length = n ∧ gs us ws S Q | _ => False
theorem sg_tup {es : List Expr} {k : Nat} {gs : CGs} {is : List Nat} {n : Nat} (hc : X.calm = true) (h : SGs X es gs is) (hn : (assignEach es X.env).length = n := by rfl) (hst : (assignEach es X.env).findIdx? (·.1) = none := by rfl) : SG X (.Tuple es k pos) (cgTup n gs) is := by
  refine ⟨fun w ws S Q Q' f q => ?_, (pg_tup hc h.ok hn hst).imp fun v σ H Q q => ?_⟩
  · cases w with
    | tup us => exact ⟨q.1, h.mono _ _ _ _ _ f q.2⟩
    | _ => exact q
  · obtain ⟨Z, S, ws, w, ok, re, r, q⟩ := q
    cases w with
    | tup us =>
      cases r with
      | tup hr n2 rr => exact ⟨_, _, rfl, .inl hr, by rw [← rr.length]; exact q.1, Z, S, ws, us, ok, re, rr, q.2⟩
      | tupK hr rr => exact ⟨_, _, rfl, hr H, by rw [← rr.length]; exact q.1, Z, S, ws, us, ok, re, rr, q.2⟩
    | _ => exact q.elim
def cAsg (te : CE) (g : CG) : CS := fun D ws S => te ws S fun w S1 => g w ws S1 D.nx
theorem cAsg_mono {te : CE} {g : CG} (he : MonE te) (hg : MonG g) : MonS (cAsg te g) := fun D D' ws S l h => he _ _ _ _ (fun w S1 q => hg _ _ _ _ _ l.nx q) h
theorem cAsg_ok {K : Fg} {te : CE} {g : CG} {is : List Nat} (he : MonE te) (hg : MonG g) {D : Ends} {σ : L2.St} {H : Hp} (h : liftS K (cAsg te g) D σ H) : tAsg (liftE K te) (liftG K g is) D σ H := by
  obtain ⟨Z, S, ws, ok, re, h⟩ := h
  refine liftE_of he ok re h fun w S1 v H1 f1 ok1 r1 h1 => ?_
  exact ⟨Z, S1, ws, w, ok1, re.fr f1, r1, hg _ _ _ _ _ (fun ws' S' q σ' H' f2 ok2 re2 _ => q σ' H' (f1.trans f2) ok2 re2) h1⟩
theorem ss_asg {tg e : Expr} {te : CE} {g : CG} {is : List Nat} (he : SE X e te) (hg : SG X tg g is) (hs : swapsWithSole [tg] e pos.line X.env = pure false := by rfl) (hw : swappedStores [tg] e X.env = pure none := by rfl)
    (h1 : (assignEach [tg] X.env).map (·.2) = [assign tg X.env] := by rfl) : SS X (.Assign [tg] e pos) (cAsg te g) :=
  ⟨cAsg_mono he.mono hg.mono, (ps_asg he.ok hg.ok hs hw h1).imp fun D σ H h => cAsg_ok he.mono hg.mono h⟩
theorem cAsgN_ok {K : Fg} {te : CE} {i : Nat} (he : MonE te) {D : Ends} {σ : L2.St} {H : Hp} (h : liftS K (cAsg te (cgName i)) D σ H) : tAsg (liftE K te) (gName i) D σ H := by
  obtain ⟨Z, S, ws, ok, re, h⟩ := h
  exact liftE_of he ok re h fun w S1 v H1 f1 ok1 r1 h1 => h1 _ H1 f1 ok1 ((re.fr f1).set r1)
/-- name = e -/
theorem ss_set (i : Nat) {x : Str} {e : Expr} {te : CE} {pos' : Pos} (hN : X.N.Nodup) (he : SE X e te) (hi : X.N[i]? = some x := by rfl) (hx : Loc X.env.scope x := by first | exact Or.inl rfl | exact Or.inr rfl)
    (hs : swapsWith e (some (.Name x pos')) pos.line X.env = pure false := by rfl) (hf : X.fn x = true ∨ X.env.scope.names.lookup x = some .local := by first | exact .inl rfl | exact .inr rfl) : SS X (.Assign [.Name x pos'] e pos) (cAsg te (cgName i)) :=
  ⟨cAsg_mono he.mono fun w ws S Q Q' f h => f _ _ h, (ps_set hN hi hx he.ok hs hf).imp fun D σ H h => cAsgN_ok he.mono h⟩
/-- name op= e, by values -/
structure SIp (X : Cx) (op : Operator) (r : C2) : Prop where
  mono : Mon2 r
  ok : PIp X op (lift2 X.K r)
def cAug (i : Nat) (te : CE) (r : C2) : CS := fun D ws S => match ws[i]? with | some (some x) => te ws S fun y S1 => r x y S1 fun z S2 => D.nx (ws.set i (some z)) S2 | _ => False
theorem ss_aug (i : Nat) {x : Str} {e : Expr} {te : CE} {op : Operator} {r : C2} {pos' : Pos} (hN : X.N.Nodup) (ho : SIp X op r) (he : SE X e te) (hi : X.N[i]? = some x := by rfl) (hx : Loc X.env.scope x := by first | exact Or.inl rfl | exact Or.inr rfl)
    (hf : X.fn x = true ∨ X.env.scope.names.lookup x = some .local := by first | exact .inl rfl | exact .inr rfl) : SS X (.AugAssign (.Name x pos') op e pos) (cAug i te r) := by
  refine ⟨fun D D' ws S l h => ?_, (ps_aug hN hi hx he.ok ho.ok hf).imp fun D σ H h => ?_⟩
  · unfold cAug at h ⊢
    split at h
    · exact he.mono _ _ _ _ (fun y S1 q => ho.mono _ _ _ _ _ (fun z S2 q2 => l.nx _ _ q2) q) h
    · exact h
  · obtain ⟨Z, S, ws, ok, re, h⟩ := h
    unfold cAug at h
    split at h
    · rename_i w e1
      obtain ⟨v, h1, h2⟩ := re.2 i w e1
      refine ⟨v, h1, liftE_of he.mono ok re h fun y S1 vy H1 f1 ok1 r1 q1 => ?_⟩
      refine ⟨Z, S1, w, y, ok1, h2.fr f1, r1, ho.mono _ _ _ _ _ (fun z S2 q2 vz H2 f2 ok2 r2 => ?_) q1⟩
      exact q2 _ H2 (f1.trans f2) ok2 ((re.fr (f1.trans f2)).set r2)
    · exact h.elim
end

/-! ### while -/
section
variable {X : Cx} {pos : Pos}
def cWhile (c : CT) (tb : CS) : CS := fun D ws S => ∃ I : Nat → CL.Env → Sto → Prop, (∃ m, I m ws S) ∧ ∀ m ws S, I m ws S →
  c ws S fun b S1 => if b = true then tb { D with nx := fun ws' S' => ∃ m', m' < m ∧ I m' ws' S', ct := fun ws' S' => ∃ m', m' < m ∧ I m' ws' S', bk := D.nx } ws S1 else D.nx ws S1
theorem ss_while {c : Expr} {body : List Stmt} {tc : CT} {tb : CS} (hp : PassesOwn (model X.prog X.w) X.A X.env X.xe) (hc : ST X c tc) (hb : SSs X body tb) : SS X (.While c body [] pos) (cWhile tc tb) := by
  refine ⟨fun D D' ws S l h => ?_, (ps_while hp hc.ok hb.ok).imp fun D σ H h => ?_⟩
  · obtain ⟨I, h0, h⟩ := h
    refine ⟨I, h0, fun m ws S hI => hc.mono _ _ _ _ (fun b S1 q => ?_) (h m ws S hI)⟩
    cases b with
    | true => exact hb.mono { D with nx := fun ws' S' => ∃ m', m' < m ∧ I m' ws' S', ct := fun ws' S' => ∃ m', m' < m ∧ I m' ws' S', bk := D.nx } _ _ _ ⟨fun _ _ z => z, l.rt, l.nx, fun _ _ z => z⟩ q
    | false => exact l.nx _ _ q
  · obtain ⟨Z, S, ws, ok, re, I, ⟨m0, h0⟩, h⟩ := h
    refine ⟨fun m σ' H' => ∃ S' ws', Fr S H S' H' ∧ StOk X.K Z S' H' ∧ RepSt X.K Z S' H' σ' ws' ∧ I m ws' S', ⟨m0, S, ws, Fr.refl S H, ok, re, h0⟩, ?_⟩
    rintro m σ1 H1 ⟨S1, ws1, f1, ok1, re1, i1⟩
    refine liftT_of hc.mono ok1 re1 (h m ws1 S1 i1) fun b S2 H2 f2 ok2 h2 => ?_
    cases b with
    | true =>
      refine ⟨fun σ' H' => ∃ m', m' < m ∧ ∃ S' ws', Fr S H S' H' ∧ StOk X.K Z S' H' ∧ RepSt X.K Z S' H' σ' ws' ∧ I m' ws' S', fun σ' H' ⟨m', hm, q⟩ => ⟨m', hm, q⟩, ?_⟩
      refine ⟨Z, S2, ws1, ok2, re1.fr f2, hb.mono _ _ _ _ ⟨?_, ?_, ?_, ?_⟩ h2⟩
      · rintro ws' S' ⟨m', hm, q⟩ σ' H' f3 ok3 re3
        exact ⟨m', hm, S', ws', (f1.trans f2).trans f3, ok3, re3, q⟩
      · exact fun w S' q v H' f3 ok3 r3 => q v H' ((f1.trans f2).trans f3) ok3 r3
      · exact fun w S' q v H' f3 ok3 r3 => q v H' ((f1.trans f2).trans f3) ok3 r3
      · rintro ws' S' ⟨m', hm, q⟩ σ' H' f3 ok3 re3
        exact ⟨m', hm, S', ws', (f1.trans f2).trans f3, ok3, re3, q⟩
    | false => exact h2 σ1 H2 (f1.trans f2) ok2 (re1.fr f2)
end

/-! ### what is walked -/
abbrev CI := CL.Env → Sto → (List Cv → (Sto → Prop) → Sto → Prop) → Prop
def MonI (t : CI) : Prop := ∀ ws S (Q Q' : List Cv → (Sto → Prop) → Sto → Prop), (∀ xs G S', Q xs G S' → Q' xs G S') → t ws S Q → t ws S Q'
/-- J yields the items xs, in every later state in which G stands -/
def WalkOk (K : Fg) (Z : List Addr) (J : It) (xs : List Cv) (G : Sto → Prop) (S0 : Sto) (H0 : Hp) : Prop :=
  ∀ Z' S H, (∀ a, a ∈ Z → a ∈ Z') → (∀ a, a ∈ Z' → a ∈ Z ∨ H0 a = none) → FrZ Z S0 H0 S H → StOk K Z' S H → G S → ∀ i, (i < xs.length → J.go i H ∧ ∀ x H', J.yld i H x H' → ∃ w, xs[i]? = some w ∧ Fr S H S H' ∧ StOk K Z' S H' ∧ Rep K Z' S H' w x) ∧ (xs.length ≤ i → J.stop i H)
def liftI (K : Fg) (t : CI) : TI := fun σ H R => ∃ Z S ws, StOk K Z S H ∧ RepSt K Z S H σ ws ∧ t ws S fun xs G S' => ∀ J H', Fr S H S' H' → StOk K Z S' H' → WalkOk K Z J xs G S' H' → R J H'
structure SI (X : Cx) (tg e : Expr) (t : CI) : Prop where
  mono : MonI t
  ok : PI X tg e (liftI X.K t)
theorem _root_.L2.PI.imp {X : Cx} {tg e : Expr} {t t' : TI} (h : PI X tg e t) (f : ∀ σ H R, t' σ H R → t σ H R) : PI X tg e t' := ⟨fun pins s σ H R I q => h.run pins s σ H R I (f σ H R q)⟩

/-! ### for -/
def forL (G : Sto → Prop) (g : CG) (tb : CS) (D : CEnds) : List Cv → CL.Env → Sto → Prop
  | [], ws, S => G S ∧ D.nx ws S
  | x :: r, ws, S => G S ∧ g x ws S fun ws1 S1 => tb { D with nx := fun ws2 S2 => forL G g tb D r ws2 S2, ct := fun ws2 S2 => forL G g tb D r ws2 S2, bk := D.nx } ws1 S1
theorem forL_mono {G : Sto → Prop} {g : CG} {tb : CS} (hg : MonG g) (hb : MonS tb) {D D' : CEnds} (l : D.le D') : ∀ xs ws S, forL G g tb D xs ws S → forL G g tb D' xs ws S
  | [], ws, S, h => ⟨h.1, l.nx _ _ h.2⟩
  | x :: r, ws, S, h => ⟨h.1, hg _ _ _ _ _ (fun ws1 S1 q => hb { D with nx := fun ws2 S2 => forL G g tb D r ws2 S2, ct := fun ws2 S2 => forL G g tb D r ws2 S2, bk := D.nx } _ _ _ ⟨fun ws2 S2 q2 => forL_mono hg hb l r ws2 S2 q2, l.rt, l.nx, fun ws2 S2 q2 => forL_mono hg hb l r ws2 S2 q2⟩ q) h.2⟩
theorem forL_G {G : Sto → Prop} {g : CG} {tb : CS} {D : CEnds} : ∀ {xs : List Cv} {ws S}, forL G g tb D xs ws S → G S
  | [], _, _, h => h.1
  | _ :: _, _, _, h => h.1
def cFor (ti : CI) (g : CG) (tb : CS) : CS := fun D ws S => ti ws S fun xs G S1 => forL G g tb D xs ws S1
theorem drop_cons {α : Type} {xs : List α} {i : Nat} (h : i < xs.length) {w : α} (e : xs[i]? = some w) : xs.drop i = w :: xs.drop (i + 1) := by
  rw [List.drop_eq_getElem_cons h]
  congr 1
  rw [List.getElem?_eq_getElem h] at e
  exact Option.some.inj e
section
variable {X : Cx} {pos : Pos}
theorem ss_for {tg iter : Expr} {body : List Stmt} {ti : CI} {g : CG} {is : List Nat} {tb : CS} (hp : PassesOwn (model X.prog X.w) X.A X.env X.xe) (hc : X.calm = true) (hi : SI X tg iter ti) (hg : SG X tg g is) (hb : SSs X body tb)
    (hs : ∀ x, foldedSetIterable iter X.env x = pure x := by intro _; rfl) : SS X (.For tg iter body [] pos) (cFor ti g tb) := by
  refine ⟨fun D D' ws S l h => hi.mono _ _ _ _ (fun xs G S1 q => forL_mono hg.mono hb.mono l xs ws S1 q) h, (ps_for hp hc hi.ok hg.ok hb.ok hs).imp fun D σ H h => ?_⟩
  obtain ⟨Z, S, ws, ok, re, h⟩ := h
  refine ⟨Z, S, ws, ok, re, hi.mono _ _ _ _ (fun xs G S1 q J H1 f1 ok1 wk => ?_) h⟩
  refine ⟨fun i m σ' H' => m = xs.length - i ∧ i ≤ xs.length ∧ ∃ S' ws', Fr S1 H1 S' H' ∧ StOk X.K Z S' H' ∧ RepSt X.K Z S' H' σ' ws' ∧ forL G g tb (liftD X.K Z S H D) (xs.drop i) ws' S',
    ⟨xs.length, rfl, Nat.zero_le _, S1, ws, Fr.refl _ _, ok1, re.fr f1, q⟩, ?_⟩
  rintro i m σ2 H2 ⟨rfl, hl, S2, ws2, f2, ok2, re2, q2⟩
  obtain ⟨wgo, wstop⟩ := wk Z S2 H2 (fun _ z => z) (fun _ z => .inl z) (f2.z Z) ok2 (forL_G q2) i
  by_cases hlt : i < xs.length
  · obtain ⟨go, yl⟩ := wgo hlt
    refine .inr ⟨go, fun σ' H' => ∃ S' ws', Fr S1 H1 S' H' ∧ StOk X.K Z S' H' ∧ RepSt X.K Z S' H' σ' ws' ∧ forL G g tb (liftD X.K Z S H D) (xs.drop (i + 1)) ws' S',
      fun σ' H' h' => ⟨xs.length - (i + 1), by omega, rfl, hlt, h'⟩, fun x H3 hy => ?_⟩
    obtain ⟨w, ew, f3, ok3, r3⟩ := yl x H3 hy
    rw [drop_cons hlt ew] at q2
    refine ⟨Z, S2, ws2, w, ok3, re2.fr f3, r3, hg.mono _ _ _ _ _ (fun ws4 S4 q4 σ4 H4 f4 ok4 re4 o4 => ?_) q2.2⟩
    have fa : Fr S1 H1 S4 H4 := (f2.trans f3).trans f4
    refine ⟨Z, S4, ws4, ok4, re4, hb.mono _ _ _ _ ⟨?_, ?_, ?_, ?_⟩ q4⟩
    · exact fun ws5 S5 q5 σ5 H5 f5 ok5 re5 => ⟨S5, ws5, fa.trans f5, ok5, re5, q5⟩
    · exact fun w5 S5 q5 v5 H5 f5 ok5 r5 => q5 v5 H5 ((f1.trans fa).trans f5) ok5 r5
    · exact fun ws5 S5 q5 σ5 H5 f5 ok5 re5 => q5 σ5 H5 ((f1.trans fa).trans f5) ok5 re5
    · exact fun ws5 S5 q5 σ5 H5 f5 ok5 re5 => ⟨S5, ws5, fa.trans f5, ok5, re5, q5⟩
  · have e : i = xs.length := by omega
    refine .inl ⟨wstop (by omega), ?_⟩
    rw [e, List.drop_length] at q2
    exact q2.2 σ2 H2 (f1.trans f2) ok2 re2
end

/-! ### comprehensions -/
def cwipe (ws : CL.Env) : List Nat → CL.Env
  | [] => ws
  | v :: vs => (cwipe ws vs).set v none
theorem RepSt.wipe {K : Fg} {Z : List Addr} {S : Sto} {H : Hp} {σ : L2.St} {ws : CL.Env} (h : RepSt K Z S H σ ws) : ∀ vs, RepSt K Z S H (L2.wipe σ vs) (cwipe ws vs)
  | [] => h
  | v :: vs => by
    have ih := h.wipe vs
    refine ⟨by show ((L2.wipe σ vs).set v none).length = ((cwipe ws vs).set v none).length; rw [List.length_set, List.length_set]; exact ih.1, fun i w e => ?_⟩
    have e' : ((cwipe ws vs).set v none)[i]? = some (some w) := e
    by_cases hv : v = i
    · subst hv
      by_cases hl : v < (cwipe ws vs).length
      · rw [List.getElem?_set_self hl] at e'; cases e'
      · rw [List.getElem?_eq_none (by rw [List.length_set]; omega)] at e'; cases e'
    · rw [List.getElem?_set_ne hv] at e'
      obtain ⟨x, h1, h2⟩ := ih.2 i w e'
      refine ⟨x, ?_, h2⟩
      show ((L2.wipe σ vs).set v none)[i]? = _
      rw [List.getElem?_set_ne hv]; exact h1
def lcL (G : Sto → Prop) (g : CG) (tt : CT) (te : CE) (ws : CL.Env) (Q : List Cv → Sto → Prop) : List Cv → List Cv → Sto → Prop
  | [], acc, S => G S ∧ Q acc S
  | x :: r, acc, S => G S ∧ g x ws S fun ws2 S2 => tt ws2 S2 fun b S3 => if b = true then te ws2 S3 fun y S4 => acc.length < sizeLine ∧ lcL G g tt te ws Q r (acc ++ [y]) S4 else lcL G g tt te ws Q r acc S3
theorem lcL_mono {G : Sto → Prop} {g : CG} {tt : CT} {te : CE} (hg : MonG g) (ht : MonT tt) (he : MonE te) {ws : CL.Env} {Q Q' : List Cv → Sto → Prop} (f : ∀ a b, Q a b → Q' a b) : ∀ xs acc S, lcL G g tt te ws Q xs acc S → lcL G g tt te ws Q' xs acc S
  | [], acc, S, h => ⟨h.1, f _ _ h.2⟩
  | x :: r, acc, S, h => ⟨h.1, hg _ _ _ _ _ (fun ws2 S2 q => ht _ _ _ _ (fun b S3 q3 => by
      cases b with
      | true => exact he _ _ _ _ (fun y S4 q4 => ⟨q4.1, lcL_mono hg ht he f r _ _ q4.2⟩) q3
      | false => exact lcL_mono hg ht he f r _ _ q3) q) h.2⟩
theorem lcL_G {G : Sto → Prop} {g : CG} {tt : CT} {te : CE} {ws : CL.Env} {Q : List Cv → Sto → Prop} : ∀ {xs : List Cv} {acc S}, lcL G g tt te ws Q xs acc S → G S
  | [], _, _, h => h.1
  | _ :: _, _, _, h => h.1
/-- .. with what is wanted of the list -/
def cLcQ (ti : CI) (g : CG) (tt : CT) (te : CE) (vs : List Nat) (ws : CL.Env) (S : Sto) (Q : List Cv → Sto → Prop) : Prop := ti ws S fun xs G S1 => lcL G g tt te (cwipe ws vs) Q xs [] S1
def cLc (ti : CI) (g : CG) (tt : CT) (te : CE) (vs : List Nat) : CE := fun ws S Q => cLcQ ti g tt te vs ws S fun ys S2 => Q (.lst ys) S2
/-- .. the list owned -/
def cLcO (ti : CI) (g : CG) (tt : CT) (te : CE) (vs : List Nat) : CE := fun ws S Q => cLcQ ti g tt te vs ws S fun ys S2 => ∀ p, S2 p = none → Q (.ref p) (S2.set p (.lst ys))
structure STs (X : Cx) (ifs : List Expr) (t : CT) : Prop where
  mono : MonT t
  ok : PTs X ifs (liftT X.K t)
def cYes : CT := fun _ S Q => Q true S
theorem _root_.L2.PTs.imp {X : Cx} {ifs : List Expr} {t t' : TT} (h : PTs X ifs t) (f : ∀ σ H Q, t' σ H Q → t σ H Q) : PTs X ifs t' := ⟨fun pins s σ H Q I q => h.run pins s σ H Q I (f σ H Q q)⟩
section
variable {X : Cx} {pos : Pos}
theorem sts_nil : STs X [] cYes := ⟨fun ws S Q Q' f h => f _ _ h, pts_nil.imp fun σ H Q h => by
  obtain ⟨Z, S, ws, ok, re, h⟩ := h
  exact h H (Fr.refl S H) ok⟩
theorem sts_one {c : Expr} {t : CT} (h : ST X c t) : STs X [c] t := ⟨h.mono, pts_one h.ok⟩
/-- the heart: from the clean reading to the hand layer's -/
theorem lc_ok {K : Fg} {ti : CI} {g : CG} {is : List Nat} {tt : CT} {te : CE} {vs : List Nat} (hi : MonI ti) (hg : MonG g) (ht : MonT tt) (he : MonE te) (hsub : ∀ i ∈ is, i ∈ vs) {Z : List Addr} {S : Sto} {H : Hp} {σ : L2.St} {ws : CL.Env} {Q : VK} {R : List Cv → Sto → Prop}
    (ok : StOk K Z S H) (re : RepSt K Z S H σ ws) (h : cLcQ ti g tt te vs ws S R)
    (fin : ∀ ys S' D vs' H', Fr S H S' H' → StOk K (D :: Z) S' H' → H D = none → H' D = some (.lst vs') → Reps K (D :: Z) S' H' ys vs' → R ys S' → Q (.ref D) H') : tLc (liftI K ti) (liftG K g is) (liftT K tt) (liftE K te) vs σ H Q := by
  refine ⟨Z, S, ws, ok, re, hi _ _ _ _ (fun xs G S1 q J H1 f1 ok1 wk => ?_) h⟩
  intro D hD
  have hD0 : H D = none := f1.dom D hD
  refine ⟨fun i m H' => m = xs.length - i ∧ i ≤ xs.length ∧ ∃ S' acc vs', Fr S1 H1 S' H' ∧ StOk K (D :: Z) S' H' ∧ H' D = some (.lst vs') ∧ Reps K (D :: Z) S' H' acc vs' ∧ lcL G g tt te (cwipe ws vs) R (xs.drop i) acc S', ⟨xs.length, rfl, Nat.zero_le _, S1, [], [], Fr.new hD, ok1.newD hD, upd_same, .nil, q⟩, ?_⟩
  rintro i m H2 ⟨rfl, hl, S2, acc, vs2, f2, ok2, hD2, ra, q2⟩
  obtain ⟨wgo, wstop⟩ := wk (D :: Z) S2 H2 (fun _ z => List.mem_cons_of_mem _ z) (fun a z => (List.mem_cons.mp z).elim (fun e => .inr (by rw [e]; exact hD)) .inl) (f2.z Z) ok2 (lcL_G q2) i
  by_cases hlt : i < xs.length
  · obtain ⟨go, yl⟩ := wgo hlt
    refine .inr ⟨go, fun H' => ∃ S' acc vs', Fr S1 H1 S' H' ∧ StOk K (D :: Z) S' H' ∧ H' D = some (.lst vs') ∧ Reps K (D :: Z) S' H' acc vs' ∧ lcL G g tt te (cwipe ws vs) R (xs.drop (i + 1)) acc S', fun H' h' => ⟨xs.length - (i + 1), by omega, rfl, hlt, h'⟩, fun x H3 hy => ?_⟩
    obtain ⟨w, ew, f3, ok3, r3⟩ := yl x H3 hy
    rw [drop_cons hlt ew] at q2
    have re3 : RepSt K (D :: Z) S2 H3 (L2.wipe σ vs) (cwipe ws vs) := by
      refine RepSt.wipe ?_ vs
      refine ⟨re.1, fun j u e => ?_⟩
      obtain ⟨v, h1, h2⟩ := re.2 j u e
      exact ⟨v, h1, (((h2.fr f1).more hD).fr f2).fr f3⟩
    have nD2 : S2 D = none := (ok2.hid D List.mem_cons_self).1
    have hD3 := (f3.keep D _ hD2 nD2).1
    have ra3 := ra.fr f3
    refine ⟨D :: Z, S2, cwipe ws vs, w, ok3, re3, r3, hg _ _ _ _ _ (fun ws4 S4 q4 σ4 H4 f4 ok4 re4 o4 => ?_) q2.2⟩
    refine ⟨(o4.wipe hsub).trans (wipe_twice σ vs), ?_⟩
    refine liftT_of ht ok4 re4 q4 fun b S5 H5 f5 ok5 q5 => ?_
    cases b with
    | true =>
      simp only [if_true] at q5 ⊢
      refine liftE_of he ok5 (re4.fr f5) q5 fun y S6 v6 H6 f6 ok6 r6 q6 => ?_
      have n4 := (f4.keep D _ hD3 nD2)
      have n5 := f5.keep D _ n4.1 n4.2
      have n6 := f6.keep D _ n5.1 n5.2
      have ra6 := ((ra3.fr f4).fr f5).fr f6
      refine ⟨vs2, n6.1, by rw [← ra.length]; exact q6.1, S6, acc ++ [y], vs2 ++ [v6], ?_, ok6.chg List.mem_cons_self n6.1, upd_same, (ra6.app (.one r6)).hid List.mem_cons_self n6.1, q6.2⟩
      have fa : Fr S1 H1 S6 H6 := (((f2.trans f3).trans f4).trans f5).trans f6
      exact ⟨fun a o e n => by
        have na : a ≠ D := ne_of_none e hD
        rw [upd_ne na]
        exact fa.keep a o e n, fun a q => fa.dom a (dom_upd a q)⟩
    | false =>
      simp only [Bool.false_eq_true, if_false] at q5 ⊢
      have n4 := (f4.keep D _ hD3 nD2)
      have n5 := f5.keep D _ n4.1 n4.2
      exact ⟨S5, acc, vs2, ((f2.trans f3).trans f4).trans f5, ok5, n5.1, (ra3.fr f4).fr f5, q5⟩
  · have e : i = xs.length := by omega
    refine .inl ⟨wstop (by omega), ?_⟩
    rw [e, List.drop_length] at q2
    exact fin acc S2 D vs2 H2 (f1.trans f2) ok2 hD0 hD2 ra q2.2
end
end CL

set_option Elab.async false
set_option linter.all false
set_option maxRecDepth 100000
set_option maxHeartbeats 4000000
/-! CL3: comprehensions as expressions, sources of loops, calls, a def's body -/
namespace CL
open PySem PySem.Spec PyProof.Rows L2

/-! ### comprehensions -/
section
variable {X : Cx} {pos : Pos}
theorem cLcQ_mono {ti : CI} {g : CG} {tt : CT} {te : CE} {vs : List Nat} (hi : MonI ti) (hg : MonG g) (ht : MonT tt) (he : MonE te) {ws : CL.Env} {S : Sto} {Q Q' : List Cv → Sto → Prop} (f : ∀ a b, Q a b → Q' a b) (h : cLcQ ti g tt te vs ws S Q) : cLcQ ti g tt te vs ws S Q' :=
  hi _ _ _ _ (fun xs G S1 q => lcL_mono hg ht he f xs [] S1 q) h
theorem lc_frz {K : Fg} {ti : CI} {g : CG} {is : List Nat} {tt : CT} {te : CE} {vs : List Nat} (hi : MonI ti) (hg : MonG g) (ht : MonT tt) (he : MonE te) (hsub : ∀ i ∈ is, i ∈ vs) {σ : L2.St} {H : Hp} {Q : VK} (h : liftE K (cLc ti g tt te vs) σ H Q) : tLc (liftI K ti) (liftG K g is) (liftT K tt) (liftE K te) vs σ H Q := by
  obtain ⟨Z, S, ws, ok, re, h⟩ := h
  refine lc_ok hi hg ht he hsub ok re h fun ys S' D vs' H' f ok' hD0 hD r q => ?_
  exact q (.ref D) H' f (ok'.sub fun _ z => List.mem_cons_of_mem _ z) (.lst hD (ok'.hid D List.mem_cons_self).1 (ok.notZ hD0) (r.sub fun _ z => List.mem_cons_of_mem _ z))
theorem lc_own {K : Fg} {ti : CI} {g : CG} {is : List Nat} {tt : CT} {te : CE} {vs : List Nat} (hi : MonI ti) (hg : MonG g) (ht : MonT tt) (he : MonE te) (hsub : ∀ i ∈ is, i ∈ vs) {σ : L2.St} {H : Hp} {Q : VK} (h : liftE K (cLcO ti g tt te vs) σ H Q) : tLc (liftI K ti) (liftG K g is) (liftT K tt) (liftE K te) vs σ H Q := by
  obtain ⟨Z, S, ws, ok, re, h⟩ := h
  refine lc_ok hi hg ht he hsub ok re h fun ys S' D vs' H' f ok' hD0 hD r q => ?_
  refine q D (ok'.hid D List.mem_cons_self).1 (.ref D) H' ⟨fun a o e n => ?_, f.dom⟩ (StOk.toOwn (ok.notZ hD0) ok' hD r) (.ref D)
  have na : a ≠ D := ne_of_none e hD0
  rw [Sto.set_ne na]
  exact f.keep a o e n
variable {elt tg iter : Expr} {ifs : List Expr} {scope : Scope} {own : List (Str × Nat)} {ti : CI} {g : CG} {is : List Nat} {tt : CT} {te : CE}
theorem s_lc (hc : X.calm = true) (hN : X.N.Nodup) (hi : SI X tg iter ti) (ok : BlkOk X.N X.env.scope scope own)
    (hg : ∀ (s : Shared) (H : Hp) (C : Addr) (cl : List (Str × Addr)) (fp : List Addr), SG (X.blk s H scope (compEnvC scope cl C X.env) fp) tg g is)
    (ht : ∀ (s : Shared) (H : Hp) (C : Addr) (cl : List (Str × Addr)) (fp : List Addr), STs (X.blk s H scope (compEnvC scope cl C X.env) fp) ifs tt)
    (he : ∀ (s : Shared) (H : Hp) (C : Addr) (cl : List (Str × Addr)) (fp : List Addr), SE (X.blk s H scope (compEnvC scope cl C X.env) fp) elt te)
    (hsub : ∀ i ∈ is, i ∈ own.map (·.2) := by decide) (hs : ∀ x, foldedSetIterable iter X.env x = pure x := by intro _; rfl) : SE X (.ListComp elt [⟨tg, iter, ifs, 0⟩] scope pos) (cLc ti g tt te (own.map (·.2))) := by
  have mg : MonG g := (hg X.s_0 X.H_0 0 [] []).mono
  have mt : MonT tt := (ht X.s_0 X.H_0 0 [] []).mono
  have me : MonE te := (he X.s_0 X.H_0 0 [] []).mono
  exact ⟨fun ws S Q Q' f h => cLcQ_mono hi.mono mg mt me (fun ys S2 q => f _ _ q) h,
    (pe_lc hc hN hi.ok ok (fun s H C cl fp => (hg s H C cl fp).ok) (fun s H C cl fp => (ht s H C cl fp).ok) (fun s H C cl fp => (he s H C cl fp).ok) hs).imp fun σ H Q h => lc_frz hi.mono mg mt me hsub h⟩
theorem s_lcO (hc : X.calm = true) (hN : X.N.Nodup) (hi : SI X tg iter ti) (ok : BlkOk X.N X.env.scope scope own)
    (hg : ∀ (s : Shared) (H : Hp) (C : Addr) (cl : List (Str × Addr)) (fp : List Addr), SG (X.blk s H scope (compEnvC scope cl C X.env) fp) tg g is)
    (ht : ∀ (s : Shared) (H : Hp) (C : Addr) (cl : List (Str × Addr)) (fp : List Addr), STs (X.blk s H scope (compEnvC scope cl C X.env) fp) ifs tt)
    (he : ∀ (s : Shared) (H : Hp) (C : Addr) (cl : List (Str × Addr)) (fp : List Addr), SE (X.blk s H scope (compEnvC scope cl C X.env) fp) elt te)
    (hsub : ∀ i ∈ is, i ∈ own.map (·.2) := by decide) (hs : ∀ x, foldedSetIterable iter X.env x = pure x := by intro _; rfl) : SE X (.ListComp elt [⟨tg, iter, ifs, 0⟩] scope pos) (cLcO ti g tt te (own.map (·.2))) := by
  have mg : MonG g := (hg X.s_0 X.H_0 0 [] []).mono
  have mt : MonT tt := (ht X.s_0 X.H_0 0 [] []).mono
  have me : MonE te := (he X.s_0 X.H_0 0 [] []).mono
  exact ⟨fun ws S Q Q' f h => cLcQ_mono hi.mono mg mt me (fun ys S2 q p hp => f _ _ (q p hp)) h,
    (pe_lc hc hN hi.ok ok (fun s H C cl fp => (hg s H C cl fp).ok) (fun s H C cl fp => (ht s H C cl fp).ok) (fun s H C cl fp => (he s H C cl fp).ok) hs).imp fun σ H Q h => lc_own hi.mono mg mt me hsub h⟩
/-- name = [..], the list frozen or owned: by what the hand layer's reading follows from -/
theorem tAsg_imp {te te' : TE} {i : Nat} (f : ∀ σ H Q, te' σ H Q → te σ H Q) : ∀ D σ H, tAsg te' (gName i) D σ H → tAsg te (gName i) D σ H := fun D σ H h => f σ H _ h
variable {py spos : Pos}
theorem ss_setLc (i : Nat) {y : Str} (hc : X.calm = true) (hN : X.N.Nodup) (hi : SI X tg iter ti) (ok : BlkOk X.N X.env.scope scope own)
    (hg : ∀ (s : Shared) (H : Hp) (C : Addr) (cl : List (Str × Addr)) (fp : List Addr), SG (X.blk s H scope (compEnvC scope cl C X.env) fp) tg g is)
    (ht : ∀ (s : Shared) (H : Hp) (C : Addr) (cl : List (Str × Addr)) (fp : List Addr), STs (X.blk s H scope (compEnvC scope cl C X.env) fp) ifs tt)
    (he : ∀ (s : Shared) (H : Hp) (C : Addr) (cl : List (Str × Addr)) (fp : List Addr), SE (X.blk s H scope (compEnvC scope cl C X.env) fp) elt te)
    (hy : X.N[i]? = some y := by rfl) (hyl : X.env.scope.names.lookup y = some .local := by rfl) (hsw : swapsWith (.ListComp elt [⟨tg, iter, ifs, 0⟩] scope pos) (some (.Name y py)) spos.line X.env = pure true := by exact sw_true rfl rfl rfl (by decide +kernel))
    (hsub : ∀ i ∈ is, i ∈ own.map (·.2) := by decide) (hs : ∀ x, foldedSetIterable iter X.env x = pure x := by intro _; rfl) : SS X (.Assign [.Name y py] (.ListComp elt [⟨tg, iter, ifs, 0⟩] scope pos) spos) (cAsg (cLc ti g tt te (own.map (·.2))) (cgName i)) := by
  have mg : MonG g := (hg X.s_0 X.H_0 0 [] []).mono
  have mt : MonT tt := (ht X.s_0 X.H_0 0 [] []).mono
  have me : MonE te := (he X.s_0 X.H_0 0 [] []).mono
  have mm : MonE (cLc ti g tt te (own.map (·.2))) := fun ws S Q Q' f h => cLcQ_mono hi.mono mg mt me (fun ys S2 q => f _ _ q) h
  exact ⟨cAsg_mono mm fun w ws S Q Q' f h => f _ _ h,
    (ps_setLc hc hN hy hyl hsw hi.ok ok (fun s H C cl fp => (hg s H C cl fp).ok) (fun s H C cl fp => (ht s H C cl fp).ok) (fun s H C cl fp => (he s H C cl fp).ok) hs).imp fun D σ H h => lc_frz hi.mono mg mt me hsub (cAsgN_ok mm h)⟩
theorem ss_setLcO (i : Nat) {y : Str} (hc : X.calm = true) (hN : X.N.Nodup) (hi : SI X tg iter ti) (ok : BlkOk X.N X.env.scope scope own)
    (hg : ∀ (s : Shared) (H : Hp) (C : Addr) (cl : List (Str × Addr)) (fp : List Addr), SG (X.blk s H scope (compEnvC scope cl C X.env) fp) tg g is)
    (ht : ∀ (s : Shared) (H : Hp) (C : Addr) (cl : List (Str × Addr)) (fp : List Addr), STs (X.blk s H scope (compEnvC scope cl C X.env) fp) ifs tt)
    (he : ∀ (s : Shared) (H : Hp) (C : Addr) (cl : List (Str × Addr)) (fp : List Addr), SE (X.blk s H scope (compEnvC scope cl C X.env) fp) elt te)
    (hy : X.N[i]? = some y := by rfl) (hyl : X.env.scope.names.lookup y = some .local := by rfl) (hsw : swapsWith (.ListComp elt [⟨tg, iter, ifs, 0⟩] scope pos) (some (.Name y py)) spos.line X.env = pure true := by exact sw_true rfl rfl rfl (by decide +kernel))
    (hsub : ∀ i ∈ is, i ∈ own.map (·.2) := by decide) (hs : ∀ x, foldedSetIterable iter X.env x = pure x := by intro _; rfl) : SS X (.Assign [.Name y py] (.ListComp elt [⟨tg, iter, ifs, 0⟩] scope pos) spos) (cAsg (cLcO ti g tt te (own.map (·.2))) (cgName i)) := by
  have mg : MonG g := (hg X.s_0 X.H_0 0 [] []).mono
  have mt : MonT tt := (ht X.s_0 X.H_0 0 [] []).mono
  have me : MonE te := (he X.s_0 X.H_0 0 [] []).mono
  have mm : MonE (cLcO ti g tt te (own.map (·.2))) := fun ws S Q Q' f h => cLcQ_mono hi.mono mg mt me (fun ys S2 q p hp => f _ _ (q p hp)) h
  exact ⟨cAsg_mono mm fun w ws S Q Q' f h => f _ _ h,
    (ps_setLc hc hN hy hyl hsw hi.ok ok (fun s H C cl fp => (hg s H C cl fp).ok) (fun s H C cl fp => (ht s H C cl fp).ok) (fun s H C cl fp => (he s H C cl fp).ok) hs).imp fun D σ H h => lc_own hi.mono mg mt me hsub (cAsgN_ok mm h)⟩
end

/-! ### two clauses -/
def lc2L (G : Sto → Prop) (g : CG) (tt : CT) (ti1 : CI) (g1 : CG) (tt1 : CT) (te : CE) (vs1 : List Nat) (ws : CL.Env) (Q : List Cv → Sto → Prop) : List Cv → List Cv → Sto → Prop
  | [], acc, S => G S ∧ Q acc S
  | x :: r, acc, S => G S ∧ g x ws S fun ws2 S2 => tt ws2 S2 fun b S3 => if b = true then ti1 ws2 S3 fun ys G1 S4 => lcL G1 g1 tt1 te (cwipe ws2 vs1) (fun acc' S' => lc2L G g tt ti1 g1 tt1 te vs1 ws Q r acc' S') ys acc S4
      else lc2L G g tt ti1 g1 tt1 te vs1 ws Q r acc S3
theorem lc2L_mono {G : Sto → Prop} {g g1 : CG} {tt tt1 : CT} {ti1 : CI} {te : CE} {vs1 : List Nat} (hg : MonG g) (ht : MonT tt) (hi1 : MonI ti1) (hg1 : MonG g1) (ht1 : MonT tt1) (he : MonE te) {ws : CL.Env} {Q Q' : List Cv → Sto → Prop} (f : ∀ a b, Q a b → Q' a b) :
    ∀ xs acc S, lc2L G g tt ti1 g1 tt1 te vs1 ws Q xs acc S → lc2L G g tt ti1 g1 tt1 te vs1 ws Q' xs acc S
  | [], acc, S, h => ⟨h.1, f _ _ h.2⟩
  | x :: r, acc, S, h => ⟨h.1, hg _ _ _ _ _ (fun ws2 S2 q => ht _ _ _ _ (fun b S3 q3 => by
      cases b with
      | true => exact hi1 _ _ _ _ (fun ys G1 S4 q4 => lcL_mono hg1 ht1 he (fun acc' S' q5 => lc2L_mono hg ht hi1 hg1 ht1 he f r acc' S' q5) ys acc S4 q4) q3
      | false => exact lc2L_mono hg ht hi1 hg1 ht1 he f r _ _ q3) q) h.2⟩
theorem lc2L_G {G : Sto → Prop} {g g1 : CG} {tt tt1 : CT} {ti1 : CI} {te : CE} {vs1 : List Nat} {ws : CL.Env} {Q : List Cv → Sto → Prop} : ∀ {xs : List Cv} {acc S}, lc2L G g tt ti1 g1 tt1 te vs1 ws Q xs acc S → G S
  | [], _, _, h => h.1
  | _ :: _, _, _, h => h.1
def cLc2Q (ti : CI) (g : CG) (tt : CT) (ti1 : CI) (g1 : CG) (tt1 : CT) (te : CE) (vs vs1 : List Nat) (ws : CL.Env) (S : Sto) (Q : List Cv → Sto → Prop) : Prop := ti ws S fun xs G S1 => lc2L G g tt ti1 g1 tt1 te vs1 (cwipe ws vs) Q xs [] S1
def cLc2 (ti : CI) (g : CG) (tt : CT) (ti1 : CI) (g1 : CG) (tt1 : CT) (te : CE) (vs vs1 : List Nat) : CE := fun ws S Q => cLc2Q ti g tt ti1 g1 tt1 te vs vs1 ws S fun ys S2 => Q (.lst ys) S2
theorem lc2_ok {K : Fg} {ti ti1 : CI} {g g1 : CG} {is is1 : List Nat} {tt tt1 : CT} {te : CE} {vs vs1 : List Nat} (hi : MonI ti) (hg : MonG g) (ht : MonT tt) (hi1 : MonI ti1) (hg1 : MonG g1) (ht1 : MonT tt1) (he : MonE te) (hsub : ∀ i ∈ is, i ∈ vs) (hsub1 : ∀ i ∈ is1, i ∈ vs1)
    {Z : List Addr} {S : Sto} {H : Hp} {σ : L2.St} {ws : CL.Env} {Q : VK} {R : List Cv → Sto → Prop}
    (ok : StOk K Z S H) (re : RepSt K Z S H σ ws) (h : cLc2Q ti g tt ti1 g1 tt1 te vs vs1 ws S R)
    (fin : ∀ ys S' D vs' H', Fr S H S' H' → StOk K (D :: Z) S' H' → H D = none → H' D = some (.lst vs') → Reps K (D :: Z) S' H' ys vs' → R ys S' → Q (.ref D) H') : tLc2 (liftI K ti) (liftG K g is) (liftT K tt) (liftI K ti1) (liftG K g1 is1) (liftT K tt1) (liftE K te) vs vs1 σ H Q := by
  refine ⟨Z, S, ws, ok, re, hi _ _ _ _ (fun xs G S1 q J H1 f1 ok1 wk => ?_) h⟩
  intro D hD
  have hD0 : H D = none := f1.dom D hD
  have keepD : ∀ {Sa Sb : Sto} {Ha Hb : Hp} {l : List V}, Fr Sa Ha Sb Hb → Ha D = some (.lst l) → Sa D = none → Hb D = some (.lst l) ∧ Sb D = none := fun f e n => f.keep D _ e n
  have fr_chg : ∀ {Sa : Sto} {Ha : Hp} {l : List V}, Fr S1 H1 Sa Ha → Fr S1 H1 Sa (upd Ha D (.lst l)) := fun {Sa Ha l} fa => ⟨fun a o e n => by
    have na : a ≠ D := ne_of_none e hD
    rw [upd_ne na]
    exact fa.keep a o e n, fun a q => fa.dom a (dom_upd a q)⟩
  refine ⟨fun i m H' => m = xs.length - i ∧ i ≤ xs.length ∧ ∃ S' acc vs', Fr S1 H1 S' H' ∧ StOk K (D :: Z) S' H' ∧ H' D = some (.lst vs') ∧ Reps K (D :: Z) S' H' acc vs' ∧ lc2L G g tt ti1 g1 tt1 te vs1 (cwipe ws vs) R (xs.drop i) acc S', ⟨xs.length, rfl, Nat.zero_le _, S1, [], [], Fr.new hD, ok1.newD hD, upd_same, .nil, q⟩, ?_⟩
  rintro i m H2 ⟨rfl, hl, S2, acc, vs2, f2, ok2, hD2, ra, q2⟩
  obtain ⟨wgo, wstop⟩ := wk (D :: Z) S2 H2 (fun _ z => List.mem_cons_of_mem _ z) (fun a z => (List.mem_cons.mp z).elim (fun e => .inr (by rw [e]; exact hD)) .inl) (f2.z Z) ok2 (lc2L_G q2) i
  by_cases hlt : i < xs.length
  · obtain ⟨go, yl⟩ := wgo hlt
    refine .inr ⟨go, fun H' => ∃ S' acc vs', Fr S1 H1 S' H' ∧ StOk K (D :: Z) S' H' ∧ H' D = some (.lst vs') ∧ Reps K (D :: Z) S' H' acc vs' ∧ lc2L G g tt ti1 g1 tt1 te vs1 (cwipe ws vs) R (xs.drop (i + 1)) acc S', fun H' h' => ⟨xs.length - (i + 1), by omega, rfl, hlt, h'⟩, fun x H3 hy => ?_⟩
    obtain ⟨w, ew, f3, ok3, r3⟩ := yl x H3 hy
    rw [drop_cons hlt ew] at q2
    have re0 : RepSt K (D :: Z) S2 H3 σ ws := by
      refine ⟨re.1, fun j u e => ?_⟩
      obtain ⟨v, h1, h2⟩ := re.2 j u e
      exact ⟨v, h1, (((h2.fr f1).more hD).fr f2).fr f3⟩
    have re3 : RepSt K (D :: Z) S2 H3 (L2.wipe σ vs) (cwipe ws vs) := re0.wipe vs
    have nD2 : S2 D = none := (ok2.hid D List.mem_cons_self).1
    have hD3 := (f3.keep D _ hD2 nD2).1
    have ra3 := ra.fr f3
    refine ⟨D :: Z, S2, cwipe ws vs, w, ok3, re3, r3, hg _ _ _ _ _ (fun ws4 S4 q4 σ4 H4 f4 ok4 re4 o4 => ?_) q2.2⟩
    refine ⟨(o4.wipe hsub).trans (wipe_twice σ vs), ?_⟩
    refine liftT_of ht ok4 re4 q4 fun b S5 H5 f5 ok5 q5 => ?_
    have n4 := keepD f4 hD3 nD2
    have n5 := keepD f5 n4.1 n4.2
    cases b with
    | true =>
      simp only [if_true] at q5 ⊢
      refine ⟨D :: Z, S5, ws4, ok5, re4.fr f5, hi1 _ _ _ _ (fun ys G1 S6 q6 J1 H6 f6 ok6 wk1 => ?_) q5⟩
      have n6 := keepD f6 n5.1 n5.2
      have fa : Fr S1 H1 S6 H6 := (((f2.trans f3).trans f4).trans f5).trans f6
      have ra6 := ((ra3.fr f4).fr f5).fr f6
      have re6 := (re4.fr f5).fr f6
      refine ⟨fun j k H' => k = ys.length - j ∧ j ≤ ys.length ∧ ∃ S' acc vs', FrZ (D :: Z) S6 H6 S' H' ∧ Fr S1 H1 S' H' ∧ RepSt K (D :: Z) S' H' σ4 ws4 ∧ StOk K (D :: Z) S' H' ∧ H' D = some (.lst vs') ∧ Reps K (D :: Z) S' H' acc vs' ∧
        lcL G1 g1 tt1 te (cwipe ws4 vs1) (fun acc' S' => lc2L G g tt ti1 g1 tt1 te vs1 (cwipe ws vs) R (xs.drop (i + 1)) acc' S') (ys.drop j) acc S', ⟨ys.length, rfl, Nat.zero_le _, S6, acc, vs2, (Fr.refl _ _).z _, fa, re6, ok6, n6.1, ra6, q6⟩, ?_⟩
      · rintro j k H7 ⟨rfl, hl7, S7, acc7, vs7, fz7, fa7, re7, ok7, hD7, ra7, q7⟩
        obtain ⟨wgo1, wstop1⟩ := wk1 (D :: Z) S7 H7 (fun _ z => z) (fun _ z => .inl z) fz7 ok7 (lcL_G q7) j
        by_cases hlt1 : j < ys.length
        · obtain ⟨go1, yl1⟩ := wgo1 hlt1
          refine .inr ⟨go1, fun H' => ∃ S' acc vs', FrZ (D :: Z) S6 H6 S' H' ∧ Fr S1 H1 S' H' ∧ RepSt K (D :: Z) S' H' σ4 ws4 ∧ StOk K (D :: Z) S' H' ∧ H' D = some (.lst vs') ∧ Reps K (D :: Z) S' H' acc vs' ∧
            lcL G1 g1 tt1 te (cwipe ws4 vs1) (fun acc' S' => lc2L G g tt ti1 g1 tt1 te vs1 (cwipe ws vs) R (xs.drop (i + 1)) acc' S') (ys.drop (j + 1)) acc S', fun H' h' => ⟨ys.length - (j + 1), by omega, rfl, hlt1, h'⟩, fun x8 H8 hy8 => ?_⟩
          obtain ⟨w8, ew8, f8, ok8, r8⟩ := yl1 x8 H8 hy8
          rw [drop_cons hlt1 ew8] at q7
          have nD7 : S7 D = none := (ok7.hid D List.mem_cons_self).1
          have n8 := keepD f8 hD7 nD7
          refine ⟨D :: Z, S7, cwipe ws4 vs1, w8, ok8, (re7.fr f8).wipe vs1, r8, hg1 _ _ _ _ _ (fun ws9 S9 q9 σ9 H9 f9 ok9 re9 o9 => ?_) q7.2⟩
          refine ⟨(o9.wipe hsub1).trans (wipe_twice σ4 vs1), ?_⟩
          have n9 := keepD f9 n8.1 n8.2
          refine liftT_of ht1 ok9 re9 q9 fun c SA HA fA okA qA => ?_
          have nA := keepD fA n9.1 n9.2
          cases c with
          | true =>
            simp only [if_true] at qA ⊢
            refine liftE_of he okA (re9.fr fA) qA fun y SB vB HB fB okB rB qB => ?_
            have nB := keepD fB nA.1 nA.2
            have raB := (((ra7.fr f8).fr f9).fr fA).fr fB
            have f7B : Fr S7 H7 SB HB := ((f8.trans f9).trans fA).trans fB
            refine ⟨vs7, nB.1, by rw [← ra7.length]; exact qB.1, SB, acc7 ++ [y], vs7 ++ [vB], (fz7.trans (f7B.z _)).trans (FrZ.chg List.mem_cons_self), fr_chg (fa7.trans f7B), ?_, okB.chg List.mem_cons_self nB.1, upd_same, (raB.app (.one rB)).hid List.mem_cons_self nB.1, qB.2⟩
            exact ⟨re7.1, fun j u e => let ⟨v, h1, h2⟩ := re7.2 j u e; ⟨v, h1, (h2.fr f7B).hid List.mem_cons_self nB.1⟩⟩
          | false =>
            simp only [Bool.false_eq_true, if_false] at qA ⊢
            have f7A : Fr S7 H7 SA HA := (f8.trans f9).trans fA
            exact ⟨SA, acc7, vs7, fz7.trans (f7A.z _), fa7.trans f7A, re7.fr f7A, okA, nA.1, ra7.fr f7A, qA⟩
        · have e : j = ys.length := by omega
          refine .inl ⟨wstop1 (by omega), ?_⟩
          rw [e, List.drop_length] at q7
          exact ⟨S7, acc7, vs7, fa7, ok7, hD7, ra7, q7.2⟩
    | false =>
      simp only [Bool.false_eq_true, if_false] at q5 ⊢
      exact ⟨S5, acc, vs2, ((f2.trans f3).trans f4).trans f5, ok5, n5.1, (ra3.fr f4).fr f5, q5⟩
  · have e : i = xs.length := by omega
    refine .inl ⟨wstop (by omega), ?_⟩
    rw [e, List.drop_length] at q2
    exact fin acc S2 D vs2 H2 (f1.trans f2) ok2 hD0 hD2 ra q2.2
end CL

set_option Elab.async false
set_option linter.all false
set_option maxRecDepth 100000
set_option maxHeartbeats 4000000
/-! CL4: sources of loops; two clauses as an expression; calls; a def's body; the end of a law -/
namespace CL
open PySem PySem.Spec PyProof.Rows L2

section
variable {K : Fg} {Z Z' : List Addr} {S S' : Sto} {H H' : Hp}
theorem Rd.frz (ok : StOk K Z S H) (f : FrZ Z S H S' H') {a : Addr} {u : HO} (hu : plainO u = false) (h : Rd H a u) (n : S a = none) : Rd H' a u ∧ S' a = none := by
  have nz : ∀ o, H a = some o → plainO o = false → a ∉ Z := fun o e p z => by
    obtain ⟨_, x, ex, px⟩ := ok.hid a z
    rw [e] at ex; cases ex
    rw [p] at px; cases px
  rcases h with h | ⟨o, h⟩
  · have k := f.keep a _ (nz _ h hu) h n
    exact ⟨.inl k.1, k.2⟩
  · have k := f.keep a _ (nz _ h rfl) h n
    exact ⟨.inr ⟨o, k.1⟩, k.2⟩
theorem StOk.nz (ok : StOk K Z S H) {a : Addr} {o : HO} (e : H a = some o) (p : plainO o = false) : a ∉ Z := fun z => by
  obtain ⟨_, x, ex, px⟩ := ok.hid a z
  rw [e] at ex; cases ex
  rw [p] at px; cases px
mutual
theorem Rep.frz (ok : StOk K Z S H) (f : FrZ Z S H S' H') (hz : ∀ a, a ∈ Z' → a ∈ Z ∨ H a = none) : ∀ {w : Cv} {v : V}, Rep K Z S H w v → Rep K Z' S' H' w v
  | _, _, .non => .non
  | _, _, .bl b => .bl b
  | _, _, .int i => .int i
  | _, _, .str x => .str x
  | _, _, .tup h n r => .tup (Rd.frz ok f rfl h n).1 (Rd.frz ok f rfl h n).2 (Reps.frz ok f hz r)
  | _, _, .tupK h r => .tupK h (Reps.frz ok f hz r)
  | _, _, .lst h n z r => .lst (f.keep _ _ z h n).1 (f.keep _ _ z h n).2 (fun q => (hz _ q).elim z fun e => by rw [h] at e; cases e) (Reps.frz ok f hz r)
  | _, _, .scr h n r => .scr (f.keep _ _ (ok.nz h rfl) h n).1 (f.keep _ _ (ok.nz h rfl) h n).2 (Reps.frz ok f hz r)
  | _, _, .scrK h r => .scrK h (Reps.frz ok f hz r)
  | _, _, .dK h n z e r => .dK (f.keep _ _ z h n).1 (f.keep _ _ z h n).2 (fun q => (hz _ q).elim z fun e => by rw [h] at e; cases e) e (Reps.frz ok f hz r)
  | _, _, .dT h n z e r => .dT (f.keep _ _ z h n).1 (f.keep _ _ z h n).2 (fun q => (hz _ q).elim z fun e => by rw [h] at e; cases e) e (Reps.frz ok f hz r)
  | _, _, .ref a => .ref a
  | _, _, .opq v => .opq v
theorem Reps.frz (ok : StOk K Z S H) (f : FrZ Z S H S' H') (hz : ∀ a, a ∈ Z' → a ∈ Z ∨ H a = none) : ∀ {ws : List Cv} {vs : List V}, Reps K Z S H ws vs → Reps K Z' S' H' ws vs
  | _, _, .nil => .nil
  | _, _, .cons a r => .cons (Rep.frz ok f hz a) (Reps.frz ok f hz r)
end
theorem walk_lst {a : Addr} {vs : List V} {ws : List Cv} (sq : ∀ S1 H1, FrZ Z S H S1 H1 → SqL K H1 a vs) (ok : StOk K Z S H) (r : Reps K Z S H ws vs) : WalkOk K Z (Itl K a) ws (fun _ => True) S H := by
  intro Z' S1 H1 _ hz f ok1 _ i
  have sq := sq S1 H1 f
  have r1 := r.frz ok f hz
  refine ⟨fun hi => ?_, fun hi => ⟨vs, sq, by rw [← r.length]; exact hi⟩⟩
  obtain ⟨v, hv, _⟩ := r1.get (List.getElem?_eq_getElem hi)
  refine ⟨⟨vs, v, sq, hv⟩, fun x H' hy => ?_⟩
  obtain ⟨rfl, hx⟩ := hy
  obtain ⟨w, hw, rw'⟩ := r1.getV (hx vs sq)
  exact ⟨w, hw, Fr.refl _ _, ok1, rw'⟩
theorem walk_own {a : Addr} {ws : List Cv} : WalkOk K Z (Itl K a) ws (fun S => S a = some (.lst ws)) S H := by
  intro Z' S1 H1 _ hz f ok1 g i
  obtain ⟨vs, e, r1⟩ := ok1.ob a _ g
  have sq : SqL K H1 a vs := .inl (.inl e)
  refine ⟨fun hi => ?_, fun hi => ⟨vs, sq, by rw [← r1.length]; exact hi⟩⟩
  obtain ⟨v, hv, _⟩ := r1.get (List.getElem?_eq_getElem hi)
  refine ⟨⟨vs, v, sq, hv⟩, fun x H' hy => ?_⟩
  obtain ⟨rfl, hx⟩ := hy
  obtain ⟨w, hw, rw'⟩ := r1.getV (hx vs sq)
  exact ⟨w, hw, Fr.refl _ _, ok1, rw'⟩
theorem walk_tup {a : Addr} {vs : List V} {ws : List Cv} (sq : ∀ S1 H1, FrZ Z S H S1 H1 → SqT K H1 a vs) (ok : StOk K Z S H) (r : Reps K Z S H ws vs) : WalkOk K Z (Itt K a) ws (fun _ => True) S H := by
  intro Z' S1 H1 _ hz f ok1 _ i
  have sq := sq S1 H1 f
  have r1 := r.frz ok f hz
  refine ⟨fun hi => ?_, fun hi => ⟨vs, sq, by rw [← r.length]; exact hi⟩⟩
  obtain ⟨v, hv, _⟩ := r1.get (List.getElem?_eq_getElem hi)
  refine ⟨⟨vs, v, sq, hv⟩, fun x H' hy => ?_⟩
  obtain ⟨rfl, hx⟩ := hy
  obtain ⟨w, hw, rw'⟩ := r1.getV (hx vs sq)
  exact ⟨w, hw, Fr.refl _ _, ok1, rw'⟩
theorem walk_range (lo : Int) (n : Nat) : WalkOk K Z (Itr lo n) ((List.range n).map fun (i : Nat) => .int (lo + i)) (fun _ => True) S H := by
  intro Z' S1 H1 _ hz f ok1 _ i
  refine ⟨fun hi => ?_, fun hi => by rw [List.length_map, List.length_range] at hi; exact hi⟩
  rw [List.length_map, List.length_range] at hi
  refine ⟨hi, fun x H' hy => ?_⟩
  obtain ⟨rfl, rfl⟩ := hy
  exact ⟨.int (lo + i), by simp [hi], Fr.refl _ _, ok1, .int _⟩
def signs (x : Str) : List Cv := x.cps.toList.map fun c => .str ⟨#[c]⟩
theorem walk_str (x : Str) : WalkOk K Z (Its x) (signs x) (fun _ => True) S H := by
  intro Z' S1 H1 _ hz f ok1 _ i
  refine ⟨fun hi => ?_, fun hi => by
    have q : x.cps.size ≤ i := by simpa [signs] using hi
    exact q⟩
  have hi' : i < x.cps.size := by simpa [signs] using hi
  refine ⟨hi', fun v H' hy => ?_⟩
  obtain ⟨rfl, c, hc, rfl⟩ := hy
  exact ⟨.str ⟨#[c]⟩, by simp [signs, hc], Fr.refl _ _, ok1, .str _⟩
end

/-- the owned list at a -/
def ownL (S : Sto) (a : Addr) (Q : List Cv → Prop) : Prop := match S a with
  | some (.lst xs) => Q xs
  | _ => False
theorem ownL_of {S : Sto} {a : Addr} {Q : List Cv → Prop} (h : ownL S a Q) : ∃ xs, S a = some (.lst xs) ∧ Q xs := by
  unfold ownL at h
  split at h
  · exact ⟨_, by assumption, h⟩
  · exact h.elim
theorem ownL_to {S : Sto} {a : Addr} {Q : List Cv → Prop} {xs : List Cv} (e : S a = some (.lst xs)) (h : Q xs) : ownL S a Q := by
  unfold ownL
  rw [e]
  exact h
theorem ownL_imp {S : Sto} {a : Addr} {Q Q' : List Cv → Prop} (f : ∀ xs, Q xs → Q' xs) (h : ownL S a Q) : ownL S a Q' := by
  obtain ⟨xs, e, q⟩ := ownL_of h
  exact ownL_to e (f _ q)
/-! ### what a for walks: a list, a tuple, a text -/
def cSeqI (te : CE) : CI := fun ws S Q => te ws S fun w S1 => match w with
  | .tup xs => Q xs (fun _ => True) S1
  | .lst xs => Q xs (fun _ => True) S1
  | .str x => Q (signs x) (fun _ => True) S1
  | .ref a => ownL S1 a fun xs => Q xs (fun S => S a = some (.lst xs)) S1
  | _ => False
section
variable {X : Cx} {tg e : Expr} {pos : Pos}
theorem si_seq {te : CE} (he : SE X e te) : SI X tg e (cSeqI te) := by
  refine ⟨fun ws S Q Q' f h => he.mono _ _ _ _ (fun w S1 q => ?_) h, ⟨fun pins s σ H R I h => ?_⟩⟩
  · cases w with
    | tup xs => exact f _ _ _ q
    | lst xs => exact f _ _ _ q
    | str xs => exact f _ _ _ q
    | ref a => exact ownL_imp (fun xs q => f _ _ _ q) q
    | _ => exact q
  · obtain ⟨Z, S, ws, ok, re, h⟩ := h
    refine thn (he.ok.run pins s σ H (fun v H1 => ∃ S1 w, Fr S H S1 H1 ∧ StOk X.K Z S1 H1 ∧ Rep X.K Z S1 H1 w v ∧ (match w with
      | .tup xs => (fun xs G S' => ∀ J H', Fr S H S' H' → StOk X.K Z S' H' → WalkOk X.K Z J xs G S' H' → R J H') xs (fun _ => True) S1
      | .lst xs => (fun xs G S' => ∀ J H', Fr S H S' H' → StOk X.K Z S' H' → WalkOk X.K Z J xs G S' H' → R J H') xs (fun _ => True) S1
      | .str x => (fun xs G S' => ∀ J H', Fr S H S' H' → StOk X.K Z S' H' → WalkOk X.K Z J xs G S' H' → R J H') (signs x) (fun _ => True) S1
      | .ref a => ownL S1 a fun xs => (fun xs G S' => ∀ J H', Fr S H S' H' → StOk X.K Z S' H' → WalkOk X.K Z J xs G S' H' → R J H') xs (fun S => S a = some (.lst xs)) S1
      | _ => False)) I (liftE_of he.mono ok re h fun w S1 v H1 f1 ok1 r1 q1 => ⟨S1, w, f1, ok1, r1, q1⟩)) fun v s1 ⟨x, H1, I1, rv, S1, w, f1, ok1, r1, q1⟩ => ?_
    have list_it : ∀ {a : Addr} {vs : List V}, v = .ref a → SqL X.K H1 a vs → R (Itl X.K a) H1 → wpAny (model X.prog X.w) X.A (pyIter v) (PIE X pins σ tg R) X.xe s1 := by
      rintro a vs rfl sq hR
      obtain ⟨its, _, pl, _⟩ := I1.list sq
      refine wpAny_pyIter_list pl.isList ?_
      exact pi_one (tk := s1.toks) I1 _ (turn_list a _) ⟨_, Heap.get?_push_size _ rfl, rfl, rfl⟩ hR
    have tup_it : ∀ {a : Addr} {vs : List V}, v = .ref a → SqT X.K H1 a vs → R (Itt X.K a) H1 → wpAny (model X.prog X.w) X.A (pyIter v) (PIE X pins σ tg R) X.xe s1 := by
      rintro a vs rfl sq hR
      obtain ⟨its, _, pt, _⟩ := I1.tuple sq
      refine wpAny_pyIter_tuple (show s1.heap.IsTuple a its.toArray from pt) ?_
      exact pi_one (tk := s1.toks) I1 _ (turn_tuple a _) ⟨_, Heap.get?_push_size _ rfl, rfl, rfl⟩ hR
    cases w with
    | tup xs =>
      cases r1 with
      | tup hr n rr =>
        refine tup_it rv (.inl hr) (q1 _ H1 f1 ok1 (walk_tup (fun S2 H2 f => .inl (Rd.frz ok1 f rfl hr n).1) ok1 rr))
      | tupK hr rr => exact tup_it rv (hr H1) (q1 _ H1 f1 ok1 (walk_tup (fun S2 H2 f => hr H2) ok1 rr))
    | lst xs =>
      cases r1 with
      | lst hh n z rr => exact list_it rv (.inl (.inl hh)) (q1 _ H1 f1 ok1 (walk_lst (fun S2 H2 f => .inl (.inl (f.keep _ _ z hh n).1)) ok1 rr))
    | str z =>
      cases r1
      obtain ⟨t, rfl⟩ := rv
      have hR := q1 _ H1 f1 ok1 (walk_str z)
      cases ha : z.cps.all (· < 128)
      · exact wpAny_pyIter_wide ha (pi_one (tk := s1.toks) I1 _ (turn_str _ z t "str_iterator" (.inr rfl)) ⟨_, Heap.get?_push_size _ rfl, rfl, rfl⟩ hR)
      · exact wpAny_pyIter_ascii ha (pi_one (tk := s1.toks) I1 _ (turn_str _ z t "str_ascii_iterator" (.inl rfl)) ⟨_, Heap.get?_push_size _ rfl, rfl, rfl⟩ hR)
    | ref a =>
      cases r1
      obtain ⟨xs, e, q1⟩ := ownL_of q1
      obtain ⟨vs, hh, rr⟩ := ok1.ob a _ e
      exact list_it rv (.inl (.inl hh)) (q1 _ H1 f1 ok1 walk_own)
    | _ => exact q1.elim
/-- range(n), range(m, n) -/
def iota (lo : Int) (n : Nat) : List Cv := (List.range n).map fun (i : Nat) => .int (lo + i)
def cRng1 (ta : CA) : CI := fun ws S Q => ta ws S fun us S1 => match us with | [.int j] => (-(2 ^ 62) ≤ j ∧ j < 2 ^ 62) ∧ Q (iota 0 j.toNat) (fun _ => True) S1 | _ => False
def cRng2 (ta : CA) : CI := fun ws S Q => ta ws S fun us S1 => match us with | [.int i, .int j] => (-(2 ^ 62) ≤ i ∧ i < 2 ^ 62 ∧ -(2 ^ 62) ≤ j ∧ j < 2 ^ 62) ∧ Q (iota i (j - i).toNat) (fun _ => True) S1 | _ => False
theorem si_range1 {a : Expr} {ta : CA} {p : Pos} (hg : Gl X "range") (hm : X.mg "range" = none) (ha : SA X [a] ta) (hs : starEach [a] X.env = [(false, eval a X.env)] := by rfl) : SI X tg (.Call (.Name "range" p) [a] [] pos) (cRng1 ta) := by
  refine ⟨fun ws S Q Q' f h => ha.mono _ _ _ _ (fun us S1 q => ?_) h, (pi_range1 hg hm ha.ok hs).imp fun σ H R h => ?_⟩
  · split at q
    · exact ⟨q.1, f _ _ _ q.2⟩
    · exact q
  · obtain ⟨Z, S, ws, ok, re, h⟩ := h
    refine liftA_of ha.mono ok re h fun us S1 vs H1 f1 ok1 r1 q1 => ?_
    split at q1
    · rename_i j
      cases r1 with
      | cons a b =>
        cases a; cases b
        exact ⟨j, rfl, q1.1.1, q1.1.2, q1.2 _ H1 f1 ok1 (walk_range 0 _)⟩
    · exact q1.elim
theorem si_range2 {a b : Expr} {ta : CA} {p : Pos} (hg : Gl X "range") (hm : X.mg "range" = none) (ha : SA X [a, b] ta) (hs : starEach [a, b] X.env = [(false, eval a X.env), (false, eval b X.env)] := by rfl) (hs2 : starEach [b] X.env = [(false, eval b X.env)] := by rfl) : SI X tg (.Call (.Name "range" p) [a, b] [] pos) (cRng2 ta) := by
  refine ⟨fun ws S Q Q' f h => ha.mono _ _ _ _ (fun us S1 q => ?_) h, (pi_range2 hg hm ha.ok hs hs2).imp fun σ H R h => ?_⟩
  · split at q
    · exact ⟨q.1, f _ _ _ q.2⟩
    · exact q
  · obtain ⟨Z, S, ws, ok, re, h⟩ := h
    refine liftA_of ha.mono ok re h fun us S1 vs H1 f1 ok1 r1 q1 => ?_
    split at q1
    · rename_i i j
      cases r1 with
      | cons a b =>
        cases a
        cases b with
        | cons a b =>
          cases a; cases b
          exact ⟨i, j, rfl, q1.1, q1.2 _ H1 f1 ok1 (walk_range i _)⟩
    · exact q1.elim
end

/-! ### two clauses, as an expression -/
section
variable {X : Cx} {pos : Pos} {elt tg iter tg1 iter1 : Expr} {ifs ifs1 : List Expr} {scope : Scope} {own : List (Str × Nat)} {vs1 : List Nat} {ti ti1 : CI} {g g1 : CG} {is is1 : List Nat} {tt tt1 : CT} {te : CE}
theorem s_lc2 (hc : X.calm = true) (hN : X.N.Nodup) (hi : SI X tg iter ti) (ok : BlkOk X.N X.env.scope scope own) (hv : ∀ i ∈ vs1, i ∈ own.map (·.2))
    (hg : ∀ (s : Shared) (H : Hp) (C : Addr) (cl : List (Str × Addr)) (fp : List Addr), SG (X.blk s H scope (compEnvC scope cl C X.env) fp) tg g is)
    (ht : ∀ (s : Shared) (H : Hp) (C : Addr) (cl : List (Str × Addr)) (fp : List Addr), STs (X.blk s H scope (compEnvC scope cl C X.env) fp) ifs tt)
    (hi1 : ∀ (s : Shared) (H : Hp) (C : Addr) (cl : List (Str × Addr)) (fp : List Addr), SI (X.blk s H scope (compEnvC scope cl C X.env) fp) tg1 iter1 ti1)
    (hg1 : ∀ (s : Shared) (H : Hp) (C : Addr) (cl : List (Str × Addr)) (fp : List Addr), SG (X.blk s H scope (compEnvC scope cl C X.env) fp) tg1 g1 is1)
    (ht1 : ∀ (s : Shared) (H : Hp) (C : Addr) (cl : List (Str × Addr)) (fp : List Addr), STs (X.blk s H scope (compEnvC scope cl C X.env) fp) ifs1 tt1)
    (he : ∀ (s : Shared) (H : Hp) (C : Addr) (cl : List (Str × Addr)) (fp : List Addr), SE (X.blk s H scope (compEnvC scope cl C X.env) fp) elt te)
    (hsub : ∀ i ∈ is, i ∈ own.map (·.2) := by decide) (hsub1 : ∀ i ∈ is1, i ∈ vs1 := by decide) (hs : ∀ x, foldedSetIterable iter X.env x = pure x := by intro _; rfl) (hs1 : ∀ env x, foldedSetIterable iter1 env x = pure x := by intro _ _; rfl) :
    SE X (.ListComp elt [⟨tg, iter, ifs, 0⟩, ⟨tg1, iter1, ifs1, 0⟩] scope pos) (cLc2 ti g tt ti1 g1 tt1 te (own.map (·.2)) vs1) := by
  have mg : MonG g := (hg X.s_0 X.H_0 0 [] []).mono
  have mt : MonT tt := (ht X.s_0 X.H_0 0 [] []).mono
  have mi1 : MonI ti1 := (hi1 X.s_0 X.H_0 0 [] []).mono
  have mg1 : MonG g1 := (hg1 X.s_0 X.H_0 0 [] []).mono
  have mt1 : MonT tt1 := (ht1 X.s_0 X.H_0 0 [] []).mono
  have me : MonE te := (he X.s_0 X.H_0 0 [] []).mono
  refine ⟨fun ws S Q Q' f h => hi.mono _ _ _ _ (fun xs G S1 q => lc2L_mono mg mt mi1 mg1 mt1 me (fun ys S2 q2 => f _ _ q2) xs [] S1 q) h,
    (pe_lc2 (g := liftG X.K g is) (tt := liftT X.K tt) (wi1 := liftI X.K ti1) (g1 := liftG X.K g1 is1) (tt1 := liftT X.K tt1) (te := liftE X.K te) hc hN hi.ok ok hv (fun s H C cl fp => (hg s H C cl fp).ok) (fun s H C cl fp => (ht s H C cl fp).ok) (fun s H C cl fp => (hi1 s H C cl fp).ok) (fun s H C cl fp => (hg1 s H C cl fp).ok) (fun s H C cl fp => (ht1 s H C cl fp).ok) (fun s H C cl fp => (he s H C cl fp).ok) hs hs1).imp fun σ H Q h => ?_⟩
  obtain ⟨Z, S, ws, ok', re, h⟩ := h
  refine lc2_ok hi.mono mg mt mi1 mg1 mt1 me hsub hsub1 ok' re h fun ys S' D vs' H' f ok2 hD0 hD r q => ?_
  exact q (.ref D) H' f (ok2.sub fun _ z => List.mem_cons_of_mem _ z) (.lst hD (ok2.hid D List.mem_cons_self).1 (ok'.notZ hD0) (r.sub fun _ z => List.mem_cons_of_mem _ z))
end

/-! ### calls -/
/-- room, and nothing is being shown -/
structure RoomG (k : Nat) (A : Around) : Prop where
  room : Room k A
  gd : A.guards = some []
theorem RoomG.mono {j k : Nat} {A : Around} (r : RoomG k A) (h : j ≤ k) : RoomG j A := ⟨r.room.mono h, r.gd⟩
/-- what is raised: the class, the fields -/
structure Ex where
  cls : Value
  fs : Option (List (Str × Cv))
abbrev CSp := List Cv → Sto → (Cv → Sto → Prop) → (Ex → Sto → Prop) → Prop
def MonSp (sp : CSp) : Prop := ∀ us S (Q Q' : Cv → Sto → Prop) (E E' : Ex → Sto → Prop), (∀ w S', Q w S' → Q' w S') → (∀ x S', E x S' → E' x S') → sp us S Q E → sp us S Q' E'
def liftX (K : Fg) (Z : List Addr) (S : Sto) (H : Hp) (E : XK) : Ex → Sto → Prop := fun x S' => ∀ H', Fr S H S' H' → StOk K Z S' H' →
  match x.fs with
  | none => E x.cls none H'
  | some fs => ∀ d fvs, H' d = some (.xd fvs) → S' d = none → fs.map Prod.fst = fvs.map Prod.fst → Reps K Z S' H' (fs.map Prod.snd) (fvs.map Prod.snd) → E x.cls (some d) H'
def liftSp (K : Fg) (sp : CSp) : Sp := fun vs H Q E => ∃ Z S us, StOk K Z S H ∧ Reps K Z S H us vs ∧ sp us S (fun w S' => ∀ v H', Fr S H S' H' → StOk K Z S' H' → Rep K Z S' H' w v → Q v H') (liftX K Z S H E)
structure FnG (P : Program) (w : World) (K : Fg) (mg : Str → Option Value) (base : Heap) (CX : CXT) (k : Nat) (f : Addr) (fd : FuncData) (ps : List Str) (sp : CSp) : Prop where
  mono : MonSp sp
  len : ∀ us S Q E, sp us S Q E → us.length = ps.length
  run : ∀ (A : Around) (outer : List PySem.Env) (s : Shared) (H : Hp) (args : Args) (us : List Value) (vs : List V) (Q : VK) (E : XK), RoomG k A → Env0 P w K mg base A outer s H → BindsTo s fd args (ps.zip us) → Vals vs us → liftSp K sp vs H Q E →
    codeAny (model P w) A (.call (.ref f) args) (CR CX outer P w H s Q E) s
theorem FnG.mono_k {P : Program} {w : World} {K : Fg} {mg : Str → Option Value} {base : Heap} {CX : CXT} {j k : Nat} {f : Addr} {fd : FuncData} {ps : List Str} {sp : CSp} (F : FnG P w K mg base CX j f fd ps sp) (h : j ≤ k) : FnG P w K mg base CX k f fd ps sp :=
  ⟨F.mono, F.len, fun A outer s H args us vs Q E hr => F.run A outer s H args us vs Q E (hr.mono h)⟩
theorem FnG.imp {P : Program} {w : World} {K : Fg} {mg : Str → Option Value} {base : Heap} {CX : CXT} {k : Nat} {f : Addr} {fd : FuncData} {ps : List Str} {sp sp' : CSp} (F : FnG P w K mg base CX k f fd ps sp) (m : MonSp sp') (h : ∀ us S Q E, sp' us S Q E → sp us S Q E) : FnG P w K mg base CX k f fd ps sp' :=
  ⟨m, fun us S Q E q => F.len us S Q E (h _ _ _ _ q), fun A outer s H args us vs Q E hr e0 hb r q => F.run A outer s H args us vs Q E hr e0 hb r (by
    obtain ⟨Z, S, ws, ok, re, q⟩ := q
    exact ⟨Z, S, ws, ok, re, h _ _ _ _ q⟩)⟩

section
variable {X : Cx} {CX : CXT} {k : Nat} {f : Addr} {fd : FuncData} {ps : List Str} {sp : CSp} {x : Str} {p pos : Pos} {e : Expr} {es : List Expr} {ta : CA}
/-- no exception leaves -/
def X0 : Ex → Sto → Prop := fun _ _ => False
def cCall (sp : CSp) (E : Ex → Sto → Prop) (ta : CA) : CE := fun ws S Q => ta ws S fun us S1 => sp us S1 Q E
theorem run_g {pins : List (Addr × Obj)} {σ : L2.St} {H : Hp} {s : Shared} {Q : VK} {E : XK} {us : List Value} {vs : List V} (F : FnG X.prog X.w X.K X.mg X.base CX k f fd ps sp) (hr : RoomG k X.A) (hb : Binds X.K fd ps []) (hx : Passes CX X E)
    (I : Inv X pins σ H s) (r : Vals vs us) (h : liftSp X.K sp vs H Q E) : wpAny (model X.prog X.w) X.A (call (.ref f) us) (EP X pins σ Q) X.xe s := by
  have hl : (us ++ []).length = ps.length := by
    obtain ⟨Z, S, ws, ok, re, q⟩ := h
    have := F.len _ _ _ _ q
    rw [List.append_nil, ← r.length, ← re.length]
    exact this
  have hb' := hb s us I.kIn hl
  rw [List.append_nil] at hb'
  refine wpAny_call (codeAny_mono (F.run X.A X.stack s H ⟨us, []⟩ us vs Q E hr I.env0 hb' r h) fun rr s' hq => ?_)
  cases rr with
  | error ev => exact hx pins σ H s ev s' I hq
  | ok fl =>
    cases fl with
    | ret u => exact I.after hq
    | next => exact False.elim hq
    | brk => exact False.elim hq
    | cont => exact False.elim hq
theorem cCall_mono {E : Ex → Sto → Prop} (hs : MonSp sp) (ha : MonA ta) : MonE (cCall sp E ta) := fun ws S Q Q' f h => ha _ _ _ _ (fun us S1 q => hs _ _ _ _ _ _ f (fun _ _ z => z) q) h
theorem s_call (F : FnG X.prog X.w X.K X.mg X.base CX0 k f fd ps sp) (hr : RoomG k X.A) (hm : X.mg x = some (.ref f)) (hk : PySem.W.keepIn X.K (.ref f) = true) (hb : Binds X.K fd ps []) (ha : SA X (e :: es) ta) (hg : Gl X x := by rfl)
    (hdb : (x == ("__debug__" : Str)) = false := by decide) (he : starEach (e :: es) X.env = (false, eval e X.env) :: starEach es X.env := by rfl) (hpl : (backTo pos (starEach es X.env)).any (·.1) = false := by rfl) :
    SE X (.Call (.Name x p) (e :: es) [] pos) (cCall sp X0 ta) := by
  refine ⟨cCall_mono F.mono ha.mono, ⟨fun pins s σ H Q I h => ?_⟩⟩
  obtain ⟨Z, S, ws, ok, re, h⟩ := h
  refine wpAny_Call_Name_kw (ld_glob I hg hm ?_ hdb)
  refine PySem.W.callWith_K (h₀ := X.base) I.ok.mod.kin hk ?_ he hpl
  refine thn (ha.ok.run pos pins s σ H (fun vs H1 => liftSp X.K sp vs H1 Q E0) I (liftA_of ha.mono ok re h fun us S1 vs H1 f1 ok1 r1 q1 => ?_)) fun us s1 ⟨vs, H1, I1, r, q⟩ => ⟨I1.kIn, run_g F hr hb pass0 I1 r q⟩
  exact ⟨Z, S1, us, ok1, r1, F.mono _ _ _ _ _ _ (fun w S' g v H' a b c => g v H' (f1.trans a) b c) (fun _ _ z => z.elim) q1⟩
/-- f() -/
theorem s_call0 (F : FnG X.prog X.w X.K X.mg X.base CX0 k f fd ps sp) (hr : RoomG k X.A) (hm : X.mg x = some (.ref f)) (hk : PySem.W.keepIn X.K (.ref f) = true) (hb : Binds X.K fd ps []) (hg : Gl X x := by rfl)
    (hdb : (x == ("__debug__" : Str)) = false := by decide) : SE X (.Call (.Name x p) [] [] pos) (cCall sp X0 cNil) := by
  refine ⟨cCall_mono F.mono fun _ _ _ _ f h => f _ _ h, ⟨fun pins s σ H Q I h => ?_⟩⟩
  obtain ⟨Z, S, ws, ok, re, h⟩ := h
  refine wpAny_Call_Name_kw (ld_glob I hg hm ?_ hdb)
  refine PySem.W.callWith_K0 I.kIn hk (run_g (us := []) (vs := []) (Q := Q) (E := E0) F hr hb pass0 I .nil ?_)
  exact ⟨Z, S, [], ok, .nil, F.mono _ _ _ _ _ _ (fun w S' g v H' a b c => g v H' a b c) (fun _ _ z => z.elim) h⟩
end

/-! ### what a def hands back -/
/-- from the store at the end to what the caller sees: objects of the call's own may be forgotten, a list of its own may be frozen -/
def Hand (S : Sto) (w : Cv) (S' : Sto) (Q : Cv → Sto → Prop) : Prop :=
  ∃ S'' w', (∀ a o, S'' a = some o → S' a = some o) ∧ (w' = w ∨ ∃ a, w = .ref a ∧ S'' a = none ∧ ((∃ xs, S' a = some (.lst xs) ∧ w' = .lst xs) ∨ (∃ xs, S' a = some (.dK xs) ∧ w' = .dK xs) ∨ ∃ xs, S' a = some (.dT xs) ∧ w' = .dT xs)) ∧ Q w' S''
theorem Hand.mono {S S' : Sto} {w : Cv} {Q Q' : Cv → Sto → Prop} (f : ∀ w S', Q w S' → Q' w S') (h : Hand S w S' Q) : Hand S w S' Q' := by
  obtain ⟨S2, w2, a, b, q⟩ := h
  exact ⟨S2, w2, a, b, f _ _ q⟩
theorem hand_id {S S' : Sto} {w : Cv} {Q : Cv → Sto → Prop} (q : Q w S') : Hand S w S' Q := ⟨S', w, fun _ _ h => h, .inl rfl, q⟩
theorem less_none {S S' : Sto} (hs : ∀ a o, S' a = some o → S a = some o) {a : Addr} (n : S a = none) : S' a = none := by
  cases e : S' a with
  | none => rfl
  | some o => rw [hs a o e] at n; cases n
section
variable {K : Fg} {Z : List Addr} {S S' : Sto} {H : Hp}
mutual
theorem Rep.less (hs : ∀ a o, S' a = some o → S a = some o) : ∀ {w : Cv} {v : V}, Rep K Z S H w v → Rep K Z S' H w v
  | _, _, .non => .non
  | _, _, .bl b => .bl b
  | _, _, .int i => .int i
  | _, _, .str x => .str x
  | _, _, .tup h n r => .tup h (less_none hs n) (Reps.less hs r)
  | _, _, .tupK h r => .tupK h (Reps.less hs r)
  | _, _, .lst h n z r => .lst h (less_none hs n) z (Reps.less hs r)
  | _, _, .scr h n r => .scr h (less_none hs n) (Reps.less hs r)
  | _, _, .scrK h r => .scrK h (Reps.less hs r)
  | _, _, .dK h n z e r => .dK h (less_none hs n) z e (Reps.less hs r)
  | _, _, .dT h n z e r => .dT h (less_none hs n) z e (Reps.less hs r)
  | _, _, .ref a => .ref a
  | _, _, .opq v => .opq v
theorem Reps.less (hs : ∀ a o, S' a = some o → S a = some o) : ∀ {ws : List Cv} {vs : List V}, Reps K Z S H ws vs → Reps K Z S' H ws vs
  | _, _, .nil => .nil
  | _, _, .cons a r => .cons (Rep.less hs a) (Reps.less hs r)
end
theorem RepOb.less (hs : ∀ a o, S' a = some o → S a = some o) {a : Addr} {o : Ob} (h : RepOb K Z S H a o) : RepOb K Z S' H a o := by
  cases o with
  | lst ws => obtain ⟨vs, h1, h2⟩ := h; exact ⟨vs, h1, h2.less hs⟩
  | dK ws => obtain ⟨vs, h1, h3, h2⟩ := h; exact ⟨vs, h1, h3, h2.less hs⟩
  | dT ws => obtain ⟨vs, h1, h3, h2⟩ := h; exact ⟨vs, h1, h3, h2.less hs⟩
  | ins C dx fs => obtain ⟨vs, h1, h3, h2⟩ := h; exact ⟨vs, h1, h3, h2.less hs⟩
theorem StOk.less (hs : ∀ a o, S' a = some o → S a = some o) (ok : StOk K Z S H) : StOk K Z S' H :=
  ⟨fun a o e => (ok.ob a o (hs a o e)).less hs, fun a z => let ⟨n, r⟩ := ok.hid a z; ⟨less_none hs n, r⟩⟩
theorem Fr.less {S0 : Sto} {H0 : Hp} (hs : ∀ a o, S' a = some o → S a = some o) (f : Fr S0 H0 S H) : Fr S0 H0 S' H :=
  ⟨fun a o e n => let ⟨h1, h2⟩ := f.keep a o e n; ⟨h1, less_none hs h2⟩, f.dom⟩
theorem hand_ok {S0 : Sto} {H0 : Hp} {w : Cv} {v : V} {R : Cv → Sto → Prop} {Q : VK} (f : Fr S0 H0 S H) (ok : StOk K Z S H) (r : Rep K Z S H w v) (h : Hand S0 w S R)
    (q : ∀ w' S' v' H', Fr S0 H0 S' H' → StOk K Z S' H' → Rep K Z S' H' w' v' → R w' S' → Q v' H') : Q v H := by
  obtain ⟨S2, w2, hs, hw, h⟩ := h
  refine q w2 S2 v H (f.less hs) (ok.less hs) ?_ h
  rcases hw with e | ⟨a, e, n, hw⟩
  · rw [e]; exact r.less hs
  · subst e
    cases r
    have nz : ∀ o, S a = some o → a ∉ Z := fun o e z => by rw [(ok.hid a z).1] at e; cases e
    rcases hw with ⟨xs, e, rfl⟩ | ⟨xs, e, rfl⟩ | ⟨xs, e, rfl⟩
    · obtain ⟨vs, h1, h2⟩ := ok.ob a _ e
      exact .lst h1 n (nz _ e) (h2.less hs)
    · obtain ⟨vs, h1, h3, h2⟩ := ok.ob a _ e
      exact .dK h1 n (nz _ e) h3 (h2.less hs)
    · obtain ⟨vs, h1, h3, h2⟩ := ok.ob a _ e
      exact .dT h1 n (nz _ e) h3 (h2.less hs)
end

/-! ### a def's body -/
def cstart (N : List Str) (us : List Cv) : CL.Env := us.map some ++ List.replicate (N.length - us.length) none
theorem repSt_start {K : Fg} {Z : List Addr} {S : Sto} {H : Hp} {N : List Str} {us : List Cv} {vs : List V} (r : Reps K Z S H us vs) : RepSt K Z S H (L2.start N vs) (cstart N us) := by
  have hl := r.length
  refine ⟨by unfold L2.start cstart; simp [hl], fun i w e => ?_⟩
  unfold cstart at e
  by_cases hi : i < us.length
  · rw [List.getElem?_append_left (by simpa using hi)] at e
    have e' : us[i]? = some w := by simpa using e
    obtain ⟨v, h1, h2⟩ := r.get e'
    refine ⟨v, ?_, h2⟩
    unfold L2.start
    rw [List.getElem?_append_left (by rw [List.length_map, ← hl]; exact hi), List.getElem?_map, h1]
    rfl
  · rw [List.getElem?_append_right (by simpa using hi)] at e
    rw [List.getElem?_replicate] at e
    split at e <;> cases e
/-- the ends of a body -/
def bodyEnds (S : Sto) (Q : Cv → Sto → Prop) : CEnds := { nx := fun _ S' => Hand S .non S' Q, rt := fun w S' => Hand S w S' Q }
section
variable {P : Program} {w : World} {K : Fg} {mg : Str → Option Value} {base : Heap}
theorem fn_mk {x qual : Str} {st : Stmt} {f : Addr} {fd : FuncData} {N ps : List Str} {k : Nat} {sp : CSp} {t : CS} (F : Fun K x qual st f fd) (Sc : FnScope N ps (defScope st)) (mono : MonSp sp) (len : ∀ us S Q E, sp us S Q E → us.length = ps.length)
    (hb : ∀ (cdv : Value) (A : Around) (outer : List PySem.Env) (s : Shared) (H : Hp) (E : XK), RoomG k (A.deeper (envOfC qual (defScope st) s.heap.objs.size f cdv)) → SSs (cxOf L2.CX0 P w K mg base N qual (defScope st) f cdv A outer s H E).nox (defBody st) t)
    (hsp : ∀ us S Q E, sp us S Q E → t (bodyEnds S Q) (cstart N us) S) : FnG P w K mg base L2.CX0 (k + 1) f fd ps sp := by
  obtain ⟨oc, od, kV, doc, pm, an, cdv, ct, osl, rfl, lk, hcd⟩ := F.ex
  refine ⟨mono, len, fun A outer s H args us vs Q E hr e0 hbd rv hl => ?_⟩
  obtain ⟨Z, S, ws, ok, re, hq⟩ := hl
  have hlen : vs.length = ps.length := by
    rw [← re.length]
    exact len _ _ _ _ hq
  have kin : K.In s.heap := e0.mod.kin.keeps fun b o e => (e0.bs b o e).1
  have nolim : s.heap.NoLimit := e0.mod.nolimit.keeps fun b o e => (e0.bs b o e).1
  have kinds : ∀ y ∈ ps.zip us, (defScope st).names.lookup y.1 = some .local ∨
      ((defScope st).names.lookup y.1 = some .cell ∧ ((cellsFrom (s.heap.objs.size + 1) (defScope st).names []).lookup y.1).isSome = true) := by
    rintro ⟨n, u⟩ hy
    rcases Sc.par n (List.of_mem_zip hy).1 with q | q
    · exact .inl q
    · exact .inr ⟨q, PySem.W.cellsFrom_some _ _ _ (.inl q)⟩
  refine codeAny_call_function hr.room.depth (kin _ _ lk) rfl Sc.co Sc.gen rfl
    (PySem.W.codeRec_of kin hcd) (hbd _ _ _ _ ?_)
  refine wpAny_newFunctionEnv_cells Sc.kind kinds fun env he s1 hx => ?_
  subst he
  refine ⟨nolim.keeps hx.toInCall.keep, codeAny_func ?_⟩
  have I := inv_start (CX := L2.CX0) (K := K) (mg := mg) (E := E) (cd := cdv) Sc hr.room.hd e0 hlen rv hx
  have body := hb cdv A outer s H E ⟨hr.room.deeper _, hr.gd⟩
  have goal : liftS K t { nx := fun _ H' => Q .non H', rt := Q } (L2.start N vs) H := by
    refine ⟨Z, S, cstart N ws, ok, repSt_start re, body.mono (bodyEnds S fun u S' => ∀ v H', Fr S H S' H' → StOk K Z S' H' → Rep K Z S' H' u v → Q v H') _ _ _ ⟨?_, ?_, fun _ _ h => False.elim h, fun _ _ h => False.elim h⟩ (hsp ws S _ _ hq)⟩
    · exact fun ws' S' h σ' H' f1 ok1 _ => hand_ok f1 ok1 .non h fun w' S2 v' H2 f2 ok2 r2 q => q v' H2 f2 ok2 r2
    · exact fun u S' h v H' f1 ok1 r1 => hand_ok f1 ok1 r1 h fun w' S2 v' H2 f2 ok2 r2 q => q v' H2 f2 ok2 r2
  have run := body.ok.nox
  refine wpAny_mono (run.run [] s1 (L2.start N vs) H _ I goal) (fun fl s' hs => ?_) fun e s' hs => hs
  cases fl with
  | ret u =>
    obtain ⟨v, σ', H', J, r1, q⟩ := hs
    exact ⟨v, H', J.os, J.bare, J.base, J.hok, r1, q⟩
  | next =>
    obtain ⟨σ', H', J, q⟩ := hs
    exact ⟨V.non, H', J.os, J.bare, J.base, J.hok, rfl, q⟩
  | brk =>
    obtain ⟨_, _, _, q⟩ := hs
    exact False.elim q
  | cont =>
    obtain ⟨_, _, _, q⟩ := hs
    exact False.elim q
end
end CL

set_option Elab.async false
set_option linter.all false
set_option maxRecDepth 100000
set_option maxHeartbeats 4000000
/-! CL5: operations by values -/
namespace CL
open PySem PySem.Spec PyProof.Rows L2

/-! ### an owned object read -/
def deref (w : Cv) (S : Sto) : Option Cv := match w with
  | .ref a => (match S a with | some (.lst xs) => some (.lst xs) | some (.dK kvs) => some (.dK kvs) | some (.dT kvs) => some (.dT kvs) | _ => none)
  | w => some w
/-- the clean value stands for v, owned or not -/
def RepD (K : Fg) (Z : List Addr) (S : Sto) (H : Hp) (w : Cv) (v : V) : Prop := match w with
  | .lst xs => ∃ a vs, v = .ref a ∧ H a = some (.lst vs) ∧ Reps K Z S H xs vs
  | .dK kws => ∃ a kvs, v = .ref a ∧ H a = some (.dK kvs) ∧ kws.map Prod.fst = kvs.map Prod.fst ∧ Reps K Z S H (kws.map Prod.snd) (kvs.map Prod.snd)
  | .dT kws => ∃ a kvs, v = .ref a ∧ H a = some (.dT kvs) ∧ kws.map Prod.fst = kvs.map Prod.fst ∧ Reps K Z S H (kws.map Prod.snd) (kvs.map Prod.snd)
  | .ref _ => False
  | w => Rep K Z S H w v
section
variable {K : Fg} {Z : List Addr} {S : Sto} {H : Hp}
theorem deref_ok {w w' : Cv} {v : V} (ok : StOk K Z S H) (r : Rep K Z S H w v) (e : deref w S = some w') : RepD K Z S H w' v := by
  cases r with
  | ref a =>
    unfold deref at e
    cases hS : S a with
    | none => simp [hS] at e
    | some o =>
      have ro := ok.ob a o hS
      cases o with
      | lst xs =>
        simp [hS] at e; subst e
        obtain ⟨vs, h1, h2⟩ := ro
        exact ⟨a, vs, rfl, h1, h2⟩
      | dK xs =>
        simp [hS] at e; subst e
        obtain ⟨vs, h1, h2, h3⟩ := ro
        exact ⟨a, vs, rfl, h1, h2, h3⟩
      | dT xs =>
        simp [hS] at e; subst e
        obtain ⟨vs, h1, h2, h3⟩ := ro
        exact ⟨a, vs, rfl, h1, h2, h3⟩
      | ins C dx fs => simp [hS] at e
  | lst h n z rr => cases e; exact ⟨_, _, rfl, h, rr⟩
  | dK h n z e2 rr => cases e; exact ⟨_, _, rfl, h, e2, rr⟩
  | dT h n z e2 rr => cases e; exact ⟨_, _, rfl, h, e2, rr⟩
  | non => cases e; exact .non
  | bl b => cases e; exact .bl b
  | int b => cases e; exact .int b
  | str b => cases e; exact .str b
  | tup a b c => cases e; exact .tup a b c
  | tupK a b => cases e; exact .tupK a b
  | opq v => cases e; exact .opq v
  | scr a b c => cases e; exact .scr a b c
  | scrK a b => cases e; exact .scrK a b
/-- a list or a tuple, as it is read -/
def seqOf : Cv → Option (List Cv)
  | .lst xs => some xs
  | .tup xs => some xs
  | .scr xs => some xs
  | _ => none
theorem RepD.seq {w : Cv} {v : V} {xs : List Cv} (r : RepD K Z S H w v) (e : seqOf w = some xs) : ∃ a vs, v = .ref a ∧ (SqL K H a vs ∨ SqT K H a vs) ∧ Reps K Z S H xs vs := by
  cases w with
  | lst ys => cases e; obtain ⟨a, vs, rfl, h, rr⟩ := r; exact ⟨a, vs, rfl, .inl (.inl (.inl h)), rr⟩
  | tup ys =>
    cases e
    cases r with
    | tup h n rr => exact ⟨_, _, rfl, .inr (.inl h), rr⟩
    | tupK h rr => exact ⟨_, _, rfl, .inr (h H), rr⟩
  | scr ys =>
    cases e
    cases r with
    | scr h n rr => exact ⟨_, _, rfl, .inl (.inl (.inr ⟨_, h⟩)), rr⟩
    | scrK h rr => exact ⟨_, _, rfl, .inl (h H), rr⟩
  | _ => cases e
end

/-! ### data and their equality -/
mutual
def isD : Cv → Bool
  | .non | .bl _ | .int _ => true
  | .str x => PyData.strOk x
  | .tup xs => isDs xs
  | .lst xs => isDs xs
  | _ => false
def isDs : List Cv → Bool
  | [] => true
  | x :: r => isD x && isDs r
end
mutual
def py : Cv → PyData
  | .bl b => .bool b
  | .int i => .int i
  | .str x => .str x
  | .tup xs => .tuple (pys xs)
  | .lst xs => .list (pys xs)
  | _ => .none
def pys : List Cv → List PyData
  | [] => []
  | x :: r => py x :: pys r
end
mutual
def dep : Cv → Nat
  | .tup xs => deps xs + 1
  | .lst xs => deps xs + 1
  | _ => 0
def deps : List Cv → Nat
  | [] => 0
  | x :: r => max (dep x) (deps r)
end
mutual
def ceq : Cv → Cv → Bool
  | .non, .non => true
  | .bl a, .bl b => a == b
  | .bl a, .int j => (if a then 1 else 0) == j
  | .int i, .bl b => i == (if b then 1 else 0)
  | .int i, .int j => i == j
  | .str x, .str y => x == y
  | .tup xs, .tup ys => ceqs xs ys
  | .lst xs, .lst ys => ceqs xs ys
  | _, _ => false
def ceqs : List Cv → List Cv → Bool
  | [], [] => true
  | x :: xs, y :: ys => ceq x y && ceqs xs ys
  | _, _ => false
end
mutual
theorem canLay_py : ∀ w : Cv, isD w = true → (py w).canLay0 = true
  | .non, _ => by simp [py, PyData.canLay0]
  | .bl b, _ => by simp [py, PyData.canLay0]
  | .int i, _ => by simp [py, PyData.canLay0]
  | .str x, h => by simpa [py, PyData.canLay0, isD] using h
  | .tup xs, h => by simp [py, PyData.canLay0, canLay_pys xs (by simpa [isD] using h)]
  | .lst xs, h => by simp [py, PyData.canLay0, canLay_pys xs (by simpa [isD] using h)]
  | .dK _, h => by simp [isD] at h
  | .dT _, h => by simp [isD] at h
  | .ref _, h => by simp [isD] at h
  | .opq _, h => by simp [isD] at h
  | .scr _, h => by simp [isD] at h
theorem canLay_pys : ∀ xs : List Cv, isDs xs = true → PyData.canLayAll0 (pys xs) = true
  | [], _ => by simp [pys, PyData.canLayAll0]
  | x :: r, h => by
    simp only [isDs, Bool.and_eq_true] at h
    simp [pys, PyData.canLayAll0, canLay_py x h.1, canLay_pys r h.2]
end
mutual
theorem depth_py : ∀ w : Cv, (py w).depth = dep w
  | .non => by simp [py, PyData.depth, dep]
  | .bl b => by simp [py, PyData.depth, dep]
  | .int i => by simp [py, PyData.depth, dep]
  | .str x => by simp [py, PyData.depth, dep]
  | .tup xs => by simp [py, PyData.depth, dep, depth_pys xs]
  | .lst xs => by simp [py, PyData.depth, dep, depth_pys xs]
  | .dK _ => by simp [py, PyData.depth, dep]
  | .dT _ => by simp [py, PyData.depth, dep]
  | .ref _ => by simp [py, PyData.depth, dep]
  | .opq _ => by simp [py, PyData.depth, dep]
  | .scr _ => by simp [py, PyData.depth, dep]
theorem depth_pys : ∀ xs : List Cv, PyData.depthAll (pys xs) = deps xs
  | [] => by simp [pys, PyData.depthAll, deps]
  | x :: r => by simp [pys, PyData.depthAll, deps, depth_py x, depth_pys r]
end
theorem shaped_py {w : Cv} (hd : isD w = true) (h : dep w ≤ 64) : SeqAt.shaped (py w) = true := by
  unfold SeqAt.shaped
  rw [canLay_py w hd, depth_py]
  simp [h]
mutual
theorem eqv_py : ∀ a b : Cv, isD a = true → isD b = true → PyData.eqv (py a) (py b) = ceq a b
  | .non, b, _, hb => by cases b <;> first | (simp [isD] at hb; done) | (simp [py, PyData.eqv, ceq]; done) | (simp [isD] at hb; simp [py, PyData.eqv, ceq]; done)
  | .bl x, b, _, hb => by cases b <;> first | (simp [isD] at hb; done) | (simp [py, PyData.eqv, ceq]; done) | (simp [isD] at hb; simp [py, PyData.eqv, ceq]; done)
  | .int x, b, _, hb => by cases b <;> first | (simp [isD] at hb; done) | (simp [py, PyData.eqv, ceq]; done) | (simp [isD] at hb; simp [py, PyData.eqv, ceq]; done)
  | .str x, b, _, hb => by cases b <;> first | (simp [isD] at hb; done) | (simp [py, PyData.eqv, ceq]; done) | (simp [isD] at hb; simp [py, PyData.eqv, ceq]; done)
  | .tup xs, .tup ys, ha, hb => by simp only [py, PyData.eqv, ceq]; exact eqv_pys xs ys (by simpa [isD] using ha) (by simpa [isD] using hb)
  | .lst xs, .lst ys, ha, hb => by simp only [py, PyData.eqv, ceq]; exact eqv_pys xs ys (by simpa [isD] using ha) (by simpa [isD] using hb)
  | .tup xs, .non, _, _ => by simp [py, PyData.eqv, ceq]
  | .tup xs, .bl _, _, _ => by simp [py, PyData.eqv, ceq]
  | .tup xs, .int _, _, _ => by simp [py, PyData.eqv, ceq]
  | .tup xs, .str _, _, _ => by simp [py, PyData.eqv, ceq]
  | .tup xs, .lst _, _, _ => by simp [py, PyData.eqv, ceq]
  | .lst xs, .non, _, _ => by simp [py, PyData.eqv, ceq]
  | .lst xs, .bl _, _, _ => by simp [py, PyData.eqv, ceq]
  | .lst xs, .int _, _, _ => by simp [py, PyData.eqv, ceq]
  | .lst xs, .str _, _, _ => by simp [py, PyData.eqv, ceq]
  | .lst xs, .tup _, _, _ => by simp [py, PyData.eqv, ceq]
  | .tup _, .dK _, _, hb => by simp [isD] at hb
  | .tup _, .dT _, _, hb => by simp [isD] at hb
  | .tup _, .ref _, _, hb => by simp [isD] at hb
  | .tup _, .opq _, _, hb => by simp [isD] at hb
  | .tup _, .scr _, _, hb => by simp [isD] at hb
  | .lst _, .dK _, _, hb => by simp [isD] at hb
  | .lst _, .dT _, _, hb => by simp [isD] at hb
  | .lst _, .ref _, _, hb => by simp [isD] at hb
  | .lst _, .opq _, _, hb => by simp [isD] at hb
  | .lst _, .scr _, _, hb => by simp [isD] at hb
  | .dK _, _, ha, _ => by simp [isD] at ha
  | .dT _, _, ha, _ => by simp [isD] at ha
  | .ref _, _, ha, _ => by simp [isD] at ha
  | .opq _, _, ha, _ => by simp [isD] at ha
  | .scr _, _, ha, _ => by simp [isD] at ha
theorem eqv_pys : ∀ xs ys : List Cv, isDs xs = true → isDs ys = true → PyData.eqvAll (pys xs) (pys ys) = ceqs xs ys
  | [], [], _, _ => by simp [pys, PyData.eqvAll, ceqs]
  | [], _ :: _, _, _ => by simp [pys, PyData.eqvAll, ceqs]
  | _ :: _, [], _, _ => by simp [pys, PyData.eqvAll, ceqs]
  | x :: xs, y :: ys, ha, hb => by
    simp only [isDs, Bool.and_eq_true] at ha hb
    simp only [pys, PyData.eqvAll, ceqs, eqv_py x y ha.1 hb.1, eqv_pys xs ys ha.2 hb.2]
end
section
variable {K : Fg} {Z : List Addr} {S : Sto} {H : Hp}
mutual
theorem Rep.dp : ∀ {w : Cv} {v : V}, Rep K Z S H w v → isD w = true → Dp K H v (py w)
  | _, _, .non, _ => by simp only [py]; exact .non
  | _, _, .bl b, _ => by simp only [py]; exact .bl b
  | _, _, .int i, _ => by simp only [py]; exact .int i
  | _, _, .str x, _ => by simp only [py]; exact .str x
  | _, _, .tup h n r, e => by simp only [py]; exact .tup (.inl h) (Reps.dp r (by simpa [isD] using e))
  | _, _, .tupK h r, e => by simp only [py]; exact .tup (h H) (Reps.dp r (by simpa [isD] using e))
  | _, _, .lst h n z r, e => by simp only [py]; exact .lst (.inl (.inl h)) (Reps.dp r (by simpa [isD] using e))
  | _, _, .dK _ _ _ _ _, e => by simp [isD] at e
  | _, _, .dT _ _ _ _ _, e => by simp [isD] at e
  | _, _, .ref _, e => by simp [isD] at e
  | _, _, .opq _, e => by simp [isD] at e
  | _, _, .scr _ _ _, e => by simp [isD] at e
  | _, _, .scrK _ _, e => by simp [isD] at e
theorem Reps.dp : ∀ {ws : List Cv} {vs : List V}, Reps K Z S H ws vs → isDs ws = true → DpAll K H vs (pys ws)
  | _, _, .nil, _ => by simp only [pys]; exact .nil
  | _, _, .cons a r, e => by
    simp only [isDs, Bool.and_eq_true] at e
    simp only [pys]
    exact .cons (Rep.dp a e.1) (Reps.dp r e.2)
end
theorem RepD.dp {w : Cv} {v : V} (r : RepD K Z S H w v) (e : isD w = true) : Dp K H v (py w) := by
  cases w with
  | lst xs => obtain ⟨a, vs, rfl, h, rr⟩ := r; simp only [py]; exact .lst (.inl (.inl h)) (rr.dp (by simpa [isD] using e))
  | dK _ => simp [isD] at e
  | dT _ => simp [isD] at e
  | ref _ => simp [isD] at e
  | _ => exact Rep.dp r e
end
def okD (w : Cv) : Bool := isD w && decide (dep w ≤ 64)
theorem okD_D {w : Cv} (h : okD w = true) : isD w = true := (Bool.and_eq_true_iff.mp h).1
theorem okD_dep {w : Cv} (h : okD w = true) : dep w ≤ 64 := of_decide_eq_true (Bool.and_eq_true_iff.mp h).2

/-! ### the operations -/
section
variable {X : Cx}
theorem s2_of {f : Value → Value → Sem Value} {r : C2} (m : Mon2 r) (h : ∀ (pins : List (Addr × Obj)) (s : Shared) (σ : L2.St) (H : Hp) (x y : V) (v u : Value) (Q : VK) (Z : List Addr) (S : Sto) (a b : Cv), Inv X pins σ H s → RelV x v → RelV y u →
    StOk X.K Z S H → Rep X.K Z S H a x → Rep X.K Z S H b y → r a b S (fun w S' => ∀ v H', Fr S H S' H' → StOk X.K Z S' H' → Rep X.K Z S' H' w v → Q v H') → wpAny (model X.prog X.w) X.A (f v u) (EP X pins σ Q) X.xe s) : S2 X f r :=
  ⟨m, fun pins s σ H x y v u Q I rx ry q => by
    obtain ⟨Z, S, a, b, ok, ra, rb, q⟩ := q
    exact h pins s σ H x y v u Q Z S a b I rx ry ok ra rb q⟩
/-- two ints -/
def cI2 (C : Int → Int → Prop) (g : Int → Int → Cv) : C2 := fun a b S Q => match a, b with
  | .int i, .int j => C i j ∧ Q (g i j) S
  | _, _ => False
theorem cI2_mono {C : Int → Int → Prop} {g : Int → Int → Cv} : Mon2 (cI2 C g) := fun a b S Q Q' f h => by
  unfold cI2 at h ⊢
  split at h
  · exact ⟨h.1, f _ _ h.2⟩
  · exact h.elim
theorem s2_int {f : Value → Value → Sem Value} {C : Int → Int → Prop} {g : Int → Int → Cv} {g' : Int → Int → V} (ho : OpR X f (rI C g')) (hg : ∀ K Z S H i j, Rep K Z S H (g i j) (g' i j)) : S2 X f (cI2 C g) :=
  s2_of cI2_mono fun pins s σ H x y v u Q Z S a b I rx ry ok ra rb q => by
    unfold cI2 at q
    split at q
    · rename_i i j
      cases ra; cases rb
      exact ho pins s σ H _ _ v u Q I rx ry ⟨i, j, rfl, rfl, q.1, q.2 _ H (Fr.refl S H) ok (hg _ _ _ _ i j)⟩
    · exact q.elim
theorem s2_int0 {f : Value → Value → Sem Value} {g : Int → Int → Cv} {g' : Int → Int → V} (ho : OpR X f (rI0 g')) (hg : ∀ K Z S H i j, Rep K Z S H (g i j) (g' i j)) : S2 X f (cI2 (fun _ _ => True) g) :=
  s2_of cI2_mono fun pins s σ H x y v u Q Z S a b I rx ry ok ra rb q => by
    unfold cI2 at q
    split at q
    · rename_i i j
      cases ra; cases rb
      exact ho pins s σ H _ _ v u Q I rx ry ⟨i, j, rfl, rfl, q.2 _ H (Fr.refl S H) ok (hg _ _ _ _ i j)⟩
    · exact q.elim
theorem o_sub : S2 X (binaryOp .Sub) (cI2 (fun _ _ => True) fun i j => .int (i - j)) := s2_int0 op_sub fun _ _ _ _ _ _ => .int _
theorem o_mul : S2 X (binaryOp .Mult) (cI2 CMulW fun i j => .int (i * j)) := s2_int op_mulW fun _ _ _ _ _ _ => .int _
theorem o_fdiv : S2 X (binaryOp .FloorDiv) (cI2 CDivW fun i j => .int (i / j)) := s2_int op_fdivW fun _ _ _ _ _ _ => .int _
theorem o_mod : S2 X (binaryOp .Mod) (cI2 (fun _ j => 0 < j) fun i j => .int (i % j)) := s2_int op_mod fun _ _ _ _ _ _ => .int _
def CPw (i j : Int) : Prop := 0 ≤ j ∧ (Builtin.Int.intBits i : Int) * j ≤ 2 ^ 27
theorem o_pow : S2 X (binaryOp .Pow) (cI2 CPw fun i j => .int (i ^ j.toNat)) := s2_int (C := CPw) (g' := fun i j => .int (i ^ j.toNat)) (opI fun _ _ _ _ _ _ _ hc q => pow_int hc.1 hc.2 q) fun _ _ _ _ _ _ => .int _
theorem o_shl : S2 X (binaryOp .LShift) (cI2 CPow fun i j => .int (i * 2 ^ j.toNat)) := s2_int op_shl fun _ _ _ _ _ _ => .int _
theorem o_and : S2 X (binaryOp .BitAnd) (cI2 (fun _ _ => True) fun i j => .int (Builtin.bitAnd i j)) := s2_int0 op_and fun _ _ _ _ _ _ => .int _
theorem o_or : S2 X (binaryOp .BitOr) (cI2 (fun _ _ => True) fun i j => .int (Builtin.bitOr i j)) := s2_int0 op_or fun _ _ _ _ _ _ => .int _
/-- + -/
def cAdd : C2 := fun a b S Q => match a, b with
  | .int i, .int j => Q (.int (i + j)) S
  | .str x, .str y => x.length + y.length ≤ sizeLine ∧ Q (.str (x ++ y)) S
  | .tup xs, .tup ys => xs.length + ys.length ≤ sizeLine ∧ Q (.tup (xs ++ ys)) S
  | a, b => match deref a S, deref b S with
    | some (.lst xs), some (.lst ys) => xs.length + ys.length ≤ sizeLine ∧ Q (.lst (xs ++ ys)) S
    | _, _ => False
theorem cAdd_mono : Mon2 cAdd := fun a b S Q Q' f h => by
  unfold cAdd at h ⊢
  split at h
  · exact f _ _ h
  · exact ⟨h.1, f _ _ h.2⟩
  · exact ⟨h.1, f _ _ h.2⟩
  · split at h
    · exact ⟨h.1, f _ _ h.2⟩
    · exact h.elim
theorem RepD.lstH {K : Fg} {Z : List Addr} {S : Sto} {H : Hp} {xs : List Cv} {v : V} (r : RepD K Z S H (.lst xs) v) : ∃ a vs, v = .ref a ∧ H a = some (.lst vs) ∧ Reps K Z S H xs vs := r
/-- a new frozen list -/
theorem new_lst {K : Fg} {Z : List Addr} {S : Sto} {H : Hp} {Q : VK} {ws : List Cv} {vs : List V} {p : Addr} (ok : StOk K Z S H) (hp : H p = none) (r : Reps K Z S H ws vs)
    (q : ∀ v H', Fr S H S H' → StOk K Z S H' → Rep K Z S H' (.lst ws) v → Q v H') : Q (.ref p) (upd H p (.lst vs)) :=
  q _ _ (Fr.new hp) (ok.new hp) (.lst upd_same (ok.free hp) (ok.notZ hp) (r.fr (Fr.new hp)))
theorem new_tup {K : Fg} {Z : List Addr} {S : Sto} {H : Hp} {Q : VK} {ws : List Cv} {vs : List V} {p : Addr} (ok : StOk K Z S H) (hp : H p = none) (r : Reps K Z S H ws vs)
    (q : ∀ v H', Fr S H S H' → StOk K Z S H' → Rep K Z S H' (.tup ws) v → Q v H') : Q (.ref p) (upd H p (.tup vs)) :=
  q _ _ (Fr.new hp) (ok.new hp) (.tup (.inl upd_same) (ok.free hp) (r.fr (Fr.new hp)))
theorem RepD.tupH {K : Fg} {Z : List Addr} {S : Sto} {H : Hp} {xs : List Cv} {v : V} (r : Rep K Z S H (.tup xs) v) : ∃ a vs, v = .ref a ∧ SqT K H a vs ∧ Reps K Z S H xs vs := by
  cases r with
  | tup h n rr => exact ⟨_, _, rfl, .inl h, rr⟩
  | tupK h rr => exact ⟨_, _, rfl, h H, rr⟩
theorem Reps.nil_iff {K : Fg} {Z : List Addr} {S : Sto} {H : Hp} {ws : List Cv} {vs : List V} (r : Reps K Z S H ws vs) : vs = [] ↔ ws = [] := by
  cases r <;> simp
theorem add_ok {f : Value → Value → Sem Value} (h1 : OpR X f (rI0 fun i j => .int (i + j))) (h2 : OpR X f (fun x y H Q => ∃ i j, x = .str i ∧ y = .str j ∧ i.length + j.length ≤ sizeLine ∧ Q (.str (i ++ j)) H)) (h3 : OpR X f (rCatA X.K)) (h4 : OpR X f rCat) : S2 X f cAdd :=
  s2_of cAdd_mono fun pins s σ H x y v u Q Z S a b I rx ry ok ra rb q => by
    unfold cAdd at q
    split at q
    · cases ra; cases rb
      exact h1 pins s σ H _ _ v u Q I rx ry ⟨_, _, rfl, rfl, q _ H (Fr.refl S H) ok (.int _)⟩
    · cases ra; cases rb
      exact h2 pins s σ H _ _ v u Q I rx ry ⟨_, _, rfl, rfl, q.1, q.2 _ H (Fr.refl S H) ok (.str _)⟩
    · obtain ⟨a1, v1, rfl, t1, r1⟩ := RepD.tupH ra
      obtain ⟨a2, v2, rfl, t2, r2⟩ := RepD.tupH rb
      refine h3 pins s σ H _ _ v u Q I rx ry ⟨a1, a2, v1, v2, rfl, rfl, t1, t2, by rw [← r1.length, ← r2.length]; exact q.1, fun e => ?_, fun _ e2 => ?_, fun _ _ p hp => new_tup ok hp (r1.app r2) q.2⟩
      · have e1 := r1.nil_iff.mp e
        subst e1
        exact q.2 _ H (Fr.refl S H) ok (by simpa using rb)
      · have e3 := r2.nil_iff.mp e2
        subst e3
        exact q.2 _ H (Fr.refl S H) ok (by simpa using ra)
    · split at q
      · rename_i xs ys e1 e2
        obtain ⟨a1, v1, rfl, t1, r1⟩ := RepD.lstH (deref_ok ok ra e1)
        obtain ⟨a2, v2, rfl, t2, r2⟩ := RepD.lstH (deref_ok ok rb e2)
        exact h4 pins s σ H _ _ v u Q I rx ry ⟨a1, a2, v1, v2, rfl, rfl, t1, t2, by rw [← r1.length, ← r2.length]; exact q.1, fun p hp => new_lst ok hp (r1.app r2) q.2⟩
      · exact q.elim
theorem o_add : S2 X (binaryOp .Add) cAdd := add_ok op_add op_add_str op_catA op_cat
theorem sip_int {op : Operator} {f : Int → Int → Int} (ho : PIp X op (ipI f)) : SIp X op (cI2 (fun _ _ => True) fun i j => .int (f i j)) :=
  ⟨cI2_mono, fun pins s σ H x y v u Q I rx ry q => by
    obtain ⟨Z, S, a, b, ok, ra, rb, q⟩ := q
    unfold cI2 at q
    split at q
    · rename_i i j
      cases ra; cases rb
      exact ho pins s σ H _ _ v u Q I rx ry ⟨i, j, rfl, rfl, q.2 _ H (Fr.refl S H) ok (.int _)⟩
    · exact q.elim⟩
theorem i_add : SIp X .Add (cI2 (fun _ _ => True) fun i j => .int (i + j)) := sip_int ip_add
theorem i_sub : SIp X .Sub (cI2 (fun _ _ => True) fun i j => .int (i - j)) := sip_int ip_sub
theorem o_lt : S2 X (compareOp .Lt) (cI2 (fun _ _ => True) fun i j => .bl (decide (i < j))) := s2_int0 op_lt fun _ _ _ _ _ _ => .bl _
theorem o_le : S2 X (compareOp .LtE) (cI2 (fun _ _ => True) fun i j => .bl (decide (i ≤ j))) := s2_int0 op_le fun _ _ _ _ _ _ => .bl _
theorem o_gt : S2 X (compareOp .Gt) (cI2 (fun _ _ => True) fun i j => .bl (decide (j < i))) := s2_int0 op_gt fun _ _ _ _ _ _ => .bl _
theorem o_ge : S2 X (compareOp .GtE) (cI2 (fun _ _ => True) fun i j => .bl (decide (j ≤ i))) := s2_int0 op_ge fun _ _ _ _ _ _ => .bl _
/-- == and != -/
def cEqB (g : Bool → Bool) : C2 := fun a b S Q => match a, b with
  | .str x, .str y => Q (.bl (g (decide (x = y)))) S
  | .int i, .int j => Q (.bl (g (decide (i = j)))) S
  | a, b => match deref a S, deref b S with
    | some a, some b => (okD a = true ∧ okD b = true) ∧ Q (.bl (g (ceq a b))) S
    | _, _ => False
abbrev cEq : C2 := cEqB fun b => b
abbrev cNe : C2 := cEqB fun b => !b
theorem cEqB_mono {g : Bool → Bool} : Mon2 (cEqB g) := fun a b S Q Q' f h => by
  unfold cEqB at h ⊢
  split at h
  · exact f _ _ h
  · exact f _ _ h
  · split at h
    · exact ⟨h.1, f _ _ h.2⟩
    · exact h.elim
theorem eqB_ok {f : Value → Value → Sem Value} {g : Bool → Bool} {r1 r2 : R2} (h1 : OpR X f r1) (h2 : OpR X f r2)
    (e1 : ∀ x y H Q, scal x y = true → Q (.bl (g (decide (x = y)))) H → r1 x y H Q) (e2 : ∀ x y H Q d e, Dp X.K H x d → Dp X.K H y e → SeqAt.shaped d = true → SeqAt.shaped e = true → Q (.bl (g (PyData.eqv d e))) H → r2 x y H Q) : S2 X f (cEqB g) :=
  s2_of cEqB_mono fun pins s σ H x y v u Q Z S a b I rx ry ok ra rb q => by
    unfold cEqB at q
    split at q
    · rename_i x y
      cases ra; cases rb
      refine h1 pins s σ H _ _ v u Q I rx ry (e1 _ _ _ _ rfl ?_)
      have e : decide (V.str x = V.str y) = decide (x = y) := decide_eq_decide.mpr ⟨fun h => V.str.inj h, fun h => by rw [h]⟩
      rw [e]
      exact q _ H (Fr.refl S H) ok (.bl _)
    · rename_i x y
      cases ra; cases rb
      refine h1 pins s σ H _ _ v u Q I rx ry (e1 _ _ _ _ rfl ?_)
      have e : decide (V.int x = V.int y) = decide (x = y) := decide_eq_decide.mpr ⟨fun h => V.int.inj h, fun h => by rw [h]⟩
      rw [e]
      exact q _ H (Fr.refl S H) ok (.bl _)
    · split at q
      · rename_i a' b' ea eb
        have ra' := deref_ok ok ra ea
        have rb' := deref_ok ok rb eb
        refine h2 pins s σ H _ _ v u Q I rx ry (e2 _ _ _ _ _ _ (ra'.dp (okD_D q.1.1)) (rb'.dp (okD_D q.1.2)) (shaped_py (okD_D q.1.1) (okD_dep q.1.1)) (shaped_py (okD_D q.1.2) (okD_dep q.1.2)) ?_)
        rw [eqv_py _ _ (okD_D q.1.1) (okD_D q.1.2)]
        exact q.2 _ H (Fr.refl S H) ok (.bl _)
      · exact q.elim
theorem o_eq (hu : X.A.units + 64 < cLine) : S2 X (compareOp .Eq) cEq := eqB_ok op_eq (op_eqD hu) (fun x y H Q h q => ⟨h, q⟩) fun x y H Q d e hd he sd se q => ⟨d, e, hd, he, sd, se, q⟩
theorem o_ne (hu : X.A.units + 64 < cLine) : S2 X (compareOp .NotEq) cNe := eqB_ok op_ne (op_neD hu) (fun x y H Q h q => ⟨h, q⟩) fun x y H Q d e hd he sd se q => ⟨d, e, hd, he, sd, se, q⟩
/-- is None, is not None -/
def cIsN (g : Bool → Bool) : C2 := fun a b S Q => match b with
  | .non => (match a with | .non => Q (.bl (g true)) S | .opq _ => False | _ => Q (.bl (g false)) S)
  | _ => False
theorem cIsN_mono {g : Bool → Bool} : Mon2 (cIsN g) := fun a b S Q Q' f h => by
  unfold cIsN at h ⊢
  split at h
  · split at h
    · exact f _ _ h
    · exact h.elim
    · exact f _ _ h
  · exact h.elim
theorem isN_ok {f : Value → Value → Sem Value} {g : Bool → Bool} (h1 : OpR X f (fun x y H Q => y = .non ∧ Q (.bl (g (decide (x = .non)))) H)) : S2 X f (cIsN g) :=
  s2_of cIsN_mono fun pins s σ H x y v u Q Z S a b I rx ry ok ra rb q => by
    unfold cIsN at q
    split at q
    · cases rb
      split at q
      · cases ra
        exact h1 pins s σ H _ _ v u Q I rx ry ⟨rfl, q _ H (Fr.refl S H) ok (.bl _)⟩
      · exact q.elim
      · refine h1 pins s σ H _ _ v u Q I rx ry ⟨rfl, ?_⟩
        have e : decide (x = V.non) = false := by
          apply decide_eq_false
          intro z
          subst z
          cases ra with
          | non => simp at *
          | opq v => simp at *
        rw [e]
        exact q _ H (Fr.refl S H) ok (.bl _)
    · exact q.elim
theorem o_isN : S2 X (compareOp .Is) (cIsN fun b => b) := isN_ok op_isN
theorem o_notN : S2 X (compareOp .IsNot) (cIsN fun b => !b) := isN_ok op_notN

/-! ### items -/
def cIx : C2 := fun a b S Q => match b with
  | .int i => (match a with
    | .str z => z.length ≤ sizeLine ∧ (match atI z.cps.toList i with | some c => Q (.str ⟨#[c]⟩) S | none => False)
    | a => match deref a S with
      | some a => (match seqOf a with
        | some xs => (match atI xs i with | some w => Q w S | none => False)
        | none => False)
      | none => False)
  | _ => False
theorem cIx_mono : Mon2 cIx := fun a b S Q Q' f h => by
  unfold cIx at h ⊢
  repeat' split at h
  all_goals first | exact h.elim | exact f _ _ h | exact ⟨h.1, f _ _ h.2⟩ | exact h.2.elim
theorem reps_atI {K : Fg} {Z : List Addr} {S : Sto} {H : Hp} {ws : List Cv} {vs : List V} {i : Int} {w : Cv} (r : Reps K Z S H ws vs) (e : atI ws i = some w) : ∃ v, atI vs i = some v ∧ Rep K Z S H w v := by
  unfold atI at e ⊢
  rw [← r.length]
  cases h : ixN ws.length i with
  | none => rw [h] at e; cases e
  | some j =>
    rw [h] at e
    exact r.get e
structure SIx (X : Cx) (r : C2) : Prop where
  mono : Mon2 r
  ok : IxR X (lift2 X.K r)
theorem s_ix {a b : Expr} {ta tb : CE} {r : C2} {pos : Pos} (hr : SIx X r) (ha : SE X a ta) (hb : SE X b tb) (hs : PlainIx b := by exact fun _ _ => rfl) : SE X (.Subscript a b pos) (cOp r ta tb) :=
  ⟨cOp_mono hr.mono ha.mono hb.mono, (pe_ix hr.ok ha.ok hb.ok hs).imp fun _ _ _ h => cOp_ok hr.mono ha.mono hb.mono h⟩
theorem x_ix : SIx X cIx := ⟨cIx_mono, fun value slice pins s σ H x y v u Q I rx ry q hs => by
  obtain ⟨Z, S, a, b, ok, ra, rb, q⟩ := q
  unfold cIx at q
  split at q
  · rename_i i
    cases rb
    split at q
    · cases ra
      obtain ⟨q1, q2⟩ := q
      split at q2
      · rename_i c e
        exact ix_str value slice pins s σ H _ _ v u Q I rx ry ⟨_, _, c, rfl, rfl, q1, e, q2 _ H (Fr.refl S H) ok (.str _)⟩ hs
      · exact q2.elim
    · split at q
      · rename_i a' ea
        split at q
        · rename_i xs es
          split at q
          · rename_i w ew
            obtain ⟨p, vs, rfl, hsq, rr⟩ := (deref_ok ok ra ea).seq es
            obtain ⟨v1, h1, h2⟩ := reps_atI rr ew
            rcases hsq with hsq | hsq
            · exact ix_list value slice pins s σ H _ _ v u Q I rx ry ⟨p, vs, i, v1, rfl, rfl, hsq, h1, q _ H (Fr.refl S H) ok h2⟩ hs
            · exact ix_tup value slice pins s σ H _ _ v u Q I rx ry ⟨p, vs, i, v1, rfl, rfl, hsq, h1, q _ H (Fr.refl S H) ok h2⟩ hs
          · exact q.elim
        · exact q.elim
      · exact q.elim
  · exact q.elim⟩
/-! o[i] = e, o an owned list -/
def cSetL (to ti te : CE) : CS := fun D ws S => te ws S fun w S1 => to ws S1 fun o S2 => ti ws S2 fun i S3 => match o, i with
  | .ref p, .int k => ownL S3 p fun xs => match ixN xs.length k with | some j => D.nx ws (S3.set p (.lst (xs.set j w))) | none => False
  | _, _ => False
theorem ss_setL {o i e : Expr} {to ti te : CE} {pos tpos : Pos} (ho : SE X o to) (hi : SE X i ti) (he : SE X e te) (hs : swapsWithSole [.Subscript o i tpos] e pos.line X.env = pure false := by rfl) (hw : swappedStores [.Subscript o i tpos] e X.env = pure none := by rfl)
    (h1 : (assignEach [.Subscript o i tpos] X.env).map (·.2) = [assign (.Subscript o i tpos) X.env] := by rfl)
    (ha : ∀ v, assign (.Subscript o i tpos) X.env v = (do
      let ov ← holding [v] (eval o X.env)
      let iv ← holding [v, ov] (eval i X.env)
      standAt tpos
      holding [v, ov, iv] (setItem ov iv v)
      release [v, ov, iv] []) := by intro _; rfl) : SS X (.Assign [.Subscript o i tpos] e pos) (cSetL to ti te) := by
  refine ⟨fun D D' ws S l h => he.mono _ _ _ _ (fun w S1 h1 => ho.mono _ _ _ _ (fun x S2 h2 => hi.mono _ _ _ _ (fun y S3 h3 => ?_) h2) h1) h, (ps_asg he.ok (pg_sub ho.ok hi.ok set_list ha) hs hw h1).imp fun D σ H h => ?_⟩
  · split at h3
    · refine ownL_imp (fun xs q => ?_) h3
      split at q
      · exact l.nx _ _ q
      · exact q.elim
    · exact h3.elim
  · obtain ⟨Z, S, ws, ok, re, h⟩ := h
    refine liftE_of he.mono ok re h fun w S1 v1 H1 f1 ok1 r1 q1 => ?_
    refine liftE_of ho.mono ok1 (re.fr f1) q1 fun x S2 v2 H2 f2 ok2 r2 q2 => ?_
    refine liftE_of hi.mono ok2 ((re.fr f1).fr f2) q2 fun y S3 v3 H3 f3 ok3 r3 q3 => ?_
    split at q3
    · rename_i p k
      cases r2; cases r3
      obtain ⟨xs, ex, q3⟩ := ownL_of q3
      obtain ⟨vs, hp, rr⟩ := ok3.ob p _ ex
      split at q3
      · rename_i j ej
        have r13 : Rep X.K Z S3 H3 w v1 := (r1.fr f2).fr f3
        refine ⟨p, vs, k, j, rfl, rfl, hp, by rw [← rr.length]; exact ej, ?_⟩
        have fw : Fr S3 H3 (S3.set p (.lst (xs.set j w))) (upd H3 p (.lst (vs.set j v1))) := Fr.wr ex
        have f0 := ((f1.trans f2).trans f3).trans fw
        exact q3 _ _ f0 (ok3.wr ex ⟨_, upd_same, (rr.set r13 j).fr fw⟩) (re.fr f0)
      · exact q3.elim
    · exact q3.elim
end
end CL

set_option Elab.async false
set_option linter.all false
set_option maxRecDepth 100000
set_option maxHeartbeats 4000000
/-! CL6: built-in functions, methods of lists, repr, max with a default -/
namespace CL
open PySem PySem.Spec PyProof.Rows L2

abbrev CC := List Cv → Sto → (Cv → Sto → Prop) → Prop
def MonC (r : CC) : Prop := ∀ us S (Q Q' : Cv → Sto → Prop), (∀ w S', Q w S' → Q' w S') → r us S Q → r us S Q'
def liftC (K : Fg) (r : CC) : List V → Hp → VK → Prop := fun vs H Q => ∃ Z S us, StOk K Z S H ∧ Reps K Z S H us vs ∧ r us S fun w S' => ∀ v H', Fr S H S' H' → StOk K Z S' H' → Rep K Z S' H' w v → Q v H'
structure SC (X : Cx) (f : Value) (r : CC) : Prop where
  mono : MonC r
  ok : CallR X f (liftC X.K r)
def cCB (r : CC) (ta : CA) : CE := fun ws S Q => ta ws S fun us S1 => r us S1 Q
section
variable {X : Cx} {x : Str} {p pos : Pos} {e : Expr} {es : List Expr} {ta : CA} {idn T : String} {r : CC}
theorem cCB_mono (hr : MonC r) (ha : MonA ta) : MonE (cCB r ta) := fun ws S Q Q' f h => ha _ _ _ _ (fun us S1 q => hr _ _ _ _ f q) h
theorem cCB_ok {K : Fg} (hr : MonC r) (ha : MonA ta) {σ : L2.St} {H : Hp} {Q : VK} (h : liftE K (cCB r ta) σ H Q) : tCB (liftC K r) (liftA K ta) σ H Q := by
  obtain ⟨Z, S, ws, ok, re, h⟩ := h
  refine liftA_of ha ok re h fun us S1 vs H1 f1 ok1 r1 q1 => ?_
  exact ⟨Z, S1, us, ok1, r1, hr _ _ _ _ (fun w S' g v H' a b c => g v H' (f1.trans a) b c) q1⟩
theorem s_callB (hc : SC X (.builtin idn) r) (hm : X.mg x = none) (ha : SA X (e :: es) ta) (hg : Gl X x := by rfl) (hv : bootBuiltins x = some (.builtin idn) := by decide +kernel) (hn : x ≠ "__name__" := by decide) (hdb : (x == ("__debug__" : Str)) = false := by decide)
    (he : starEach (e :: es) X.env = (false, eval e X.env) :: starEach es X.env := by rfl) (hpl : (backTo pos (starEach es X.env)).any (·.1) = false := by rfl) : SE X (.Call (.Name x p) (e :: es) [] pos) (cCB r ta) :=
  ⟨cCB_mono hc.mono ha.mono, (pe_callB hc.ok hg hm hv ha.ok hn hdb he hpl).imp fun _ _ _ h => cCB_ok hc.mono ha.mono h⟩
theorem s_callT (hc : SC X (.type T) r) (hm : X.mg x = none) (ha : SA X (e :: es) ta) (hg : Gl X x := by rfl) (hv : bootBuiltins x = some (.type T) := by decide +kernel) (hn : x ≠ "__name__" := by decide) (hdb : (x == ("__debug__" : Str)) = false := by decide)
    (he : starEach (e :: es) X.env = (false, eval e X.env) :: starEach es X.env := by rfl) (hpl : (backTo pos (starEach es X.env)).any (·.1) = false := by rfl) : SE X (.Call (.Name x p) (e :: es) [] pos) (cCB r ta) :=
  ⟨cCB_mono hc.mono ha.mono, (pe_callTy hc.ok hg hm hv ha.ok hn hdb he hpl).imp fun _ _ _ h => cCB_ok hc.mono ha.mono h⟩
theorem sc_of {f : Value} {r : CC} (m : MonC r) (h : ∀ (pins : List (Addr × Obj)) (s : Shared) (σ : L2.St) (H : Hp) (xs : List V) (us : List Value) (Q : VK) (Z : List Addr) (S : Sto) (ws : List Cv), Inv X pins σ H s → Vals xs us → StOk X.K Z S H → Reps X.K Z S H ws xs →
    r ws S (fun w S' => ∀ v H', Fr S H S' H' → StOk X.K Z S' H' → Rep X.K Z S' H' w v → Q v H') → wpAny (model X.prog X.w) X.A (call f us) (EP X pins σ Q) X.xe s) : SC X f r :=
  ⟨m, fun pins s σ H xs us Q I rv q => by
    obtain ⟨Z, S, ws, ok, re, q⟩ := q
    exact h pins s σ H xs us Q Z S ws I rv ok re q⟩
/-- len -/
def cLen : CC := fun us S Q => match us with
  | [.str z] => z.length ≤ sizeLine ∧ Q (.int z.length) S
  | [w] => (match deref w S with | some w => (match seqOf w with | some xs => Q (.int xs.length) S | none => False) | none => False)
  | _ => False
theorem b_len : SC X (.builtin "len") cLen := sc_of (fun us S Q Q' f h => by
    unfold cLen at h ⊢
    repeat' split at h
    all_goals first | exact h.elim | exact f _ _ h | exact ⟨h.1, f _ _ h.2⟩) fun pins s σ H xs us Q Z S ws I rv ok re q => by
  unfold cLen at q
  split at q
  · cases re with
    | cons a b => cases b; cases a; exact call_len pins s σ H _ us Q I rv ⟨_, _, rfl, ⟨q.1, rfl⟩, q.2 _ H (Fr.refl S H) ok (.int _)⟩
  · cases re with
    | cons a b =>
      cases b
      split at q
      · rename_i w ew
        split at q
        · rename_i xs ex
          obtain ⟨p, vs, rfl, hs, rr⟩ := (deref_ok ok a ew).seq ex
          exact call_len_seq pins s σ H _ us Q I rv ⟨p, vs, rfl, hs, by rw [← rr.length]; exact q _ H (Fr.refl S H) ok (.int _)⟩
        · exact q.elim
      · exact q.elim
  · exact q.elim
def cAbs : CC := fun us S Q => match us with | [.int i] => Q (.int i.natAbs) S | _ => False
theorem b_abs : SC X (.builtin "abs") cAbs := sc_of (fun us S Q Q' f h => by
    unfold cAbs at h ⊢
    split at h
    · exact f _ _ h
    · exact h.elim) fun pins s σ H xs us Q Z S ws I rv ok re q => by
  unfold cAbs at q
  split at q
  · rename_i i
    cases re with
    | cons a b =>
      cases b; cases a
      refine call_abs pins s σ H _ us Q I rv ⟨i, rfl, ?_⟩
      have e : (if i < 0 then -i else i) = (i.natAbs : Int) := by split <;> omega
      rw [e]
      exact q _ H (Fr.refl S H) ok (.int _)
  · exact q.elim
def cInt : CC := fun us S Q => match us with | [.int i] => Q (.int i) S | [.bl b] => Q (.int (if b = true then 1 else 0)) S | _ => False
theorem b_int : SC X (.type "int") cInt := sc_of (fun us S Q Q' f h => by
    unfold cInt at h ⊢
    split at h
    · exact f _ _ h
    · exact f _ _ h
    · exact h.elim) fun pins s σ H xs us Q Z S ws I rv ok re q => by
  unfold cInt at q
  split at q
  · cases re with
    | cons a b => cases b; cases a; exact call_int1 pins s σ H _ us Q I rv (.inl ⟨_, rfl, q _ H (Fr.refl S H) ok (.int _)⟩)
  · cases re with
    | cons a b => cases b; cases a; exact call_int1 pins s σ H _ us Q I rv (.inr ⟨_, rfl, q _ H (Fr.refl S H) ok (.int _)⟩)
  · exact q.elim
/-- the ints of a list -/
def asInts : List Cv → Option (List Int)
  | [] => some []
  | .int i :: r => (asInts r).map (i :: ·)
  | _ => none
theorem asInts_ok {K : Fg} {Z : List Addr} {S : Sto} {H : Hp} : ∀ {ws : List Cv} {vs : List V} {ns : List Int}, Reps K Z S H ws vs → asInts ws = some ns → vs = ns.map V.int
  | _, _, ns, .nil, e => by
    simp only [asInts, Option.some.injEq] at e
    subst e; rfl
  | _, _, ns, .cons (w := w) (ws := ws) a r, e => by
    cases a with
    | int i =>
      simp only [asInts] at e
      cases h : asInts ws with
      | none => rw [h] at e; cases e
      | some ms =>
        rw [h] at e
        simp only [Option.map_some, Option.some.injEq] at e
        subst e
        rw [asInts_ok r h]; rfl
    | _ => simp [asInts] at e
def asBools : List Cv → Option (List Bool)
  | [] => some []
  | .bl b :: r => (asBools r).map (b :: ·)
  | _ => none
theorem asBools_ok {K : Fg} {Z : List Addr} {S : Sto} {H : Hp} : ∀ {ws : List Cv} {vs : List V} {ns : List Bool}, Reps K Z S H ws vs → asBools ws = some ns → vs = ns.map V.bl
  | _, _, ns, .nil, e => by
    simp only [asBools, Option.some.injEq] at e
    subst e; rfl
  | _, _, ns, .cons (w := w) (ws := ws) a r, e => by
    cases a with
    | bl i =>
      simp only [asBools] at e
      cases h : asBools ws with
      | none => rw [h] at e; cases e
      | some ms =>
        rw [h] at e
        simp only [Option.map_some, Option.some.injEq] at e
        subst e
        rw [asBools_ok r h]; rfl
    | _ => simp [asBools] at e
@[simp] theorem asInts_map (ns : List Int) : asInts (ns.map Cv.int) = some ns := by
  induction ns with
  | nil => rfl
  | cons n r ih => simp [asInts, ih]
@[simp] theorem asBools_map (ns : List Bool) : asBools (ns.map Cv.bl) = some ns := by
  induction ns with
  | nil => rfl
  | cons n r ih => simp [asBools, ih]
def lmax (d : Int) : List Int → Int
  | [] => d
  | x :: r => r.foldl max x
def lmin (d : Int) : List Int → Int
  | [] => d
  | x :: r => r.foldl min x
theorem foldl_max_spec : ∀ (r : List Int) (x : Int), (r.foldl max x = x ∨ r.foldl max x ∈ r) ∧ x ≤ r.foldl max x ∧ ∀ y ∈ r, y ≤ r.foldl max x
  | [], x => ⟨.inl rfl, Int.le_refl _, fun y h => by simp at h⟩
  | a :: r, x => by
    obtain ⟨h1, h2, h3⟩ := foldl_max_spec r (max x a)
    simp only [List.foldl_cons]
    refine ⟨?_, by omega, fun y hy => ?_⟩
    · rcases h1 with h1 | h1
      · by_cases c : x ≤ a
        · right; rw [h1, Int.max_eq_right c]; exact List.mem_cons_self
        · left; rw [h1, Int.max_eq_left (by omega)]
      · right; exact List.mem_cons_of_mem _ h1
    · rcases List.mem_cons.mp hy with e | hy
      · subst e; omega
      · exact h3 y hy
theorem foldl_min_spec : ∀ (r : List Int) (x : Int), (r.foldl min x = x ∨ r.foldl min x ∈ r) ∧ r.foldl min x ≤ x ∧ ∀ y ∈ r, r.foldl min x ≤ y
  | [], x => ⟨.inl rfl, Int.le_refl _, fun y h => by simp at h⟩
  | a :: r, x => by
    obtain ⟨h1, h2, h3⟩ := foldl_min_spec r (min x a)
    simp only [List.foldl_cons]
    refine ⟨?_, by omega, fun y hy => ?_⟩
    · rcases h1 with h1 | h1
      · by_cases c : x ≤ a
        · left; rw [h1, Int.min_eq_left c]
        · right; rw [h1, Int.min_eq_right (by omega)]; exact List.mem_cons_self
      · right; exact List.mem_cons_of_mem _ h1
    · rcases List.mem_cons.mp hy with e | hy
      · subst e; omega
      · exact h3 y hy
theorem lmax_mem {d : Int} {ns : List Int} (h : ns ≠ []) : lmax d ns ∈ ns := by
  cases ns with
  | nil => exact absurd rfl h
  | cons x r =>
    rcases (foldl_max_spec r x).1 with e | e
    · show r.foldl max x ∈ x :: r
      rw [e]; exact List.mem_cons_self
    · exact List.mem_cons_of_mem _ e
theorem lmax_ge {d : Int} {ns : List Int} : ∀ y ∈ ns, y ≤ lmax d ns := by
  cases ns with
  | nil => intro y h; simp at h
  | cons x r =>
    intro y h
    obtain ⟨_, h2, h3⟩ := foldl_max_spec r x
    rcases List.mem_cons.mp h with e | h
    · subst e; exact h2
    · exact h3 y h
theorem lmin_mem {d : Int} {ns : List Int} (h : ns ≠ []) : lmin d ns ∈ ns := by
  cases ns with
  | nil => exact absurd rfl h
  | cons x r =>
    rcases (foldl_min_spec r x).1 with e | e
    · show r.foldl min x ∈ x :: r
      rw [e]; exact List.mem_cons_self
    · exact List.mem_cons_of_mem _ e
theorem lmin_le {d : Int} {ns : List Int} : ∀ y ∈ ns, lmin d ns ≤ y := by
  cases ns with
  | nil => intro y h; simp at h
  | cons x r =>
    intro y h
    obtain ⟨_, h2, h3⟩ := foldl_min_spec r x
    rcases List.mem_cons.mp h with e | h
    · subst e; exact h2
    · exact h3 y h
/-- a list of ints, read -/
def intsOf (w : Cv) (S : Sto) : Option (List Int) := match deref w S with
  | some (.lst xs) => asInts xs
  | _ => none
theorem intsOf_ok {K : Fg} {Z : List Addr} {S : Sto} {H : Hp} {w : Cv} {v : V} {ns : List Int} (ok : StOk K Z S H) (r : Rep K Z S H w v) (e : intsOf w S = some ns) : ∃ a, v = .ref a ∧ H a = some (.lst (ns.map V.int)) := by
  unfold intsOf at e
  split at e
  · rename_i xs ex
    obtain ⟨a, vs, rfl, h, rr⟩ := RepD.lstH (deref_ok ok r ex)
    exact ⟨a, rfl, by rw [← asInts_ok rr e]; exact h⟩
  · cases e
/-- max, min: of two ints, of a list -/
def cMax : CC := fun us S Q => match us with
  | [.int i, .int j] => Q (.int (max i j)) S
  | [w] => (match intsOf w S with | some ns => ns ≠ [] ∧ Q (.int (lmax 0 ns)) S | none => False)
  | _ => False
def cMin : CC := fun us S Q => match us with
  | [.int i, .int j] => Q (.int (min i j)) S
  | [w] => (match intsOf w S with | some ns => ns ≠ [] ∧ Q (.int (lmin 0 ns)) S | none => False)
  | _ => False
theorem cMax_mono : MonC cMax := fun us S Q Q' f h => by
  unfold cMax at h ⊢
  repeat' split at h
  all_goals first | exact h.elim | exact f _ _ h | exact ⟨h.1, f _ _ h.2⟩
theorem cMin_mono : MonC cMin := fun us S Q Q' f h => by
  unfold cMin at h ⊢
  repeat' split at h
  all_goals first | exact h.elim | exact f _ _ h | exact ⟨h.1, f _ _ h.2⟩
theorem b_max (hc : X.calm = true) : SC X (.builtin "max") cMax := sc_of cMax_mono fun pins s σ H xs us Q Z S ws I rv ok re q => by
  unfold cMax at q
  split at q
  · rename_i i j
    cases re with
    | cons a b =>
      cases a
      cases b with
      | cons a b =>
        cases a; cases b
        refine call_max2 hc pins s σ H _ us Q I rv ⟨i, j, rfl, ?_⟩
        have e : (if j > i then j else i) = max i j := by split <;> omega
        rw [e]
        exact q _ H (Fr.refl S H) ok (.int _)
  · cases re with
    | cons a b =>
      cases b
      split at q
      · rename_i ns en
        obtain ⟨p, rfl, hp⟩ := intsOf_ok ok a en
        refine cr_max hc pins s σ H _ us Q I rv ⟨p, ns, rfl, .inl (.inl hp), List.length_pos_iff.mpr q.1, fun m hm hge => ?_⟩
        have e : m = lmax 0 ns := Int.le_antisymm (lmax_ge m hm) (hge _ (lmax_mem q.1))
        rw [e]
        exact q.2 _ H (Fr.refl S H) ok (.int _)
      · exact q.elim
  · exact q.elim
theorem b_min (hc : X.calm = true) : SC X (.builtin "min") cMin := sc_of cMin_mono fun pins s σ H xs us Q Z S ws I rv ok re q => by
  unfold cMin at q
  split at q
  · rename_i i j
    cases re with
    | cons a b =>
      cases a
      cases b with
      | cons a b =>
        cases a; cases b
        refine call_min2 hc pins s σ H _ us Q I rv ⟨i, j, rfl, ?_⟩
        have e : (if j < i then j else i) = min i j := by split <;> omega
        rw [e]
        exact q _ H (Fr.refl S H) ok (.int _)
  · cases re with
    | cons a b =>
      cases b
      split at q
      · rename_i ns en
        obtain ⟨p, rfl, hp⟩ := intsOf_ok ok a en
        refine cr_min hc pins s σ H _ us Q I rv ⟨p, ns, rfl, .inl (.inl hp), List.length_pos_iff.mpr q.1, fun m hm hge => ?_⟩
        have e : m = lmin 0 ns := Int.le_antisymm (hge _ (lmin_mem q.1)) (lmin_le m hm)
        rw [e]
        exact q.2 _ H (Fr.refl S H) ok (.int _)
      · exact q.elim
  · exact q.elim
def cSum : CC := fun us S Q => match us with
  | [w] => (match intsOf w S with | some ns => Q (.int ns.sum) S | none => False)
  | _ => False
theorem b_sum (hc : X.calm = true) : SC X (.builtin "sum") cSum := sc_of (fun us S Q Q' f h => by
    unfold cSum at h ⊢
    repeat' split at h
    all_goals first | exact h.elim | exact f _ _ h) fun pins s σ H xs us Q Z S ws I rv ok re q => by
  unfold cSum at q
  split at q
  · cases re with
    | cons a b =>
      cases b
      split at q
      · rename_i ns en
        obtain ⟨p, rfl, hp⟩ := intsOf_ok ok a en
        exact cr_sum hc pins s σ H _ us Q I rv ⟨p, ns, rfl, .inl (.inl hp), q _ H (Fr.refl S H) ok (.int _)⟩
      · exact q.elim
  · exact q.elim
/-- all, any, of a list of bools -/
def boolsOf (w : Cv) (S : Sto) : Option (List Bool) := match deref w S with
  | some (.lst xs) => asBools xs
  | _ => none
theorem boolsOf_ok {K : Fg} {Z : List Addr} {S : Sto} {H : Hp} {w : Cv} {v : V} {ns : List Bool} (ok : StOk K Z S H) (r : Rep K Z S H w v) (e : boolsOf w S = some ns) : ∃ a, v = .ref a ∧ H a = some (.lst (ns.map V.bl)) := by
  unfold boolsOf at e
  split at e
  · rename_i xs ex
    obtain ⟨a, vs, rfl, h, rr⟩ := RepD.lstH (deref_ok ok r ex)
    exact ⟨a, rfl, by rw [← asBools_ok rr e]; exact h⟩
  · cases e
def cBools (g : List Bool → Bool) : CC := fun us S Q => match us with
  | [w] => (match boolsOf w S with | some ns => Q (.bl (g ns)) S | none => False)
  | _ => False
abbrev cAll : CC := cBools fun bs => bs.all (fun b => b)
abbrev cAny : CC := cBools fun bs => bs.any (fun b => b)
theorem cBools_mono {g : List Bool → Bool} : MonC (cBools g) := fun us S Q Q' f h => by
  unfold cBools at h ⊢
  repeat' split at h
  all_goals first | exact h.elim | exact f _ _ h
theorem b_all (hc : X.calm = true) : SC X (.builtin "all") cAll := sc_of cBools_mono fun pins s σ H xs us Q Z S ws I rv ok re q => by
  unfold cAll cBools at q
  split at q
  · cases re with
    | cons a b =>
      cases b
      split at q
      · rename_i ns en
        obtain ⟨p, rfl, hp⟩ := boolsOf_ok ok a en
        exact cr_all hc pins s σ H _ us Q I rv ⟨p, ns, rfl, .inl (.inl hp), q _ H (Fr.refl S H) ok (.bl _)⟩
      · exact q.elim
  · exact q.elim
theorem b_any (hc : X.calm = true) : SC X (.builtin "any") cAny := sc_of cBools_mono fun pins s σ H xs us Q Z S ws I rv ok re q => by
  unfold cAny cBools at q
  split at q
  · cases re with
    | cons a b =>
      cases b
      split at q
      · rename_i ns en
        obtain ⟨p, rfl, hp⟩ := boolsOf_ok ok a en
        exact cr_any hc pins s σ H _ us Q I rv ⟨p, ns, rfl, .inl (.inl hp), q _ H (Fr.refl S H) ok (.bl _)⟩
      · exact q.elim
  · exact q.elim
/-- tuple(x) -/
def cTupleOf : CC := fun us S Q => match us with
  | [w] => (match deref w S with | some (.lst xs) => Q (.tup xs) S | some (.tup xs) => Q (.tup xs) S | _ => False)
  | _ => False
theorem b_tuple : SC X (.type "tuple") cTupleOf := sc_of (fun us S Q Q' f h => by
    unfold cTupleOf at h ⊢
    repeat' split at h
    all_goals first | exact h.elim | exact f _ _ h) fun pins s σ H xs us Q Z S ws I rv ok re q => by
  unfold cTupleOf at q
  split at q
  · cases re with
    | cons a b =>
      cases b
      split at q
      · rename_i ys ey
        obtain ⟨p, vs, rfl, h, rr⟩ := RepD.lstH (deref_ok ok a ey)
        exact call_tuple_of pins s σ H _ us Q I rv ⟨p, vs, rfl, .inl ⟨.inl (.inl h), fun l hl => new_tup ok hl rr q⟩⟩
      · rename_i ys ey
        have r2 : Rep X.K Z S H (.tup ys) _ := deref_ok ok a ey
        obtain ⟨p, vs, rfl, h, rr⟩ := RepD.tupH r2
        exact call_tuple_of pins s σ H _ us Q I rv ⟨p, vs, rfl, .inr ⟨h, q _ H (Fr.refl S H) ok r2⟩⟩
      · exact q.elim
  · exact q.elim
/-! repr -/
mutual
def showsOk : Cv → Bool
  | .int i => decide (i.natAbs.log2 < 1920)
  | .tup xs => showsOks xs
  | .lst xs => showsOks xs
  | _ => true
def showsOks : List Cv → Bool
  | [] => true
  | x :: r => showsOk x && showsOks r
end
mutual
theorem showable_py : ∀ w : Cv, isD w = true → (py w).showable = showsOk w
  | .non, _ => by simp [py, PyData.showable, showsOk]
  | .bl b, _ => by simp [py, PyData.showable, showsOk]
  | .int i, _ => by simp [py, PyData.showable, showsOk]
  | .str x, h => by simp [py, PyData.showable, showsOk]
  | .tup xs, h => by simp [py, PyData.showable, showsOk, showable_pys xs (by simpa [isD] using h)]
  | .lst xs, h => by simp [py, PyData.showable, showsOk, showable_pys xs (by simpa [isD] using h)]
  | .dK _, h => by simp [isD] at h
  | .dT _, h => by simp [isD] at h
  | .ref _, h => by simp [isD] at h
  | .opq _, h => by simp [isD] at h
  | .scr _, h => by simp [isD] at h
theorem showable_pys : ∀ xs : List Cv, isDs xs = true → PyData.showableAll (pys xs) = showsOks xs
  | [], _ => by simp [pys, PyData.showableAll, showsOks]
  | x :: r, h => by
    simp only [isDs, Bool.and_eq_true] at h
    simp [pys, PyData.showableAll, showsOks, showable_py x h.1, showable_pys r h.2]
end
mutual
theorem noDict_py : ∀ w : Cv, (py w).hasDict = false
  | .non => by simp [py, PyData.hasDict]
  | .bl b => by simp [py, PyData.hasDict]
  | .int i => by simp [py, PyData.hasDict]
  | .str x => by simp [py, PyData.hasDict]
  | .tup xs => by simp [py, PyData.hasDict, noDict_pys xs]
  | .lst xs => by simp [py, PyData.hasDict, noDict_pys xs]
  | .dK _ => by simp [py, PyData.hasDict]
  | .dT _ => by simp [py, PyData.hasDict]
  | .ref _ => by simp [py, PyData.hasDict]
  | .opq _ => by simp [py, PyData.hasDict]
  | .scr _ => by simp [py, PyData.hasDict]
theorem noDict_pys : ∀ xs : List Cv, PyData.hasDictAll (pys xs) = false
  | [] => by simp [pys, PyData.hasDictAll]
  | x :: r => by simp [pys, PyData.hasDictAll, noDict_py x, noDict_pys r]
end
/-- the text that repr gives -/
def rp (w : Cv) : Str := (py w).shown
def okR (w : Cv) : Prop := okD w = true ∧ showsOk w = true ∧ (rp w).length ≤ sizeLine
def cRepr : CC := fun us S Q => match us with
  | [w] => (match deref w S with | some w => okR w ∧ Q (.str (rp w)) S | none => False)
  | _ => False
theorem b_repr (hu : X.A.units + 66 < cLine) (hg : X.A.guards = some []) : SC X (.builtin "repr") cRepr := sc_of (fun us S Q Q' f h => by
    unfold cRepr at h ⊢
    repeat' split at h
    all_goals first | exact h.elim | exact ⟨h.1, f _ _ h.2⟩) fun pins s σ H xs us Q Z S ws I rv ok re q => by
  unfold cRepr at q
  split at q
  · cases re with
    | cons a b =>
      cases b
      split at q
      · rename_i w ew
        obtain ⟨⟨hD, hS, hZ⟩, q⟩ := q
        have rD := deref_ok ok a ew
        have hd := okD_D hD
        obtain ⟨u, rfl, ru⟩ := vals1 rv
        obtain ⟨as, rd⟩ := Dp.reads I _ _ _ (rD.dp hd) ru
        have fin : ∀ (h' : Heap) (u : Tok) (tk : Nat), (∀ b o, s.heap.get? b = some o → h'.get? b = some o) → EP X pins σ Q (.str (rp w) u) { s with heap := h', toks := tk } := fun h' u tk hk =>
          ⟨.str (rp w), H, I.kept hk, ⟨u, rfl⟩, q _ H (Fr.refl S H) ok (.str _)⟩
        have fin0 : EP X pins σ Q (.str (rp w) s.toks) { s with toks := s.toks + 1 } := fin s.heap _ _ fun _ _ h => h
        have isref : (∃ p, u = Value.ref p) → wpAny (model X.prog X.w) X.A (call (.builtin "repr") [u]) (EP X pins σ Q) X.xe s := by
          rintro ⟨p, rfl⟩
          exact repr_of_reads' rd (by rw [showable_py w hd]; exact hS) (fun e => by rw [noDict_py] at e; cases e) hg (by rw [depth_py]; have := okD_dep hD; omega) (fun _ _ h => h) fin hZ
        cases w with
        | non => cases rD; cases ru; exact PySem.P.repr_of_none fin0
        | bl b => cases rD; cases ru; exact PySem.P.repr_of_bool fin0
        | int i =>
          cases rD
          obtain ⟨t, rfl⟩ := ru
          exact PySem.P.repr_of_int (by simpa [showsOk] using hS) fin0
        | str z =>
          cases rD
          obtain ⟨t, rfl⟩ := ru
          exact PySem.P.repr_of_str fin0 hZ
        | tup xs =>
          obtain ⟨p, vs, rfl, _, _⟩ := RepD.tupH rD
          exact isref ⟨p, ru⟩
        | lst xs =>
          obtain ⟨p, vs, rfl, _, _⟩ := RepD.lstH rD
          exact isref ⟨p, ru⟩
        | _ => simp [isD] at hd
      · exact q.elim
  · exact q.elim
end
end CL

set_option Elab.async false
set_option linter.all false
set_option maxRecDepth 100000
set_option maxHeartbeats 1000000
/-! CL7: max and min with a default; methods of lists; chains; in -/
namespace CL
open PySem PySem.Spec PyProof.Rows L2

/-! ### max(xs, default=d), min(xs, default=d) -/
theorem maxOf_eq (x : Int) (r : List Int) : PySem.W.maxOf x r = r.foldl max x := by
  unfold PySem.W.maxOf
  congr 1
  funext a y
  show (if decide (a < y) = true then y else a) = max a y
  by_cases h : a < y
  · simp [h]; omega
  · simp [h]; omega
theorem minOf_eq (x : Int) (r : List Int) : PySem.W.minOf x r = r.foldl min x := by
  unfold PySem.W.minOf
  congr 1
  funext a y
  show (if decide (y < a) = true then y else a) = min a y
  by_cases h : y < a
  · simp [h]; omega
  · simp [h]; omega
theorem holds_int {h : Heap} {v : Value} {M : Int} (H : PySem.W.Holds h v M) : ∃ t, v = .int M t := by
  obtain ⟨as, r⟩ := H
  cases r with
  | int i t => exact ⟨t, rfl⟩
theorem holdAll_ints {X : Cx} {pins : List (Addr × Obj)} {σ : L2.St} {H : Hp} {s : Shared} (I : Inv X pins σ H s) : ∀ {ns : List Int} {its : List Value}, Vals (ns.map V.int) its → PySem.W.HoldAll s.heap its ns
  | [], _, r => by cases r; exact ⟨_, .nil⟩
  | n :: ns, _, r => by
    cases r with
    | cons a r =>
      obtain ⟨t, rfl⟩ := a
      obtain ⟨as, h⟩ := holdAll_ints I r
      exact ⟨_, .cons (.int n t) h⟩
abbrev CCK := List Cv → List Cv → Sto → (Cv → Sto → Prop) → Prop
def MonCK (r : CCK) : Prop := ∀ us zs S (Q Q' : Cv → Sto → Prop), (∀ w S', Q w S' → Q' w S') → r us zs S Q → r us zs S Q'
def liftCK (K : Fg) (r : CCK) : List V → List V → Hp → VK → Prop := fun vs ys H Q => ∃ Z S us zs, StOk K Z S H ∧ Reps K Z S H us vs ∧ Reps K Z S H zs ys ∧ r us zs S fun w S' => ∀ v H', Fr S H S' H' → StOk K Z S' H' → Rep K Z S' H' w v → Q v H'
structure SCK (X : Cx) (f : Value) (ks : List Str) (r : CCK) : Prop where
  mono : MonCK r
  ok : CallRK X f ks (liftCK X.K r)
structure SK (X : Cx) (kws : List Keyword) (t : CA) : Prop where
  mono : MonA t
  ok : PK X kws (liftA X.K t)
theorem _root_.L2.PK.imp {X : Cx} {es : List Keyword} {t t' : TA} (h : PK X es t) (f : ∀ σ H Q, t' σ H Q → t σ H Q) : PK X es t' := ⟨fun pos pins s σ H Q I q => h.run pos pins s σ H Q I (f σ H Q q)⟩
def cCKw (r : CCK) (ta tk : CA) : CE := fun ws S Q => ta ws S fun us S1 => tk ws S1 fun zs S2 => r us zs S2 Q
section
variable {X : Cx} {x : Str} {p pos kpos : Pos} {e : Expr} {es : List Expr} {kws : List Keyword} {te : CE} {ta tk t : CA} {idn : String} {ks : List Str} {r : CCK} {nm : Option Str}
theorem sk_nil : SK X [] cNil := by
  refine ⟨fun ws S Q Q' f h => f _ _ h, pk_nil.imp fun σ H Q h => ?_⟩
  obtain ⟨Z, S, ws, ok, re, h⟩ := h
  exact h [] H (Fr.refl S H) ok .nil
theorem sk_cons (ha : SE X e te) (hr : SK X kws t) : SK X (⟨nm, e, kpos⟩ :: kws) (cCons te t) := by
  refine ⟨fun ws S Q Q' f h => ha.mono _ _ _ _ (fun w S1 h1 => hr.mono _ _ _ _ (fun r S2 h2 => f _ _ h2) h1) h, (pk_cons ha.ok hr.ok).imp fun σ H Q h => ?_⟩
  obtain ⟨Z, S, ws, ok, re, h⟩ := h
  refine liftE_of ha.mono ok re h fun w S1 v1 H1 f1 ok1 r1 h1 => ?_
  refine liftA_of hr.mono ok1 (re.fr f1) h1 fun us S2 vs H2 f2 ok2 r2 h2 => ?_
  exact h2 (v1 :: vs) H2 (f1.trans f2) ok2 (.cons (r1.fr f2) r2)
theorem s_callBK (hc : SCK X (.builtin idn) ks r) (hm : X.mg x = none) (ha : SA X (e :: es) ta) (hk : SK X kws tk) (hg : Gl X x := by rfl) (hv : bootBuiltins x = some (.builtin idn) := by decide +kernel) (hn : x ≠ "__name__" := by decide) (hdb : (x == ("__debug__" : Str)) = false := by decide)
    (he : backTo pos (starEach (e :: es) X.env) = (false, eval e X.env) :: backTo pos (starEach es X.env) := by rfl) (hpl : (backTo pos (starEach (e :: es) X.env)).any (·.1) = false := by rfl)
    (hall : (backToKw pos (keywordEach kws X.env)).all (·.1.isSome) = true := by rfl) (hnone : (backToKw pos (keywordEach kws X.env)).any (·.1.isNone) = false := by rfl) (hks : (backToKw pos (keywordEach kws X.env)).filterMap (·.1) = ks := by rfl) :
    SE X (.Call (.Name x p) (e :: es) kws pos) (cCKw r ta tk) := by
  refine ⟨fun ws S Q Q' f h => ha.mono _ _ _ _ (fun us S1 h1 => hk.mono _ _ _ _ (fun zs S2 h2 => hc.mono _ _ _ _ _ f h2) h1) h, (pe_callBK hc.ok hg hm hv ha.ok hk.ok hn hdb he hpl hall hnone hks).imp fun σ H Q h => ?_⟩
  obtain ⟨Z, S, ws, ok, re, h⟩ := h
  refine liftA_of ha.mono ok re h fun us S1 vs H1 f1 ok1 r1 h1 => ?_
  refine liftA_of hk.mono ok1 (re.fr f1) h1 fun zs S2 ys H2 f2 ok2 r2 h2 => ?_
  exact ⟨Z, S2, us, zs, ok2, r1.fr f2, r2, hc.mono _ _ _ _ _ (fun w S' g v H' a b c => g v H' ((f1.trans f2).trans a) b c) h2⟩
def cMaxD : CCK := fun us zs S Q => match us, zs with
  | [w], [d] => (match intsOf w S with | some [] => Q d S | some ns => Q (.int (lmax 0 ns)) S | none => False)
  | _, _ => False
def cMinD : CCK := fun us zs S Q => match us, zs with
  | [w], [d] => (match intsOf w S with | some [] => Q d S | some ns => Q (.int (lmin 0 ns)) S | none => False)
  | _, _ => False
theorem cMaxD_mono : MonCK cMaxD := fun us zs S Q Q' f h => by
  unfold cMaxD at h ⊢
  repeat' split at h
  all_goals first | exact h.elim | exact f _ _ h
theorem cMinD_mono : MonCK cMinD := fun us zs S Q Q' f h => by
  unfold cMinD at h ⊢
  repeat' split at h
  all_goals first | exact h.elim | exact f _ _ h
theorem b_maxD (hc : X.calm = true) (hu : X.A.units + 64 < cLine) : SCK X (.builtin "max") ["default"] cMaxD := ⟨cMaxD_mono, fun pins s σ H xs zs us ws Q I rx rz q => by
  obtain ⟨Z, S, cs, ds, ok, re, rk, q⟩ := q
  unfold cMaxD at q
  split at q
  · rename_i w d
    cases re with
    | cons a b =>
      cases b
      cases rk with
      | cons a2 b2 =>
        cases b2
        obtain ⟨u, rfl, ru⟩ := vals1 rx
        obtain ⟨u2, rfl, ru2⟩ := vals1 rz
        have go : ∀ ns, intsOf w S = some ns → (ns = [] → ∀ v H', Fr S H S H' → StOk X.K Z S H' → Rep X.K Z S H' d v → Q v H') → (ns ≠ [] → ∀ v H', Fr S H S H' → StOk X.K Z S H' → Rep X.K Z S H' (.int (lmax 0 ns)) v → Q v H') →
            wpAny (model X.prog X.w) X.A (call (.builtin "max") [u] [("default", u2)]) (EP X pins σ Q) X.xe s := by
          intro ns en q1 q2
          obtain ⟨p, e, hp⟩ := intsOf_ok ok a en
          subst e
          cases ru
          obtain ⟨its, rv, pl, _⟩ := I.list (.inl (.inl hp))
          refine PySem.W.max_list_datum_default (I.ok.hd hc) pl.isList (holdAll_ints I rv) (by show X.A.units + 1 + 0 < cLine; omega) (fun e h' tk hk => ?_) fun y ys i v h' tk e hi hol hk => ?_
          · exact ⟨_, H, I.kept hk, ru2, q1 e _ H (Fr.refl S H) ok a2⟩
          · obtain ⟨t, rfl⟩ := holds_int hol
            refine ⟨.int (lmax 0 ns), H, I.kept hk, ⟨t, ?_⟩, q2 (by rw [e]; simp) _ H (Fr.refl S H) ok (.int _)⟩
            rw [e, maxOf_eq]; rfl
        cases en : intsOf w S with
        | none => rw [en] at q; exact q.elim
        | some ns =>
          rw [en] at q
          cases ns with
          | nil => exact go [] en (fun _ => q) fun h => absurd rfl h
          | cons n ns => exact go (n :: ns) en (fun h => by cases h) fun _ => q
  · exact q.elim⟩
theorem b_minD (hc : X.calm = true) (hu : X.A.units + 64 < cLine) : SCK X (.builtin "min") ["default"] cMinD := ⟨cMinD_mono, fun pins s σ H xs zs us ws Q I rx rz q => by
  obtain ⟨Z, S, cs, ds, ok, re, rk, q⟩ := q
  unfold cMinD at q
  split at q
  · rename_i w d
    cases re with
    | cons a b =>
      cases b
      cases rk with
      | cons a2 b2 =>
        cases b2
        obtain ⟨u, rfl, ru⟩ := vals1 rx
        obtain ⟨u2, rfl, ru2⟩ := vals1 rz
        have go : ∀ ns, intsOf w S = some ns → (ns = [] → ∀ v H', Fr S H S H' → StOk X.K Z S H' → Rep X.K Z S H' d v → Q v H') → (ns ≠ [] → ∀ v H', Fr S H S H' → StOk X.K Z S H' → Rep X.K Z S H' (.int (lmin 0 ns)) v → Q v H') →
            wpAny (model X.prog X.w) X.A (call (.builtin "min") [u] [("default", u2)]) (EP X pins σ Q) X.xe s := by
          intro ns en q1 q2
          obtain ⟨p, e, hp⟩ := intsOf_ok ok a en
          subst e
          cases ru
          obtain ⟨its, rv, pl, _⟩ := I.list (.inl (.inl hp))
          refine PySem.W.min_list_datum_default (I.ok.hd hc) pl.isList (holdAll_ints I rv) (by show X.A.units + 1 + 0 < cLine; omega) (fun e h' tk hk => ?_) fun y ys i v h' tk e hi hol hk => ?_
          · exact ⟨_, H, I.kept hk, ru2, q1 e _ H (Fr.refl S H) ok a2⟩
          · obtain ⟨t, rfl⟩ := holds_int hol
            refine ⟨.int (lmin 0 ns), H, I.kept hk, ⟨t, ?_⟩, q2 (by rw [e]; simp) _ H (Fr.refl S H) ok (.int _)⟩
            rw [e, minOf_eq]; rfl
        cases en : intsOf w S with
        | none => rw [en] at q; exact q.elim
        | some ns =>
          rw [en] at q
          cases ns with
          | nil => exact go [] en (fun _ => q) fun h => absurd rfl h
          | cons n ns => exact go (n :: ns) en (fun h => by cases h) fun _ => q
  · exact q.elim⟩

/-! ### methods -/
abbrev CM := Cv → List Cv → Sto → (Cv → Sto → Prop) → Prop
def MonM (r : CM) : Prop := ∀ o us S (Q Q' : Cv → Sto → Prop), (∀ w S', Q w S' → Q' w S') → r o us S Q → r o us S Q'
def liftM (K : Fg) (r : CM) : V → List V → Hp → VK → Prop := fun x vs H Q => ∃ Z S o us, StOk K Z S H ∧ Rep K Z S H o x ∧ Reps K Z S H us vs ∧ r o us S fun w S' => ∀ v H', Fr S H S' H' → StOk K Z S' H' → Rep K Z S' H' w v → Q v H'
structure SM (X : Cx) (idn : String) (r : CM) : Prop where
  mono : MonM r
  ok : MtR X idn (liftM X.K r)
/-- of that built-in type -/
def tyC (T : String) (o : Cv) (S : Sto) : Prop := match o with
  | .str _ => T = "str"
  | .lst _ => T = "list"
  | .dK _ => T = "dict"
  | .dT _ => T = "dict"
  | .ref a => (match S a with | some (.lst _) => T = "list" | some (.dK _) => T = "dict" | some (.dT _) => T = "dict" | _ => False)
  | _ => False
theorem tyC_ok {K : Fg} {Z : List Addr} {S : Sto} {H : Hp} {T : String} {o : Cv} {x : V} (ok : StOk K Z S H) (r : Rep K Z S H o x) (h : tyC T o S) : tyV K T x H := by
  cases r with
  | str z => exact h
  | lst hh n z rr => exact .inl ⟨h, _, .inl (.inl hh)⟩
  | dK hh n z e rr => exact .inr (.inr (.inl ⟨h, .inl ⟨_, hh⟩⟩))
  | dT hh n z e rr => exact .inr (.inr (.inl ⟨h, .inr ⟨_, hh⟩⟩))
  | ref a =>
    unfold tyC at h
    cases e : S a with
    | none => simp [e] at h
    | some ob =>
      have ro := ok.ob a ob e
      cases ob with
      | lst xs => simp only [e] at h; obtain ⟨vs, h1, _⟩ := ro; exact .inl ⟨h, _, .inl (.inl h1)⟩
      | dK xs => simp only [e] at h; obtain ⟨vs, h1, _⟩ := ro; exact .inr (.inr (.inl ⟨h, .inl ⟨_, h1⟩⟩))
      | dT xs => simp only [e] at h; obtain ⟨vs, h1, _⟩ := ro; exact .inr (.inr (.inl ⟨h, .inr ⟨_, h1⟩⟩))
      | ins C dx fs => simp [e] at h
  | _ => exact h.elim
def cBM (T : String) (r : CM) (to : CE) (ta : CA) : CE := fun ws S Q => to ws S fun o S1 => tyC T o S1 ∧ ta ws S1 fun us S2 => r o us S2 Q
variable {o : Expr} {to : CE} {name : Str} {apos cpos : Pos} {T : String} {rm : CM}
theorem cBM_mono (hr : MonM rm) (ho : MonE to) (ha : MonA ta) : MonE (cBM T rm to ta) := fun ws S Q Q' f h => ho _ _ _ _ (fun o S1 h1 => ⟨h1.1, ha _ _ _ _ (fun us S2 h2 => hr _ _ _ _ _ f h2) h1.2⟩) h
theorem s_bm (pa : PlainAttrs T) (slot : Slot T name idn) (hm : SM X idn rm) (ho : SE X o to) (ha : SA X (e :: es) ta) (hty : typeOf (.builtin idn) = pure (.type "method_descriptor") := by rfl)
    (hbase : attributeBase o name X.env (eval o X.env) = eval o X.env := by rfl)
    (hfew : ((backTo cpos (starEach (e :: es) X.env)).all (fun x => !x.1) && (backToKw cpos (keywordEach [] X.env)).all (fun x => x.1.isSome)
      && decide ((e :: es).length + ([] : List Keyword).length + (if ([] : List Keyword).isEmpty then 0 else 1) < 30)) = true := by rfl)
    (hline : (apos.endLine == cpos.line) = true := by rfl) (hs : starEach (e :: es) X.env = (false, eval e X.env) :: starEach es X.env := by rfl) (hplain : (backTo cpos (starEach es X.env)).any (·.1) = false := by rfl) :
    SE X (.Call (.Attribute o name apos) (e :: es) [] cpos) (cBM T rm to ta) :=
  ⟨cBM_mono hm.mono ho.mono ha.mono, (pe_bm pa slot hty hm.ok ho.ok ha.ok hbase hfew hline hs hplain).imp fun σ H Q h => by
    obtain ⟨Z, S, ws, ok, re, h⟩ := h
    refine liftE_of ho.mono ok re h fun w S1 v1 H1 f1 ok1 r1 h1 => ⟨tyC_ok ok1 r1 h1.1, ?_⟩
    refine liftA_of ha.mono ok1 (re.fr f1) h1.2 fun us S2 vs H2 f2 ok2 r2 h2 => ?_
    exact ⟨Z, S2, w, us, ok2, r1.fr f2, r2, hm.mono _ _ _ _ _ (fun w S' g v H' a b c => g v H' ((f1.trans f2).trans a) b c) h2⟩⟩
theorem s_bm0 (pa : PlainAttrs T) (slot : Slot T name idn) (hm : SM X idn rm) (ho : SE X o to) (hty : typeOf (.builtin idn) = pure (.type "method_descriptor") := by rfl)
    (hbase : attributeBase o name X.env (eval o X.env) = eval o X.env := by rfl) (hline : (apos.endLine == cpos.line) = true := by rfl) : SE X (.Call (.Attribute o name apos) [] [] cpos) (cBM T rm to cNil) :=
  ⟨cBM_mono hm.mono ho.mono (fun _ _ _ _ f h => f _ _ h), (pe_bm0 pa slot hty hm.ok ho.ok hbase hline).imp fun σ H Q h => by
    obtain ⟨Z, S, ws, ok, re, h⟩ := h
    refine liftE_of ho.mono ok re h fun w S1 v1 H1 f1 ok1 r1 h1 => ⟨tyC_ok ok1 r1 h1.1, ?_⟩
    exact ⟨Z, S1, w, [], ok1, r1, .nil, hm.mono _ _ _ _ _ (fun w S' g v H' a b c => g v H' (f1.trans a) b c) h1.2⟩⟩
theorem sm_of {r : CM} (m : MonM r) (h : ∀ (pins : List (Addr × Obj)) (s : Shared) (σ : L2.St) (H : Hp) (x : V) (xs : List V) (v : Value) (us : List Value) (Q : VK) (Z : List Addr) (S : Sto) (o : Cv) (ws : List Cv), Inv X pins σ H s → RelV x v → Vals xs us → StOk X.K Z S H → Rep X.K Z S H o x → Reps X.K Z S H ws xs →
    r o ws S (fun w S' => ∀ v H', Fr S H S' H' → StOk X.K Z S' H' → Rep X.K Z S' H' w v → Q v H') → wpAny (model X.prog X.w) X.A (call (.builtin idn) (v :: us)) (EP X pins σ Q) X.xe s) : SM X idn r :=
  ⟨m, fun pins s σ H x xs v us Q I rx rv q => by
    obtain ⟨Z, S, o, ws, ok, ro, re, q⟩ := q
    exact h pins s σ H x xs v us Q Z S o ws I rx rv ok ro re q⟩
/-- an owned list is written -/
theorem own_wr {K : Fg} {Z : List Addr} {S : Sto} {H : Hp} {Q : VK} {p : Addr} {xs ys : List Cv} {vs : List V} {w : Cv} {v : V} (ok : StOk K Z S H) (e : S p = some (.lst xs)) (r : Reps K Z S H ys vs) (rw' : Rep K Z S H w v)
    (q : ∀ v H', Fr S H (S.set p (.lst ys)) H' → StOk K Z (S.set p (.lst ys)) H' → Rep K Z (S.set p (.lst ys)) H' w v → Q v H') : Q v (upd H p (.lst vs)) := by
  have f : Fr S H (S.set p (.lst ys)) (upd H p (.lst vs)) := Fr.wr e
  exact q v _ f (ok.wr e ⟨vs, upd_same, r.fr f⟩) (rw'.fr f)
def cAppend : CM := fun o us S Q => match o, us with
  | .ref p, [w] => ownL S p fun xs => xs.length < sizeLine ∧ Q .non (S.set p (.lst (xs ++ [w])))
  | _, _ => False
theorem m_append : SM X "list.append" cAppend := sm_of (fun o us S Q Q' f h => by
    unfold cAppend at h ⊢
    split at h
    · exact ownL_imp (fun xs q => ⟨q.1, f _ _ q.2⟩) h
    · exact h.elim) fun pins s σ H x xs v us Q Z S o ws I rx rv ok ro re q => by
  unfold cAppend at q
  split at q
  · rename_i p w
    obtain ⟨ys, e, hz, q⟩ := ownL_of q
    obtain ⟨vs, hp, rr⟩ := ok.ob p _ e
    cases ro
    cases re with
    | cons a b =>
      cases b
      exact mt_append pins s σ H _ _ v us Q I rx rv ⟨p, vs, _, rfl, rfl, hp, by rw [← rr.length]; exact hz, own_wr ok e (rr.app (.one a)) .non q⟩
  · exact q.elim
def cExtend : CM := fun o us S Q => match o, us with
  | .ref p, [w] => ownL S p fun xs => match deref w S with
    | some (.lst zs) => xs.length + zs.length ≤ sizeLine ∧ Q .non (S.set p (.lst (xs ++ zs)))
    | _ => False
  | _, _ => False
theorem m_extend : SM X "list.extend" cExtend := sm_of (fun o us S Q Q' f h => by
    unfold cExtend at h ⊢
    split at h
    · refine ownL_imp (fun xs q => ?_) h
      split at q
      · exact ⟨q.1, f _ _ q.2⟩
      · exact q.elim
    · exact h.elim) fun pins s σ H x xs v us Q Z S o ws I rx rv ok ro re q => by
  unfold cExtend at q
  split at q
  · rename_i p w
    obtain ⟨ys, e, q⟩ := ownL_of q
    obtain ⟨vs, hp, rr⟩ := ok.ob p _ e
    cases ro
    cases re with
    | cons a b =>
      cases b
      split at q
      · rename_i zs ez
        obtain ⟨b, v2, rfl, hb, r2⟩ := RepD.lstH (deref_ok ok a ez)
        exact mt_extend pins s σ H _ _ v us Q I rx rv ⟨p, b, vs, v2, rfl, rfl, hp, hb, by rw [← rr.length, ← r2.length]; exact q.1, own_wr ok e (rr.app r2) .non q.2⟩
      · exact q.elim
  · exact q.elim
theorem reps_dropLast {K : Fg} {Z : List Addr} {S : Sto} {H : Hp} {ws : List Cv} {vs : List V} (r : Reps K Z S H ws vs) : Reps K Z S H ws.dropLast vs.dropLast := by
  rw [List.dropLast_eq_take, List.dropLast_eq_take, r.length]
  exact r.take _
theorem reps_erase {K : Fg} {Z : List Addr} {S : Sto} {H : Hp} {ws : List Cv} {vs : List V} (r : Reps K Z S H ws vs) (k : Nat) : Reps K Z S H (ws.eraseIdx k) (vs.eraseIdx k) := by
  rw [List.eraseIdx_eq_take_drop_succ, List.eraseIdx_eq_take_drop_succ]
  exact (r.take _).app (r.drop _)
def cPop : CM := fun o us S Q => match o, us with
  | .ref p, [] => ownL S p fun xs => match xs[xs.length - 1]? with | some w => Q w (S.set p (.lst xs.dropLast)) | none => False
  | _, _ => False
theorem m_pop : SM X "list.pop" cPop := sm_of (fun o us S Q Q' f h => by
    unfold cPop at h ⊢
    split at h
    · refine ownL_imp (fun xs q => ?_) h
      split at q
      · exact f _ _ q
      · exact q.elim
    · exact h.elim) fun pins s σ H x xs v us Q Z S o ws I rx rv ok ro re q => by
  unfold cPop at q
  split at q
  · rename_i p
    obtain ⟨ys, e, q⟩ := ownL_of q
    obtain ⟨vs, hp, rr⟩ := ok.ob p _ e
    cases ro
    cases re
    split at q
    · rename_i w ew
      obtain ⟨v1, h1, h2⟩ := rr.get ew
      exact mt_pop pins s σ H _ _ v us Q I rx rv ⟨p, vs, v1, rfl, rfl, hp, by rw [← rr.length]; exact h1, own_wr ok e (reps_dropLast rr) h2 q⟩
    · exact q.elim
  · exact q.elim
def cPopAt : CM := fun o us S Q => match o, us with
  | .ref p, [.int i] => ownL S p fun xs => (-(2 ^ 63) ≤ i ∧ i < 2 ^ 63) ∧ (match ixN xs.length i with
    | some k => (match xs[k]? with | some w => Q w (S.set p (.lst (xs.eraseIdx k))) | none => False)
    | none => False)
  | _, _ => False
theorem m_popAt : SM X "list.pop" cPopAt := sm_of (fun o us S Q Q' f h => by
    unfold cPopAt at h ⊢
    split at h
    · refine ownL_imp (fun xs q => ⟨q.1, ?_⟩) h
      have q2 := q.2
      split at q2
      · split at q2
        · exact f _ _ q2
        · exact q2.elim
      · exact q2.elim
    · exact h.elim) fun pins s σ H x xs v us Q Z S o ws I rx rv ok ro re q => by
  unfold cPopAt at q
  split at q
  · rename_i p i
    obtain ⟨ys, e, hi, q⟩ := ownL_of q
    obtain ⟨vs, hp, rr⟩ := ok.ob p _ e
    cases ro
    cases re with
    | cons a b =>
      cases b; cases a
      split at q
      · rename_i k ek
        split at q
        · rename_i w ew
          obtain ⟨v1, h1, h2⟩ := rr.get ew
          exact mt_popAt pins s σ H _ _ v us Q I rx rv ⟨p, vs, i, k, v1, rfl, rfl, hp, hi.1, hi.2, by rw [← rr.length]; exact (ixN_seq ek).1, h1, own_wr ok e (reps_erase rr k) h2 q⟩
        · exact q.elim
      · exact q.elim
  · exact q.elim

/-! ### chains of comparisons -/
def cChain (r r' : C2) (ta tb tc : CE) : CE := fun ws S Q => ta ws S fun x S1 => tb ws S1 fun y S2 => r x y S2 fun z S3 => match z with
  | .bl true => tc ws S3 fun u S4 => r' y u S4 Q
  | .bl false => Q (.bl false) S3
  | _ => False
theorem s_chain {op op' : CmpOp} {r r' : C2} {a b c : Expr} {tA tB tC : CE} (ho : S2 X (compareOp op) r) (ho' : S2 X (compareOp op') r') (ha : SE X a tA) (hb : SE X b tB) (hc : SE X c tC)
    (hm : lastMarks [op, op'] [b, c] = false := by with_unfolding_all rfl) : SE X (.Compare a [op, op'] [b, c] pos) (cChain r r' tA tB tC) := by
  refine ⟨fun ws S Q Q' f h => ha.mono _ _ _ _ (fun x S1 q1 => hb.mono _ _ _ _ (fun y S2 q2 => ho.mono _ _ _ _ _ (fun z S3 q3 => ?_) q2) q1) h, (pe_chain ho.ok ho'.ok ha.ok hb.ok hc.ok hm).imp fun σ H Q h => ?_⟩
  · split at q3
    · exact hc.mono _ _ _ _ (fun u S4 q4 => ho'.mono _ _ _ _ _ f q4) q3
    · exact f _ _ q3
    · exact q3.elim
  · obtain ⟨Z, S, ws, ok, re, h⟩ := h
    refine liftE_of ha.mono ok re h fun x S1 v1 H1 f1 ok1 r1 q1 => ?_
    refine liftE_of hb.mono ok1 (re.fr f1) q1 fun y S2 v2 H2 f2 ok2 r2 q2 => ?_
    refine ⟨Z, S2, x, y, ok2, r1.fr f2, r2, ho.mono _ _ _ _ _ (fun z S3 q3 v3 H3 f3 ok3 r3 => ?_) q2⟩
    have f0 := (f1.trans f2).trans f3
    split at q3
    · cases r3
      refine ⟨true, rfl, ?_⟩
      show liftE X.K tC σ H3 _
      refine liftE_of hc.mono ok3 (re.fr f0) q3 fun u S4 v4 H4 f4 ok4 r4 q4 => ?_
      exact ⟨Z, S4, y, u, ok4, (r2.fr f3).fr f4, r4, ho'.mono _ _ _ _ _ (fun w S' g v H' a b c => g v H' ((f0.trans f4).trans a) b c) q4⟩
    · cases r3
      exact ⟨false, rfl, q3 _ H3 f0 ok3 (.bl false)⟩
    · exact q3.elim
end
end CL

set_option Elab.async false
set_option linter.all false
set_option maxRecDepth 100000
set_option maxHeartbeats 1000000
/-! CL8: the end of a law -/
namespace CL
open PySem PySem.Spec PyProof.Rows L2

/-- nothing is owned -/
abbrev S0 : Sto := fun _ => none
/-- what the law's def promises: from the script, True -/
def LawSp (n : Nat) (sp : CSp) : Prop := ∀ ns : List Int, ns.length ≤ n → (∀ z ∈ ns, Builtin.Int.intBits z ≤ 1048576) → sp [.scr (ns.map Cv.int)] S0 (fun v _ => v = .bl true) X0

section
variable {P : Program} {w : World} {K : Fg} {mg mb : Str → Option Value} {k n : Nat} {fa a : Addr} {fd : FuncData} {x : Str} {sp : CSp} {s1 : Shared} {vs : List Value} {ns : List Int}
/-- the call of the law, from an abstract heap H in which at most the script is tracked -/
theorem law_from {H : Hp} {base : Heap} (hb : base = hidT s1.heap H) (ok : HOk P w H s1.heap) (only : ∀ b u, H b = some u → b = a ∧ ∃ o l, u = .frz o (.lst l)) (kin : K.In base) (glob : base.Ns mainGlobals mg) (hmb : base.Ns builtinsNs mb)
    (hbb : ∀ x : Str, x ≠ "__name__" → mb x = bootBuiltins x) (lim : base.NoLimit) (hg : s1.gens = #[]) (hr : RoomG k callerA) (F : FnG P w K mg base L2.CX0 k fa fd [x] sp)
    (hbind : ∀ (s : Shared) (u : Value), BindsTo s fd ⟨[u], []⟩ [(x, u)]) (hsp : liftSp K sp [.ref a] H (fun v _ => v = .bl true) fun _ _ _ => False) :
    codeAny (model P w) callerA (.call (.ref fa) ⟨[.ref a], []⟩) (fun r s' => r = .ok (.ret (.bool true)) ∧ OldK s1.heap s'.heap ∧ s'.os = s1.os ∧ AllBare s'.gens) s1 := by
  have e0 : Env0 P w K mg base callerA [] s1 H := by
    refine ⟨rfl, ⟨kin, glob, ⟨mb, hmb, hbb⟩, lim⟩, fun b o e => ?_, ?_, trivial, fun b h => ?_, ok, .of_eq hg⟩
    · rw [hb] at e; exact of_hidT e
    · rw [hb]; exact Nat.le_of_eq (hidT_size _ _)
    · cases h
  refine codeAny_mono (F.run callerA [] s1 H ⟨[.ref a], []⟩ [.ref a] [.ref a] _ _ hr e0 (hbind s1 (.ref a)) (.cons rfl .nil) hsp) fun r s' h => ?_
  cases r with
  | error e => exact False.elim h
  | ok fl =>
    cases fl with
    | next => exact False.elim h
    | brk => exact False.elim h
    | cont => exact False.elim h
    | ret u =>
      obtain ⟨v, H', os, bare, un, ok', rv, q⟩ := h
      have q' : v = .bl true := q
      subst q'
      have eu : u = Value.bool true := rv
      subst eu
      refine ⟨rfl, OldK.of_keep fun b o e => ?_, os, bare⟩
      cases hH : H b with
      | none => exact un.keep b o e hH (by intro z; cases z) (by simp)
      | some u =>
        obtain ⟨_, ob, l, rfl⟩ := only b u hH
        obtain ⟨e1, _⟩ := ok b _ hH
        obtain ⟨e2, _⟩ := ok' b _ (un.frzs b ob _ hH)
        rw [e] at e1; cases e1
        exact e2
theorem reps_ints {K : Fg} {Z : List Addr} {S : Sto} {H : Hp} : ∀ ns : List Int, Reps K Z S H (ns.map Cv.int) (ns.map V.int)
  | [] => .nil
  | n :: r => .cons (.int n) (reps_ints r)
theorem law_go (kx : K.In s1.heap) (hns : s1.heap.Ns mainGlobals mg) (hmb : s1.heap.Ns builtinsNs mb) (hbb : ∀ x : Str, x ≠ "__name__" → mb x = bootBuiltins x) (lim : s1.heap.NoLimit) (hg : s1.gens = #[])
    (ha : s1.heap.get? a = some { cls := .type "list", data := .seq vs.toArray }) (hi : IntsAre vs ns) (hl : ns.length ≤ sizeLine) (hr : RoomG k callerA)
    (F : ∀ base : Heap, K.In base → base.Ns mainGlobals mg → FnG P w K mg base L2.CX0 k fa fd [x] sp) (hbind : ∀ (s : Shared) (u : Value), BindsTo s fd ⟨[u], []⟩ [(x, u)])
    (hsp : sp [.scr (ns.map Cv.int)] S0 (fun v _ => v = .bl true) X0) :
    codeAny (model P w) callerA (.call (.ref fa) ⟨[.ref a], []⟩) (fun r s' => r = .ok (.ret (.bool true)) ∧ OldK s1.heap s'.heap ∧ s'.os = s1.os ∧ AllBare s'.gens) s1 := by
  have rv := vals_ints hi
  have final : ∀ {H : Hp}, Rep K [] S0 H (.scr (ns.map Cv.int)) (.ref a) → liftSp K sp [.ref a] H (fun v _ => v = .bl true) fun _ _ _ => False := fun {H} r => by
    refine ⟨[], S0, _, ⟨fun _ _ e => (by cases e), fun _ z => (by cases z)⟩, .cons r .nil, (F s1.heap kx hns).mono _ _ _ _ _ _ (fun u S' e v H' _ _ r' => ?_) (fun _ _ z => z.elim) hsp⟩
    subst e
    cases r'
    rfl
  cases hk : K.lookup a with
  | some o =>
    have e := kx a o hk
    rw [ha] at e
    cases e
    have nH : hidT s1.heap (fun _ => none) = hidT s1.heap fun _ => none := rfl
    have get : ∀ {b : Addr} {o : Obj}, s1.heap.get? b = some o → (hidT s1.heap fun _ => none).get? b = some o := fun e => hidT_get e rfl
    have ns' : ∀ {b : Addr} {m : Str → Option Value}, s1.heap.Ns b m → (hidT s1.heap fun _ => none).Ns b m := fun ⟨o, es, ep, e, r⟩ => ⟨o, es, ep, get e, r⟩
    have kin : K.In (hidT s1.heap fun _ => none) := fun b o e => get (kx b o e)
    refine law_from (H := fun _ => none) rfl (fun _ _ e => by cases e) (fun _ _ e => by cases e) kin (ns' hns) (ns' hmb) hbb (let ⟨mc, h1, h2⟩ := lim; ⟨mc, ns' h1, h2⟩) hg hr (F _ kin (ns' hns)) hbind (final ?_)
    refine .scrK (vs := ns.map V.int) (fun H' => .inr ⟨_, vs.toArray, _, hk, rfl, rfl, rfl, ?_, by simpa using rv⟩) (reps_ints ns)
    rw [List.size_toArray, hi.length]; exact hl
  | none =>
    -- the script is tracked, locked
    let H : Hp := fun b => if b = a then some (.frz { cls := .type "list", data := .seq vs.toArray } (.lst (ns.map V.int))) else none
    have hHa : H a = some (.frz { cls := .type "list", data := .seq vs.toArray } (.lst (ns.map V.int))) := if_pos rfl
    have hHn : ∀ b, b ≠ a → H b = none := fun b h => if_neg h
    have get : ∀ {b : Addr} {o : Obj}, s1.heap.get? b = some o → b ≠ a → (hidT s1.heap H).get? b = some o := fun e n => hidT_get e (hHn _ n)
    have ns' : ∀ {b : Addr} {m : Str → Option Value}, s1.heap.Ns b m → (hidT s1.heap H).Ns b m := fun {b m} ⟨o, es, ep, e, d, r⟩ => by
      refine ⟨o, es, ep, get e fun z => ?_, d, r⟩
      subst z
      rw [ha] at e; cases e
      have d' : Data.seq vs.toArray _ = Data.dict es ep := d
      cases d'
    have kin : K.In (hidT s1.heap H) := fun b o e => get (kx b o e) fun z => by subst z; rw [hk] at e; cases e
    refine law_from (H := H) rfl (fun b u e => ?_) (fun b u e => ?_) kin (ns' hns) (ns' hmb) hbb (let ⟨mc, h1, h2⟩ := lim; ⟨mc, ns' h1, h2⟩) hg hr (F _ kin (ns' hns)) hbind (final (.scr hHa rfl (reps_ints ns)))
    · by_cases z : b = a
      · subst z
        rw [hHa] at e; cases e
        exact ⟨ha, by rw [List.length_map]; exact hl, vs, _, rv, ha⟩
      · rw [hHn b z] at e; cases e
    · by_cases z : b = a
      · subst z
        rw [hHa] at e; cases e
        exact ⟨rfl, _, _, rfl⟩
      · rw [hHn b z] at e; cases e
end
/-- what k_head leaves, from the law's promise -/
theorem law_end {l : PySem.W.OpenLaw} {n k : Nat} {q : Program} {loose : List Str} {XP : (Str → Option Value) → Heap → Prop} {YP : World → Heap → Prop} {d : DefRec} {K : Params → Fg} {sp : World → CSp} {x : Str}
    (hn : l.most = some n) (hn2 : n ≤ sizeLine) (hdf : d.params.defaults = []) (hr : RoomG k callerA) (hY : ∀ (w : World) (h : Heap), YP w h → (K w.params).In h)
    (F : ∀ (w : World) (mg : Str → Option Value) (fa : Addr) (h : Heap), (K w.params).In h → h.Ns mainGlobals mg → mg d.name = some (.ref fa) →
      ∃ fd : FuncData, (∀ (s : Shared) (u : Value), BindsTo s fd ⟨[u], []⟩ [(x, u)]) ∧
        ∀ base : Heap, (K w.params).In base → base.Ns mainGlobals mg → FnG l.prog w (K w.params) mg base L2.CX0 k fa fd [x] (sp w))
    (hsp : ∀ w, LawSp n (sp w)) : PySem.W.WalkO q loose XP YP l.row.toRowW d [] (fun f vs => PySem.call f vs) := by
  refine Att.attach_callB hn hdf fun w s0 s1 mg mb fa o pm cd doc a vs ns G Y ho hd hcd hmg hobj hints hlen hbits hg => ?_
  have kx := hY w _ Y
  obtain ⟨fd, hb, hF⟩ := F w mg fa _ kx G.T.g hmg
  exact law_go kx G.T.g G.T.b G.T.builtins G.T.nolimit hg hobj hints (Nat.le_trans hlen hn2) hr hF hb (hsp w ns hlen hbits)
theorem room_caller {k : Nat} (h : k ≤ 60) : RoomG k callerA := by
  refine ⟨⟨rfl, ?_, ?_⟩, rfl⟩
  · show 1 + claimMargin + 3 * k + 5 < recursionLimit
    have e : recursionLimit = 1000 := by first | rfl | decide
    have e2 : claimMargin ≤ 700 := by decide
    omega
  · show 4 + 16 * k + 200 < cLine
    have e : 4000 ≤ cLine := by decide
    omega
end CL

set_option Elab.async false
set_option linter.all false
set_option maxRecDepth 100000
set_option maxHeartbeats 1000000
/-! CL9: parallel stores, -x, bundles for a def, loops by invariants -/
namespace CL
open PySem PySem.Spec PyProof.Rows L2

theorem RoomG.u {k : Nat} {A : Around} (r : RoomG k A) : A.units + 66 < cLine := by have := r.room.un; omega
theorem RoomG.u4 {k : Nat} {A : Around} (r : RoomG k A) : A.units + 64 < cLine := by have := r.room.un; omega
section
variable {X : Cx} {pos : Pos}
/-- x, y = e, f as two stores -/
def cPar (i j : Nat) (ta : CA) : CS := fun D ws S => ta ws S fun us S1 => match us with | [u, v] => D.nx ((ws.set i (some u)).set j (some v)) S1 | _ => False
theorem ss_par (i j : Nat) {x y : Str} {a b : Expr} {ta : CA} {px py pt : Pos} {kt k2 pt2} (hc : X.calm = true) (hN : X.N.Nodup) (ha : SA X [a, b] ta) (hi : X.N[i]? = some x := by rfl) (hj : X.N[j]? = some y := by rfl) (hij : i ≠ j := by decide)
    (hx : X.env.scope.names.lookup x = some .local := by rfl) (hy : X.env.scope.names.lookup y = some .local := by rfl)
    (hw : swappedStores [.Tuple [.Name x px, .Name y py] kt pt] (.Tuple [a, b] k2 pt2) X.env = pure (some [x, y]) := by rfl)
    (hs : swapsWithSole [.Tuple [.Name x px, .Name y py] kt pt] (.Tuple [a, b] k2 pt2) pos.line X.env = pure false := by rfl) : SS X (.Assign [.Tuple [.Name x px, .Name y py] kt pt] (.Tuple [a, b] k2 pt2) pos) (cPar i j ta) := by
  refine ⟨fun D D' ws S l h => ha.mono _ _ _ _ (fun us S1 q => ?_) h, (ps_par hc hN hi hj hij hx hy ha.ok hw hs).imp fun D σ H h => ?_⟩
  · split at q
    · exact l.nx _ _ q
    · exact q
  · obtain ⟨Z, S, ws, ok, re, h⟩ := h
    refine liftA_of ha.mono ok re h fun us S1 vs H1 f1 ok1 r1 q => ?_
    split at q
    · cases r1 with
      | cons r1 r =>
        cases r with
        | cons r2 r =>
          cases r
          exact ⟨_, _, rfl, q _ H1 f1 ok1 (((re.fr f1).set r1).set r2)⟩
    · exact q.elim
def cPar3 (i j l : Nat) (ta : CA) : CS := fun D ws S => ta ws S fun us S1 => match us with | [u, v, w] => D.nx (((ws.set i (some u)).set j (some v)).set l (some w)) S1 | _ => False
theorem ss_par3 (i j l : Nat) {x y z : Str} {a b c : Expr} {ta : CA} {px py pz pt : Pos} {kt k2 pt2} (hc : X.calm = true) (hN : X.N.Nodup) (ha : SA X [a, b, c] ta) (hi : X.N[i]? = some x := by rfl) (hj : X.N[j]? = some y := by rfl) (hl : X.N[l]? = some z := by rfl)
    (hij : i ≠ j := by decide) (hil : i ≠ l := by decide) (hjl : j ≠ l := by decide)
    (hx : X.env.scope.names.lookup x = some .local := by rfl) (hy : X.env.scope.names.lookup y = some .local := by rfl) (hz : X.env.scope.names.lookup z = some .local := by rfl)
    (hw : swappedStores [.Tuple [.Name x px, .Name y py, .Name z pz] kt pt] (.Tuple [a, b, c] k2 pt2) X.env = pure (some [x, y, z]) := by rfl)
    (hs : swapsWithSole [.Tuple [.Name x px, .Name y py, .Name z pz] kt pt] (.Tuple [a, b, c] k2 pt2) pos.line X.env = pure false := by rfl) : SS X (.Assign [.Tuple [.Name x px, .Name y py, .Name z pz] kt pt] (.Tuple [a, b, c] k2 pt2) pos) (cPar3 i j l ta) := by
  refine ⟨fun D D' ws S l h => ha.mono _ _ _ _ (fun us S1 q => ?_) h, (ps_par3 hc hN hi hj hl hij hil hjl hx hy hz ha.ok hw hs).imp fun D σ H h => ?_⟩
  · split at q
    · exact l.nx _ _ q
    · exact q
  · obtain ⟨Z, S, ws, ok, re, h⟩ := h
    refine liftA_of ha.mono ok re h fun us S1 vs H1 f1 ok1 r1 q => ?_
    split at q
    · cases r1 with
      | cons r1 r =>
        cases r with
        | cons r2 r =>
          cases r with
          | cons r3 r =>
            cases r
            exact ⟨_, _, _, rfl, q _ H1 f1 ok1 ((((re.fr f1).set r1).set r2).set r3)⟩
    · exact q.elim
def cNeg : C1 := fun a S Q => match a with | .int i => Q (.int (-i)) S | _ => False
theorem u_neg : S1 X (unaryOp .USub) cNeg := ⟨fun a S Q Q' f h => by
    unfold cNeg at h ⊢
    split at h
    · exact f _ _ h
    · exact h, fun pins s σ H x u Q I rx q => by
    obtain ⟨Z, S, a, ok, ra, q⟩ := q
    unfold cNeg at q
    split at q
    · rename_i i
      cases ra
      exact un_neg pins s σ H _ u Q I rx ⟨i, rfl, q _ H (Fr.refl S H) ok (.int _)⟩
    · exact q.elim⟩
end

/-- what is known of a def of the text -/
structure FnF (K : Fg) (mg : Str → Option Value) (x : Str) (st : Stmt) (f : Addr) (fd : FuncData) (ps : List Str) : Prop where
  F : Fun K x x st f fd
  b : Binds K fd ps []
  m : mg x = some (.ref f)
  k : PySem.W.keepIn K (.ref f) = true

/-! ### loops -/
/-- a comprehension by an invariant over the items done -/
theorem lcL_inv {G : Sto → Prop} {g : CG} {tt : CT} {te : CE} {ws : CL.Env} {Q : List Cv → Sto → Prop} (P : List Cv → List Cv → Sto → Prop) (hG : ∀ xs acc S, P xs acc S → G S) (hQ : ∀ acc S, P [] acc S → Q acc S)
    (hs : ∀ x r acc S, P (x :: r) acc S → g x ws S fun ws2 S2 => tt ws2 S2 fun b S3 => if b = true then te ws2 S3 fun y S4 => acc.length < sizeLine ∧ P r (acc ++ [y]) S4 else P r acc S3)
    (mg : MonG g) (mt : MonT tt) (me : MonE te) : ∀ xs acc S, P xs acc S → lcL G g tt te ws Q xs acc S
  | [], acc, S, h => ⟨hG _ _ _ h, hQ _ _ h⟩
  | x :: r, acc, S, h => ⟨hG _ _ _ h, mg _ _ _ _ _ (fun ws2 S2 q => mt _ _ _ _ (fun b S3 q3 => by
      cases b with
      | true => exact me _ _ _ _ (fun y S4 q4 => ⟨q4.1, lcL_inv P hG hQ hs mg mt me r _ _ q4.2⟩) q3
      | false => exact lcL_inv P hG hQ hs mg mt me r _ _ q3) q) (hs _ _ _ _ h)⟩
/-- a for by an invariant over the items left -/
theorem forL_inv {G : Sto → Prop} {g : CG} {tb : CS} {D : CEnds} (P : List Cv → CL.Env → Sto → Prop) (hG : ∀ xs ws S, P xs ws S → G S) (hQ : ∀ ws S, P [] ws S → D.nx ws S)
    (hs : ∀ x r ws S, P (x :: r) ws S → g x ws S fun ws1 S1 => tb { D with nx := fun ws2 S2 => P r ws2 S2, ct := fun ws2 S2 => P r ws2 S2, bk := D.nx } ws1 S1)
    (mg : MonG g) (mb : MonS tb) : ∀ xs ws S, P xs ws S → forL G g tb D xs ws S
  | [], ws, S, h => ⟨hG _ _ _ h, hQ _ _ h⟩
  | x :: r, ws, S, h => ⟨hG _ _ _ h, mg _ _ _ _ _ (fun ws1 S1 q => mb { D with nx := fun ws2 S2 => P r ws2 S2, ct := fun ws2 S2 => P r ws2 S2, bk := D.nx } _ _ _ ⟨fun ws2 S2 q2 => forL_inv P hG hQ hs mg mb r ws2 S2 q2, fun _ _ z => z, fun _ _ z => z, fun ws2 S2 q2 => forL_inv P hG hQ hs mg mb r ws2 S2 q2⟩ q) (hs _ _ _ _ h)⟩
end CL

set_option Elab.async false
set_option linter.all false
set_option maxRecDepth 100000
set_option maxHeartbeats 1000000
/-! CL10: short names of readings; a plain law; what simp unfolds -/
namespace CL
open PySem PySem.Spec PyProof.Rows L2
abbrev cLt : C2 := cI2 (fun _ _ => True) fun i j => .bl (decide (i < j))
abbrev cLe : C2 := cI2 (fun _ _ => True) fun i j => .bl (decide (i ≤ j))
abbrev cGt : C2 := cI2 (fun _ _ => True) fun i j => .bl (decide (j < i))
abbrev cGe : C2 := cI2 (fun _ _ => True) fun i j => .bl (decide (j ≤ i))
abbrev cSub : C2 := cI2 (fun _ _ => True) fun i j => .int (i - j)
abbrev cMul : C2 := cI2 CMulW fun i j => .int (i * j)
abbrev cFd : C2 := cI2 CDivW fun i j => .int (i / j)
abbrev cMod : C2 := cI2 (fun _ j => 0 < j) fun i j => .int (i % j)
abbrev cPow : C2 := cI2 CPw fun i j => .int (i ^ j.toNat)
abbrev cShl : C2 := cI2 CPow fun i j => .int (i * 2 ^ j.toNat)
abbrev cBand : C2 := cI2 (fun _ _ => True) fun i j => .int (Builtin.bitAnd i j)
abbrev cBor : C2 := cI2 (fun _ _ => True) fun i j => .int (Builtin.bitOr i j)
abbrev cIadd : C2 := cI2 (fun _ _ => True) fun i j => .int (i + j)
abbrev cIsub : C2 := cI2 (fun _ _ => True) fun i j => .int (i - j)
abbrev cIs : C2 := cIsN fun b => b
abbrev cIsNot : C2 := cIsN fun b => !b
/-- the plain law of a def: from what it promises, its reading -/
structure PL (N ps : List Str) (sp : CSp) (t : CS) : Prop where
  mono : MonSp sp
  len : ∀ us S Q E, sp us S Q E → us.length = ps.length
  go : ∀ us S Q E, sp us S Q E → t (bodyEnds S Q) (cstart N us) S
abbrev spNo : CSp := fun _ _ _ _ => False
theorem fn_no {P : Program} {w : World} {K : Fg} {mg : Str → Option Value} {base : Heap} {k : Nat} {f : Addr} {fd : FuncData} {ps : List Str} : FnG P w K mg base L2.CX0 k f fd ps spNo :=
  ⟨fun _ _ _ _ _ _ _ _ h => h, fun _ _ _ _ h => h.elim, fun _ _ _ _ _ _ _ _ _ _ _ _ _ h => by
    obtain ⟨_, _, _, _, _, h⟩ := h
    exact h.elim⟩
end CL

set_option Elab.async false
set_option linter.all false
set_option maxRecDepth 100000
set_option maxHeartbeats 1000000
/-! CL11: promises by relations; the pot -/
namespace CL
open PySem PySem.Spec PyProof.Rows L2
/-- a promise: from what is given, what is answered -/
def mkSp (rel : List Cv → Sto → (Cv → Sto → Prop) → Prop) : CSp := fun us S Q _ => ∃ R, rel us S R ∧ ∀ w S', R w S' → Q w S'
theorem mkSp_mono {rel} : MonSp (mkSp rel) := fun us S Q Q' E E' f g ⟨R, h, q⟩ => ⟨R, h, fun w S' r => f _ _ (q _ _ r)⟩
theorem PL.mk' {N ps : List Str} {rel} {t : CS} (len : ∀ us S R, rel us S R → us.length = ps.length) (go : ∀ us S R Q, rel us S R → (∀ w S', R w S' → Q w S') → t (bodyEnds S Q) (cstart N us) S) : PL N ps (mkSp rel) t :=
  ⟨mkSp_mono, fun us S Q E ⟨R, h, _⟩ => len us S R h, fun us S Q E ⟨R, h, q⟩ => go us S R Q h q⟩
/-- elsewhere nothing changed -/
def Off (S S' : Sto) (p : Addr) : Prop := ∀ a, a ≠ p → S' a = S a
theorem Off.refl (S : Sto) (p : Addr) : Off S S p := fun _ _ => rfl
theorem Off.trans {S S1 S2 : Sto} {p : Addr} (a : Off S S1 p) (b : Off S1 S2 p) : Off S S2 p := fun x h => (b x h).trans (a x h)
theorem Off.set {S : Sto} {p : Addr} {o : Ob} : Off S (S.set p o) p := fun a h => Sto.set_ne h
/-- the pot: what is left of the number, the seed, the count -/
def Pot (S : Sto) (p : Addr) (b : Int) : Prop := ∃ o s n : Int, S p = some (.lst [.int o, .int s, .int n]) ∧ 0 ≤ o ∧ o < 10 ^ 300 ∧ 0 ≤ s ∧ s < 2 ^ 61 ∧ 0 ≤ n ∧ n ≤ b
theorem Pot.mono {S : Sto} {p : Addr} {b c : Int} (h : Pot S p b) (l : b ≤ c) : Pot S p c := by
  obtain ⟨o, s, n, e, h1, h2, h3, h4, h5, h6⟩ := h
  exact ⟨o, s, n, e, h1, h2, h3, h4, h5, by omega⟩
theorem Pot.off {S S' : Sto} {p : Addr} {b : Int} (h : Pot S p b) (e' : S' p = S p) : Pot S' p b := by
  obtain ⟨o, s, n, e, r⟩ := h
  exact ⟨o, s, n, e'.trans e, r⟩
abbrev bMax : Int := 1000000000
def spTake : CSp := mkSp fun us S R => ∃ p u b, us = [.ref p, .int u] ∧ Pot S p b ∧ b < bMax ∧ 0 < u ∧ u < 2 ^ 63 ∧ R = fun w S' => ∃ r : Int, w = .int r ∧ 0 ≤ r ∧ r < u ∧ Off S S' p ∧ Pot S' p (b + 1)
def spPot : CSp := mkSp fun us S R => ∃ (ns : List Int) (k : Int), us = [.scr (ns.map Cv.int), .int k] ∧ 0 ≤ k ∧ k < 1000000 ∧ R = fun w S' => ∃ p, w = .ref p ∧ S p = none ∧ Off S S' p ∧ Pot S' p 0
def spOf : CSp := mkSp fun us S R => ∃ p w xs b, us = [.ref p, w] ∧ w ≠ .ref p ∧ deref w S = some (.lst xs) ∧ xs ≠ [] ∧ xs.length < 1000000 ∧ Pot S p b ∧ b < bMax ∧ R = fun w S' => w ∈ xs ∧ Off S S' p ∧ Pot S' p (b + 1)
/-- bits -/
theorem mulW_of {i j : Int} (a b : Nat) (ha : i.natAbs < 2 ^ a) (hb : j.natAbs < 2 ^ b) (h0 : 0 < a := by decide) (h1 : 0 < b := by decide) (h : a + b ≤ 1000000 := by decide) : CMulW i j := wide_mul ha hb h0 h1 h
end CL

set_option Elab.async false
set_option linter.all false
set_option maxRecDepth 100000
set_option maxHeartbeats 1000000
/-! CL12: steps of a clean reading, backwards -/
namespace CL
open PySem PySem.Spec PyProof.Rows L2
section
variable {D : CEnds} {ws : CL.Env} {S : Sto} {t u : CS} {te ta tb tc : CE} {ua : CA} {g : CG} {gs : CGs} {c c' : CT} {i j k : Int} {n : Nat} {w : Cv} {us xs ys : List Cv} {r r' : C2} {rc : CC} {p : Addr} {x y : Str}
theorem x_seq (h : t { D with nx := u D } ws S) : cSeq t u D ws S := h
theorem x_next (h : D.nx ws S) : cNext D ws S := h
theorem x_asg (h : te ws S fun w S1 => g w ws S1 D.nx) : cAsg te g D ws S := h
theorem x_name {Q} (h : Q (ws.set n (some w)) S) : cgName n w ws S Q := h
theorem x_gtup {Q} (hn : us.length = n) (h : gs us ws S Q) : cgTup n gs (.tup us) ws S Q := ⟨hn, h⟩
theorem x_gcons {Q} {us} (h : g w ws S fun ws1 S1 => gs us ws1 S1 Q) : cgCons g gs (w :: us) ws S Q := h
theorem x_gnil {Q} (h : Q ws S) : cgNil [] ws S Q := ⟨rfl, h⟩
theorem x_ret (h : te ws S D.rt) : cRet te D ws S := h
theorem x_retN (h : D.rt .non S) : cRetN D ws S := h
theorem x_drop (h : te ws S fun _ S1 => D.nx ws S1) : cDrop te D ws S := h
theorem x_break (h : D.bk ws S) : cBreak D ws S := h
theorem x_cont (h : D.ct ws S) : cCont D ws S := h
theorem x_if (h : c ws S fun b S1 => cond b (t D ws S1) (u D ws S1)) : cIfS c t u D ws S := c_if h where
  c_if (h : c ws S fun b S1 => cond b (t D ws S1) (u D ws S1)) : cIfS c t u D ws S := by
    have e : (fun (b : Bool) S1 => cond b (t D ws S1) (u D ws S1)) = fun b S1 => if b = true then t D ws S1 else u D ws S1 := by
      funext b S1; cases b <;> simp
    rw [e] at h; exact h
theorem x_ifE {Q} (h : c ws S fun b S1 => cond b (ta ws S1 Q) (tb ws S1 Q)) : cIf c ta tb ws S Q := by
  have e : (fun (b : Bool) S1 => cond b (ta ws S1 Q) (tb ws S1 Q)) = fun b S1 => if b = true then ta ws S1 Q else tb ws S1 Q := by
    funext b S1; cases b <;> simp
  rw [e] at h; exact h
theorem x_cT {A B : Prop} (h : A) : cond true A B := h
theorem x_cF {A B : Prop} (h : B) : cond false A B := h
theorem x_cD {A B a : Prop} [Decidable a] (h : a → A) (h' : ¬ a → B) : cond (decide a) A B := by
  by_cases z : a
  · rw [decide_eq_true z]; exact h z
  · rw [decide_eq_false z]; exact h' z
theorem x_cN {A B : Prop} {b : Bool} (h : cond b B A) : cond (!b) A B := by cases b <;> exact h
theorem x_cb {A B : Prop} {b : Bool} (h : b = true → A) (h' : b = false → B) : cond b A B := by cases b; exact h' rfl; exact h rfl
/-- what is done with a bool -/
def kB (Q : Bool → Sto → Prop) : Cv → Sto → Prop := fun w S' => match w with | .bl b => Q b S' | _ => False
theorem x_cB {Q} (h : te ws S (kB Q)) : cB te ws S Q := h
theorem x_kB {Q : Bool → Sto → Prop} {b : Bool} (h : Q b S) : kB Q (.bl b) S := h
theorem x_and {Q} (h : c ws S fun b S1 => cond b (c' ws S1 Q) (Q false S1)) : cAnd c c' ws S Q := by
  have e : (fun (b : Bool) S1 => cond b (c' ws S1 Q) (Q false S1)) = fun b S1 => if b = true then c' ws S1 Q else Q false S1 := by
    funext b S1; cases b <;> simp
  rw [e] at h; exact h
theorem x_or {Q} (h : c ws S fun b S1 => cond b (Q true S1) (c' ws S1 Q)) : cOr c c' ws S Q := by
  have e : (fun (b : Bool) S1 => cond b (Q true S1) (c' ws S1 Q)) = fun b S1 => if b = true then Q true S1 else c' ws S1 Q := by
    funext b S1; cases b <;> simp
  rw [e] at h; exact h
theorem x_not {Q} (h : c ws S fun b S1 => Q (!b) S1) : cNot c ws S Q := h
def kAnd (f t : Prop) : Bool → Prop := fun b => cond b t f
theorem x_andV {Q} (h : te ws S (kB fun b S1 => cond b (ta ws S1 Q) (Q (.bl false) S1))) : cAndV te ta ws S Q := by
  have e : (kB fun b S1 => cond b (ta ws S1 Q) (Q (.bl false) S1)) = fun w S1 => match w with | .bl true => ta ws S1 Q | .bl false => Q (.bl false) S1 | _ => False := by
    funext w S1; unfold kB; cases w with
    | bl b => cases b <;> rfl
    | _ => rfl
  rw [e] at h; exact h
theorem x_orV {Q} (h : te ws S (kB fun b S1 => cond b (Q (.bl true) S1) (ta ws S1 Q))) : cOrV te ta ws S Q := by
  have e : (kB fun b S1 => cond b (Q (.bl true) S1) (ta ws S1 Q)) = fun w S1 => match w with | .bl false => ta ws S1 Q | .bl true => Q (.bl true) S1 | _ => False := by
    funext w S1; unfold kB; cases w with
    | bl b => cases b <;> rfl
    | _ => rfl
  rw [e] at h; exact h
theorem x_chain {Q} (h : ta ws S fun x S1 => tb ws S1 fun y S2 => r x y S2 (kB fun b S3 => cond b (tc ws S3 fun u S4 => r' y u S4 Q) (Q (.bl false) S3))) : cChain r r' ta tb tc ws S Q := by
  have e : ∀ y : Cv, (kB fun b S3 => cond b (tc ws S3 fun u S4 => r' y u S4 Q) (Q (.bl false) S3)) = fun z S3 => match z with | .bl true => tc ws S3 fun u S4 => r' y u S4 Q | .bl false => Q (.bl false) S3 | _ => False := by
    intro y; funext w S1; unfold kB; cases w with
    | bl b => cases b <;> rfl
    | _ => rfl
  simp only [e] at h; exact h
theorem x_var {Q} (e : ws[n]? = some (some w)) (h : Q w S) : cVar n ws S Q := by
  unfold cVar; rw [e]; exact h
theorem x_c {Q} (h : Q w S) : cC w ws S Q := h
theorem x_op {Q} (h : ta ws S fun a S1 => tb ws S1 fun b S2 => r a b S2 Q) : cOp r ta tb ws S Q := h
theorem x_un {Q} {r : C1} (h : ta ws S fun a S1 => r a S1 Q) : cUn r ta ws S Q := h
theorem x_neg {Q : Cv → Sto → Prop} (h : Q (.int (-i)) S) : cNeg (.int i) S Q := h
theorem x_i2 {Q} {C : Int → Int → Prop} {f : Int → Int → Cv} (hc : C i j) (h : Q (f i j) S) : cI2 C f (.int i) (.int j) S Q := ⟨hc, h⟩
theorem x_addI {Q : Cv → Sto → Prop} (h : Q (.int (i + j)) S) : cAdd (.int i) (.int j) S Q := h
theorem x_addL {Q : Cv → Sto → Prop} (hl : xs.length + ys.length ≤ sizeLine) (h : Q (.lst (xs ++ ys)) S) : cAdd (.lst xs) (.lst ys) S Q := ⟨hl, h⟩
theorem x_addT {Q : Cv → Sto → Prop} (hl : xs.length + ys.length ≤ sizeLine) (h : Q (.tup (xs ++ ys)) S) : cAdd (.tup xs) (.tup ys) S Q := ⟨hl, h⟩
theorem x_eqS {Q : Cv → Sto → Prop} {f : Bool → Bool} (h : Q (.bl (f (decide (x = y)))) S) : cEqB f (.str x) (.str y) S Q := h
theorem x_eqI {Q : Cv → Sto → Prop} {f : Bool → Bool} (h : Q (.bl (f (decide (i = j)))) S) : cEqB f (.int i) (.int j) S Q := h
theorem x_ixL {Q : Cv → Sto → Prop} (e : atI xs i = some w) (h : Q w S) : cIx (.lst xs) (.int i) S Q := by
  show match atI xs i with | some w => Q w S | none => False
  rw [e]; exact h
theorem x_ixT {Q : Cv → Sto → Prop} (e : atI xs i = some w) (h : Q w S) : cIx (.tup xs) (.int i) S Q := by
  show match atI xs i with | some w => Q w S | none => False
  rw [e]; exact h
theorem x_ixS {Q : Cv → Sto → Prop} (e : atI xs i = some w) (h : Q w S) : cIx (.scr xs) (.int i) S Q := by
  show match atI xs i with | some w => Q w S | none => False
  rw [e]; exact h
theorem x_ixR {Q : Cv → Sto → Prop} (es : S p = some (.lst xs)) (e : atI xs i = some w) (h : Q w S) : cIx (.ref p) (.int i) S Q := by
  have d : deref (.ref p) S = some (.lst xs) := by simp [deref, es]
  show match deref (.ref p) S with | some a => (match seqOf a with | some xs => (match atI xs i with | some w => Q w S | none => False) | none => False) | none => False
  rw [d]
  show match atI xs i with | some w => Q w S | none => False
  rw [e]; exact h
theorem x_ixD {Q : Cv → Sto → Prop} {a : Cv} (ea : ∀ z, a ≠ .str z) (es : deref a S = some (.lst xs)) (e : atI xs i = some w) (h : Q w S) : cIx a (.int i) S Q := by
  unfold cIx
  cases a with
  | str z => exact absurd rfl (ea z)
  | _ =>
    simp only [es]
    show match atI xs i with | some w => Q w S | none => False
    rw [e]; exact h
theorem x_setL {ti : CE} (h : te ws S fun w S1 => ta ws S1 fun o S2 => ti ws S2 fun i S3 => match o, i with
  | .ref p, .int k => ownL S3 p fun xs => match ixN xs.length k with | some j => D.nx ws (S3.set p (.lst (xs.set j w))) | none => False
  | _, _ => False) : cSetL ta ti te D ws S := h
def kSet (D : CEnds) (ws : CL.Env) (w : Cv) : Cv → Cv → Sto → Prop := fun o i S3 => match o, i with
  | .ref p, .int k => ownL S3 p fun xs => match ixN xs.length k with | some j => D.nx ws (S3.set p (.lst (xs.set j w))) | none => False
  | _, _ => False
theorem x_setK {ti : CE} (h : te ws S fun w S1 => ta ws S1 fun o S2 => ti ws S2 fun i S3 => kSet D ws w o i S3) : cSetL ta ti te D ws S := h
theorem x_kSet (es : S p = some (.lst xs)) (e : ixN xs.length k = some n) (h : D.nx ws (S.set p (.lst (xs.set n w)))) : kSet D ws w (.ref p) (.int k) S := by
  refine ownL_to es ?_
  show match ixN xs.length k with | some j => D.nx ws (S.set p (.lst (xs.set j w))) | none => False
  rw [e]; exact h
theorem x_aug {D : CEnds} {m : Nat} (e : ws[m]? = some (some w)) (h : te ws S fun y S1 => r w y S1 fun z S2 => D.nx (ws.set m (some z)) S2) : cAug m te r D ws S := by
  unfold cAug; rw [e]; exact h
theorem x_cnil {Q : List Cv → Sto → Prop} (h : Q [] S) : cNil ws S Q := h
theorem x_ccons {Q : List Cv → Sto → Prop} (h : te ws S fun w S1 => ua ws S1 fun r S2 => Q (w :: r) S2) : cCons te ua ws S Q := h
def kTup (Q : Cv → Sto → Prop) : List Cv → Sto → Prop := fun r S1 => r.length ≤ sizeLine ∧ Q (.tup r) S1
def kLst (Q : Cv → Sto → Prop) : List Cv → Sto → Prop := fun r S1 => r.length ≤ sizeLine ∧ Q (.lst r) S1
def kLstO (Q : Cv → Sto → Prop) : List Cv → Sto → Prop := fun r S1 => r.length ≤ sizeLine ∧ ∀ p, S1 p = none → Q (.ref p) (S1.set p (.lst r))
theorem x_tup {Q} (h : ua ws S (kTup Q)) : cTup ua ws S Q := h
theorem x_lst {Q} (h : ua ws S (kLst Q)) : cLst ua ws S Q := h
theorem x_lstO {Q} (h : ua ws S (kLstO Q)) : cLstO ua ws S Q := h
theorem x_kTup {Q : Cv → Sto → Prop} (hl : us.length ≤ sizeLine) (h : Q (.tup us) S) : kTup Q us S := ⟨hl, h⟩
theorem x_kLst {Q : Cv → Sto → Prop} (hl : us.length ≤ sizeLine) (h : Q (.lst us) S) : kLst Q us S := ⟨hl, h⟩
theorem x_kLstO {Q : Cv → Sto → Prop} (hl : us.length ≤ sizeLine) (h : ∀ p, S p = none → Q (.ref p) (S.set p (.lst us))) : kLstO Q us S := ⟨hl, h⟩
theorem x_cb2 {Q} (h : ua ws S fun us S1 => rc us S1 Q) : cCB rc ua ws S Q := h
theorem x_call {Q} {sp : CSp} {E} (h : ua ws S fun us S1 => sp us S1 Q E) : cCall sp E ua ws S Q := h
theorem x_ckw {Q} {rk : CCK} {ub : CA} (h : ua ws S fun us S1 => ub ws S1 fun zs S2 => rk us zs S2 Q) : cCKw rk ua ub ws S Q := h
theorem x_bm {Q} {T : String} {rm : CM} (h : te ws S fun o S1 => tyC T o S1 ∧ ua ws S1 fun us S2 => rm o us S2 Q) : cBM T rm te ua ws S Q := h
theorem x_lenL {Q : Cv → Sto → Prop} (h : Q (.int xs.length) S) : cLen [.lst xs] S Q := h
theorem x_lenT {Q : Cv → Sto → Prop} (h : Q (.int xs.length) S) : cLen [.tup xs] S Q := h
theorem x_lenS {Q : Cv → Sto → Prop} (h : Q (.int xs.length) S) : cLen [.scr xs] S Q := h
theorem x_lenD {Q : Cv → Sto → Prop} (ea : ∀ z, w ≠ .str z) (es : deref w S = some (.lst xs)) (h : Q (.int xs.length) S) : cLen [w] S Q := by
  unfold cLen
  cases w with
  | str z => exact absurd rfl (ea z)
  | _ => simp only [es]; exact h
theorem x_abs {Q : Cv → Sto → Prop} (h : Q (.int i.natAbs) S) : cAbs [.int i] S Q := h
theorem x_intI {Q : Cv → Sto → Prop} (h : Q (.int i) S) : cInt [.int i] S Q := h
theorem x_intB {Q : Cv → Sto → Prop} {b : Bool} (h : Q (.int (if b = true then 1 else 0)) S) : cInt [.bl b] S Q := h
theorem x_max2 {Q : Cv → Sto → Prop} (h : Q (.int (max i j)) S) : cMax [.int i, .int j] S Q := h
theorem x_min2 {Q : Cv → Sto → Prop} (h : Q (.int (min i j)) S) : cMin [.int i, .int j] S Q := h
theorem x_tupleL {Q : Cv → Sto → Prop} (h : Q (.tup xs) S) : cTupleOf [.lst xs] S Q := h
theorem x_tupleT {Q : Cv → Sto → Prop} (h : Q (.tup xs) S) : cTupleOf [.tup xs] S Q := h
theorem x_par {ta : CA} {m : Nat} (h : ta ws S fun us S1 => match us with | [u, v] => D.nx ((ws.set n (some u)).set m (some v)) S1 | _ => False) : cPar n m ta D ws S := h
theorem x_take {Q : Cv → Sto → Prop} {E : Ex → Sto → Prop} {b v : Int} (hp : Pot S p b) (hb : b < bMax) (h0 : 0 < v) (h1 : v < 2 ^ 63) (h : ∀ (r : Int) (S' : Sto), 0 ≤ r → r < v → Off S S' p → Pot S' p (b + 1) → Q (.int r) S') : spTake [.ref p, .int v] S Q E :=
  ⟨_, ⟨p, v, b, rfl, hp, hb, h0, h1, rfl⟩, fun w S' ⟨r, e, r0, r1, o, q⟩ => by rw [e]; exact h r S' r0 r1 o q⟩
theorem x_of {Q : Cv → Sto → Prop} {E : Ex → Sto → Prop} {b : Int} (hp : Pot S p b) (hb : b < bMax) (hw : w ≠ .ref p) (hd : deref w S = some (.lst xs)) (hx : xs ≠ []) (hl : xs.length < 1000000) (h : ∀ (v : Cv) (S' : Sto), v ∈ xs → Off S S' p → Pot S' p (b + 1) → Q v S') : spOf [.ref p, w] S Q E :=
  ⟨_, ⟨p, w, xs, b, rfl, hw, hd, hx, hl, hp, hb, rfl⟩, fun v S' ⟨m, o, q⟩ => h v S' m o q⟩
theorem x_ofL {Q : Cv → Sto → Prop} {E : Ex → Sto → Prop} {b : Int} (hp : Pot S p b) (hb : b < bMax) (hx : xs ≠ []) (hl : xs.length < 1000000) (h : ∀ (v : Cv) (S' : Sto), v ∈ xs → Off S S' p → Pot S' p (b + 1) → Q v S') : spOf [.ref p, .lst xs] S Q E :=
  x_of hp hb (by intro z; cases z) rfl hx hl h
end
theorem log2W {i : Int} {a : Nat} (ha : i.natAbs < 2 ^ a) (h0 : 0 < a) : i.natAbs.log2 < a := PySem.Flt.log2_lt_of h0 ha
theorem cpw_of {i : Int} (m : Nat) {j : Int} (ha : i.natAbs < 2 ^ m) (h0 : 0 < m := by decide) (hj : 0 ≤ j := by decide) (h : (m : Int) * j ≤ 2 ^ 27 := by decide) : CPw i j := by
  refine ⟨hj, Int.le_trans (Int.mul_le_mul_of_nonneg_right ?_ hj) h⟩
  have b : Builtin.Int.intBits i ≤ i.natAbs.log2 + 1 := by
    unfold Builtin.Int.intBits
    split <;> omega
  have := log2W ha h0
  omega
end CL
namespace CL
open PySem PySem.Spec PyProof.Rows L2
/-- bounds by powers of two -/
def NB (i : Int) (a : Nat) : Prop := i.natAbs < 2 ^ a
theorem NB.v {i : Int} (h : -(2 ^ 64) < i ∧ i < 2 ^ 64) : NB i 64 := by unfold NB; omega
theorem pow_le2 {a b : Nat} (h : a ≤ b) : 2 ^ a ≤ 2 ^ b := Nat.pow_le_pow_right (by decide) h
theorem NB.mono {i : Int} {a b : Nat} (h : NB i a) (l : a ≤ b) : NB i b := Nat.lt_of_lt_of_le h (pow_le2 l)
theorem NB.add {i j : Int} {a b : Nat} (h : NB i a) (g : NB j b) : NB (i + j) (a + b + 1) := by
  have h1 := Nat.lt_of_lt_of_le h (pow_le2 (Nat.le_add_right a b))
  have h2 := Nat.lt_of_lt_of_le g (pow_le2 (Nat.le_add_left b a))
  unfold NB; rw [Nat.pow_succ]; omega
theorem NB.sub {i j : Int} {a b : Nat} (h : NB i a) (g : NB j b) : NB (i - j) (a + b + 1) := by
  have h1 := Nat.lt_of_lt_of_le h (pow_le2 (Nat.le_add_right a b))
  have h2 := Nat.lt_of_lt_of_le g (pow_le2 (Nat.le_add_left b a))
  unfold NB; rw [Nat.pow_succ]; omega
theorem NB.mul {i j : Int} {a b : Nat} (h : NB i a) (g : NB j b) : NB (i * j) (a + b) := wide_lt h g
theorem NB.mod {i j : Int} {b : Nat} (h0 : 0 < j) (g : NB j b) : NB (i % j) b := by
  have h1 := Int.emod_nonneg i (by omega : j ≠ 0)
  have h2 := Int.emod_lt_of_pos i h0
  unfold NB at g ⊢; omega
theorem NB.div {i j : Int} {a : Nat} (h0 : 0 < j) (h : NB i a) : NB (i / j) a := by
  unfold NB at h ⊢
  have : (i / j).natAbs ≤ i.natAbs := by
    exact Int.natAbs_ediv_le_natAbs i j
  omega
theorem NB.abs {i : Int} {a : Nat} (h : NB i a) : NB (i.natAbs : Int) a := by unfold NB at h ⊢; omega
theorem NB.pos {a : Nat} {i : Int} (h : NB i a) (h0 : i ≠ 0) : 0 < a := by
  unfold NB at h
  cases a with
  | zero => simp at h; omega
  | succ a => omega
theorem mulW_nb {i j : Int} {a b : Nat} (h : NB i a) (g : NB j b) (l : a + b ≤ 999990) : CMulW i j :=
  wide_mul (NB.mono h (Nat.le_succ a)) (NB.mono g (Nat.le_succ b)) (Nat.succ_pos _) (Nat.succ_pos _) (by omega)
theorem cpw_nb {i j : Int} {a : Nat} (h : NB i a) (hj : 0 ≤ j) (l : ((a + 1 : Nat) : Int) * j ≤ 2 ^ 27) : CPw i j := cpw_of (a + 1) (NB.mono h (Nat.le_succ a)) (Nat.succ_pos _) hj l
theorem divW_nb {i j : Int} {a : Nat} (h : NB j a) (hj : 0 < j) (l : a ≤ 8990) : CDivW i j := wide_div hj (NB.mono h (Nat.le_succ a)) (Nat.succ_pos _) (by omega)
section
variable {S : Sto} {w : Cv} {xs : List Cv} {i : Int}
theorem atI_mem {α : Type} {xs : List α} {i : Int} (h0 : 0 ≤ i) (h1 : i < xs.length) : ∃ w, w ∈ xs ∧ atI xs i = some w := by
  have hl : i.toNat < xs.length := by omega
  refine ⟨xs[i.toNat], List.getElem_mem hl, ?_⟩
  unfold atI ixN
  rw [if_pos h0, if_pos h1]
  exact List.getElem?_eq_getElem hl
theorem x_ixM {Q : Cv → Sto → Prop} (h0 : 0 ≤ i) (h1 : i < xs.length) (h : ∀ w, w ∈ xs → Q w S) : cIx (.lst xs) (.int i) S Q := by
  obtain ⟨w, m, e⟩ := atI_mem h0 h1
  exact x_ixL e (h w m)
end
section
variable {nx : CL.Env → Sto → Prop} {rt : Cv → Sto → Prop} {bk ct : CL.Env → Sto → Prop} {ws : CL.Env} {S : Sto} {t u : CS}
theorem y_seq (h : t ⟨u ⟨nx, rt, bk, ct⟩, rt, bk, ct⟩ ws S) : cSeq t u ⟨nx, rt, bk, ct⟩ ws S := h
end
theorem PL.mk2 {N ps : List Str} {rel} {t : CS} (len : ∀ us S R, rel us S R → us.length = ps.length)
    (go : ∀ us S R Q, rel us S R → (∀ w S', R w S' → Q w S') → t ⟨fun _ S' => Hand S .non S' Q, fun w S' => Hand S w S' Q, fun _ _ => False, fun _ _ => False⟩ (cstart N us) S) : PL N ps (mkSp rel) t := PL.mk' len go
end CL
namespace CL
open PySem PySem.Spec PyProof.Rows L2
/-- the bounds, from the outside in -/
theorem NB.v1 {i : Int} {n : Nat} (h : -(2 ^ 64) < i ∧ i < 2 ^ 64) (hn : 64 ≤ n := by decide) : NB i n := (NB.v h).mono hn
theorem NB.add1 {i j : Int} {n : Nat} (h : NB i (n / 4)) (g : NB j (n / 4)) (hn : 4 ≤ n := by decide) : NB (i + j) n := (NB.add h g).mono (by omega)
theorem NB.sub1 {i j : Int} {n : Nat} (h : NB i (n / 4)) (g : NB j (n / 4)) (hn : 4 ≤ n := by decide) : NB (i - j) n := (NB.sub h g).mono (by omega)
theorem NB.mul1 {i j : Int} {n : Nat} (h : NB i (n / 2)) (g : NB j (n / 2)) : NB (i * j) n := (NB.mul h g).mono (by omega)
theorem NB.pow {i : Int} {a : Nat} (h : NB i a) (ha : 0 < a) : ∀ n : Nat, NB (i ^ n) (a * n + 1)
  | 0 => by show (i ^ 0).natAbs < 2 ^ (a * 0 + 1); simp
  | n + 1 => by
    have := NB.mul (NB.pow h ha n) h
    rw [← Int.pow_succ] at this
    exact this.mono (by rw [Nat.mul_succ]; omega)
theorem NB.pow1 {i : Int} {n k : Nat} (h : NB i (n / 8)) (hk : k ≤ 7 := by decide) (hn : 8 ≤ n := by decide) : NB (i ^ k) n :=
  (NB.pow h (by omega) k).mono (by
    have := Nat.mul_le_mul_left (n / 8) hk
    omega)
theorem mulW1 {i j : Int} (h : NB i 400000) (g : NB j 400000) : CMulW i j := mulW_nb h g (by decide)
theorem cpw1 {i j : Int} (h : NB i 200000) (hj : 0 ≤ j := by decide) (l : j ≤ 600 := by decide) : CPw i j := cpw_nb h hj (by
  have : ((200000 + 1 : Nat) : Int) * j ≤ ((200000 + 1 : Nat) : Int) * 600 := Int.mul_le_mul_of_nonneg_left l (by decide)
  refine Int.le_trans this (by decide))
theorem divW1 {i j : Int} (h : NB j 8000) (hj : 0 < j) : CDivW i j := divW_nb h hj (by decide)
end CL

set_option Elab.async false
set_option linter.all false
set_option maxRecDepth 100000
set_option maxHeartbeats 1000000
/-! CL13: repr of small values; comprehensions and fors that use the pot -/
namespace CL
open PySem PySem.Spec PyProof.Rows L2
mutual
def smallV : Cv → Bool
  | .non | .bl _ => true
  | .int i => decide (i.natAbs < 10 ^ 20)
  | .str x => PyData.strOk x && x.cps.toList.all fun c => decide (c < 16 ^ 8)
  | .tup xs => smallVs xs
  | .lst xs => smallVs xs
  | _ => false
def smallVs : List Cv → Bool
  | [] => true
  | x :: r => smallV x && smallVs r
end
mutual
def blk : Cv → Nat
  | .str x => x.cps.size
  | .tup xs => blks xs
  | .lst xs => blks xs
  | _ => 0
def blks : List Cv → Nat
  | [] => 0
  | x :: r => blk x + 1 + blks r
end
theorem int_small {i : Int} (h : i.natAbs < 10 ^ 20) : (PyData.shown (.int i)).length ≤ 24 := by
  have e := int_text_length_le10 (k := 20) (by decide) h
  show (Str.ofString (toString i)).length ≤ 24
  rw [PySem.ofString_length]; omega
theorem log_small {i : Int} (h : i.natAbs < 10 ^ 20) : i.natAbs.log2 < 1920 := by
  rcases Nat.eq_zero_or_pos i.natAbs with z | z
  · rw [z]; decide
  · have : i.natAbs.log2 < 67 := (Nat.log2_lt (Nat.ne_of_gt z)).mpr (Nat.lt_of_lt_of_le h (by decide))
    omega
mutual
theorem small_ok : ∀ w : Cv, smallV w = true → isD w = true ∧ showsOk w = true ∧ (py w).leavesShort 24 = true ∧ (py w).bulk = blk w
  | .non, _ => ⟨rfl, rfl, rfl, rfl⟩
  | .bl b, _ => ⟨rfl, rfl, rfl, rfl⟩
  | .int i, h => by
    have h' : i.natAbs < 10 ^ 20 := by simpa [smallV] using h
    exact ⟨rfl, by show decide _ = true; exact decide_eq_true (log_small h'), by show decide _ = true; exact decide_eq_true (int_small h'), rfl⟩
  | .str x, h => by
    have h' : PyData.strOk x = true ∧ (x.cps.toList.all fun c => decide (c < 16 ^ 8)) = true := by simpa only [smallV, Bool.and_eq_true] using h
    exact ⟨h'.1, rfl, h'.2, rfl⟩
  | .tup xs, h => by
    obtain ⟨a, b, c, d⟩ := smalls_ok xs (by simpa only [smallV] using h)
    exact ⟨by simpa only [isD] using a, by simpa only [showsOk] using b, by simpa only [py, PyData.leavesShort] using c, by simpa only [py, PyData.bulk, blk] using d⟩
  | .lst xs, h => by
    obtain ⟨a, b, c, d⟩ := smalls_ok xs (by simpa only [smallV] using h)
    exact ⟨by simpa only [isD] using a, by simpa only [showsOk] using b, by simpa only [py, PyData.leavesShort] using c, by simpa only [py, PyData.bulk, blk] using d⟩
  | .dK _, h => by simp [smallV] at h
  | .dT _, h => by simp [smallV] at h
  | .ref _, h => by simp [smallV] at h
  | .opq _, h => by simp [smallV] at h
  | .scr _, h => by simp [smallV] at h
theorem smalls_ok : ∀ xs : List Cv, smallVs xs = true → isDs xs = true ∧ showsOks xs = true ∧ PyData.leavesShortAll 24 (pys xs) = true ∧ PyData.bulkAll (pys xs) = blks xs
  | [], _ => ⟨rfl, rfl, rfl, rfl⟩
  | x :: r, h => by
    have h' : smallV x = true ∧ smallVs r = true := by simpa only [smallVs, Bool.and_eq_true] using h
    obtain ⟨a, b, c, d⟩ := small_ok x h'.1
    obtain ⟨a2, b2, c2, d2⟩ := smalls_ok r h'.2
    exact ⟨by simp only [isDs, a, a2]; rfl, by simp only [showsOks, b, b2]; rfl, by simp only [pys, PyData.leavesShortAll, c, c2]; rfl, by simp only [pys, PyData.bulkAll, blks, d, d2]⟩
end
theorem okR_small {w : Cv} (h : smallV w = true) (hd : dep w ≤ 64) (hb : blk w ≤ 500000) : okR w := by
  obtain ⟨a, b, c, d⟩ := small_ok w h
  refine ⟨by unfold okD; rw [a, decide_eq_true hd]; rfl, b, ?_⟩
  have := PyData.shown_le_bulk 24 (by decide) (py w) c
  have e : sizeLine = 16777216 := by decide
  unfold rp
  omega
/-- small values are data that == takes -/
theorem okD_small {w : Cv} (h : smallV w = true) (hd : dep w ≤ 64) : okD w = true := by
  obtain ⟨a, _, _, _⟩ := small_ok w h
  unfold okD; rw [a, decide_eq_true hd]; rfl
theorem x_repr {S : Sto} {w : Cv} {Q : Cv → Sto → Prop} (hr : ∀ a, w ≠ .ref a) (ok : okR w) (h : Q (.str (rp w)) S) : cRepr [w] S Q := by
  have e : deref w S = some w := by
    cases w with
    | ref a => exact absurd rfl (hr a)
    | _ => rfl
  show match deref w S with | some w => okR w ∧ Q (.str (rp w)) S | none => False
  rw [e]
  exact ⟨ok, h⟩

theorem cYes_mono : MonT cYes := fun _ _ _ _ f h => f _ _ h
/-! the pot in comprehensions -/
section
variable {G : Sto → Prop} {g : CG} {te : CE} {ws : CL.Env} {Q : List Cv → Sto → Prop} {p : Addr} {S0 : Sto}
theorem lc_pot {xs : List Cv} (good : Cv → Prop) (C b0 : Int) (L : Nat) (hC : 0 ≤ C) (mg : MonG g) (me : MonE te) (hl : xs.length ≤ L) (hL : L ≤ 10000) (hG : ∀ S, Off S0 S p → G S)
    (hs : ∀ x S b, x ∈ xs → b0 ≤ b → b + C ≤ b0 + C * L → Off S0 S p → Pot S p b → g x ws S fun ws2 S2 => te ws2 S2 fun y S4 => good y ∧ Off S0 S4 p ∧ Pot S4 p (b + C))
    (hp : Pot S0 p b0) (hq : ∀ ys S', ys.length = xs.length → (∀ y ∈ ys, good y) → Off S0 S' p → Pot S' p (b0 + C * L) → Q ys S') : lcL G g cYes te ws Q xs [] S0 := by
  refine lcL_inv (fun r acc S => (∀ x ∈ r, x ∈ xs) ∧ acc.length + r.length = xs.length ∧ (∀ y ∈ acc, good y) ∧ Off S0 S p ∧ Pot S p (b0 + C * acc.length)) (fun r acc S h => hG S h.2.2.2.1) (fun acc S ⟨_, h2, h3, h4, h5⟩ => ?_) (fun x r acc S ⟨h1, h2, h3, h4, h5⟩ => ?_) mg cYes_mono me xs [] S0 ⟨fun _ h => h, by simp, fun _ h => (by cases h), Off.refl _ _, by simpa using hp⟩
  · have h2' : acc.length = xs.length := by simpa using h2
    have c2 : C * (acc.length : Int) ≤ C * L := Int.mul_le_mul_of_nonneg_left (by omega) hC
    exact hq acc S h2' h3 h4 (h5.mono (by omega))
  · have h2' : acc.length + (r.length + 1) = xs.length := by simpa using h2
    have c1 : 0 ≤ C * (acc.length : Int) := Int.mul_nonneg hC (Int.natCast_nonneg _)
    have c2 : C * (acc.length + 1 : Int) ≤ C * L := Int.mul_le_mul_of_nonneg_left (by omega) hC
    rw [Int.mul_add, Int.mul_one] at c2
    refine mg _ _ _ _ _ (fun ws2 S2 q => ?_) (hs x S _ (h1 x List.mem_cons_self) (by omega) (by omega) h4 h5)
    simp only [cYes, if_true]
    refine me _ _ _ _ (fun y S4 ⟨q1, q2, q3⟩ => ⟨Nat.lt_of_lt_of_le (show acc.length < 10001 by omega) (by decide), fun z hz => h1 z (List.mem_cons_of_mem _ hz), by simp; omega, fun z hz => ?_, q2, ?_⟩) q
    · rcases List.mem_append.mp hz with e | e
      · exact h3 z e
      · rw [List.mem_singleton.mp e]; exact q1
    · have e : b0 + C * ((acc ++ [y]).length : Int) = b0 + C * acc.length + C := by
        rw [List.length_append, List.length_singleton]
        show b0 + C * ((acc.length : Int) + 1) = _
        rw [Int.mul_add]; omega
      rw [e]; exact q3
end
section
variable {α β : Type} {G : Sto → Prop} {g : CG} {tt : CT} {te : CE} {ws : CL.Env} {Q : List Cv → Sto → Prop} {S0 : Sto}
/-- a pure comprehension over things that the items stand for: what is kept, what it becomes -/
theorem lc_map (as : List α) (e : α → Cv) (f : α → Option Cv) (hG : G S0) : ∀ acc : List Cv, acc.length + as.length ≤ 1000000 →
    (∀ a, a ∈ as → ∀ (R : Cv → Sto → Prop) (R' : Sto → Prop), (∀ y, f a = some y → R y S0) → (f a = none → R' S0) → g (e a) ws S0 fun ws2 S2 => tt ws2 S2 fun b S3 => if b = true then te ws2 S3 R else R' S3) →
    Q (acc ++ as.filterMap f) S0 → lcL G g tt te ws Q (as.map e) acc S0 := by
  induction as with
  | nil => intro acc _ _ hq; exact ⟨hG, by simpa using hq⟩
  | cons a as ih =>
    intro acc hl hs hq
    refine ⟨hG, hs a List.mem_cons_self _ _ (fun y hy => ?_) (fun hn => ?_)⟩
    · have hl' : acc.length + (as.length + 1) ≤ 1000000 := by simpa using hl
      refine ⟨Nat.lt_of_lt_of_le (show acc.length < 1000001 by omega) (by decide), ih (acc ++ [y]) (by simp; omega) (fun a' h => hs a' (List.mem_cons_of_mem _ h)) ?_⟩
      rw [List.filterMap_cons, hy] at hq
      simpa using hq
    · have hl' : acc.length + (as.length + 1) ≤ 1000000 := by simpa using hl
      refine ih acc (by omega) (fun a' h => hs a' (List.mem_cons_of_mem _ h)) ?_
      rw [List.filterMap_cons, hn] at hq
      exact hq
/-- two clauses, pure: a list of lists laid flat -/
theorem lc2_map {g1 : CG} {tt1 : CT} {ti1 : CI} {vs1 : List Nat} (as : List α) (e : α → Cv) (f : α → List Cv) (hG : G S0) : ∀ acc : List Cv, acc.length + (as.flatMap f).length ≤ 1000000 →
    (∀ a, a ∈ as → ∀ acc (R : List Cv → Sto → Prop), acc.length + (f a).length ≤ 1000000 → R (acc ++ f a) S0 → g (e a) ws S0 fun ws2 S2 => tt ws2 S2 fun b S3 => if b = true then ti1 ws2 S3 fun ys G1 S4 => lcL G1 g1 tt1 te (cwipe ws2 vs1) R ys acc S4 else R acc S3) →
    Q (acc ++ as.flatMap f) S0 → lc2L G g tt ti1 g1 tt1 te vs1 ws Q (as.map e) acc S0 := by
  induction as with
  | nil => intro acc _ _ hq; exact ⟨hG, by simpa using hq⟩
  | cons a as ih =>
    intro acc hl hs hq
    rw [List.flatMap_cons, List.length_append] at hl
    refine ⟨hG, hs a List.mem_cons_self acc _ (by omega) (ih _ (by rw [List.length_append]; omega) (fun a' h => hs a' (List.mem_cons_of_mem _ h)) ?_)⟩
    rw [List.flatMap_cons] at hq
    simpa using hq
end
end CL

set_option Elab.async false
set_option linter.all false
set_option maxRecDepth 100000
set_option maxHeartbeats 1000000
/-! CL14: conditions and rules as data -/
namespace CL
open PySem PySem.Spec PyProof.Rows L2
inductive Cd where
  | rg (m lo hi : Int)
  | no (c : Cd)
  | al (b : Bool) (cs : List Cd)
mutual
def enc : Cd → Cv
  | .rg m lo hi => .tup [.str "in", .int m, .int lo, .int hi]
  | .no c => .tup [.str "not", enc c]
  | .al b cs => .tup [.str (if b = true then "all" else "any"), .tup (encs cs)]
def encs : List Cd → List Cv
  | [] => []
  | c :: r => enc c :: encs r
end
theorem encs_map : ∀ cs : List Cd, encs cs = cs.map enc
  | [] => rfl
  | c :: r => by rw [encs, encs_map r]; rfl
abbrev Rg := Int × Int × Int
def eIn (r : Rg) : Cv := .tup [.str "in", .int r.1, .int r.2.1, .int r.2.2]
mutual
def ins : Cd → List Rg
  | .rg m lo hi => [(m, lo, hi)]
  | .no c => ins c
  | .al _ cs => inss cs
def inss : List Cd → List Rg
  | [] => []
  | c :: r => ins c ++ inss r
end
theorem inss_map : ∀ cs : List Cd, inss cs = cs.flatMap ins
  | [] => rfl
  | c :: r => by rw [inss, inss_map r]; rfl
mutual
def dp : Cd → Nat
  | .rg _ _ _ => 0
  | .no c => dp c + 1
  | .al _ cs => dps cs + 1
def dps : List Cd → Nat
  | [] => 0
  | c :: r => max (dp c) (dps r)
end
theorem dps_mem : ∀ {cs : List Cd} {c : Cd}, c ∈ cs → dp c ≤ dps cs
  | [], _, h => by cases h
  | d :: r, c, h => by
    rcases List.mem_cons.mp h with e | e
    · rw [e, dps]; exact Nat.le_max_left _ _
    · have := dps_mem e
      rw [dps]; omega
mutual
/-- the most parts of a condition in it -/
def wd : Cd → Nat
  | .rg _ _ _ => 0
  | .no c => wd c
  | .al _ cs => max cs.length (wds cs)
def wds : List Cd → Nat
  | [] => 0
  | c :: r => max (wd c) (wds r)
end
theorem wds_mem : ∀ {cs : List Cd} {c : Cd}, c ∈ cs → wd c ≤ wds cs
  | [], _, h => by cases h
  | d :: r, c, h => by
    rcases List.mem_cons.mp h with e | e
    · rw [e, wds]; exact Nat.le_max_left _ _
    · have := wds_mem e
      rw [wds]; omega
theorem wds_le {n : Nat} : ∀ {cs : List Cd}, (∀ c ∈ cs, wd c ≤ n) → wds cs ≤ n
  | [], _ => Nat.zero_le _
  | c :: r, h => by
    have h1 := h c List.mem_cons_self
    have h2 := wds_le fun z hz => h z (List.mem_cons_of_mem _ hz)
    rw [wds]; omega
mutual
/-- does it hold of a number -/
def hold (n : Int) : Cd → Bool
  | .rg m lo hi => decide (lo ≤ if 0 < m then n % m else n) && decide ((if 0 < m then n % m else n) ≤ hi)
  | .no c => !hold n c
  | .al b cs => if b = true then holdA n cs else holdO n cs
def holdA (n : Int) : List Cd → Bool
  | [] => true
  | c :: r => hold n c && holdA n r
def holdO (n : Int) : List Cd → Bool
  | [] => false
  | c :: r => hold n c || holdO n r
end
theorem holdA_map (n : Int) : ∀ cs : List Cd, holdA n cs = (cs.map (hold n)).all fun b => b
  | [] => rfl
  | c :: r => by rw [holdA, holdA_map n r]; rfl
theorem holdO_map (n : Int) : ∀ cs : List Cd, holdO n cs = (cs.map (hold n)).any fun b => b
  | [] => rfl
  | c :: r => by rw [holdO, holdO_map n r]; rfl
/-- the numbers in it keep to a bound -/
def okRg (r : Rg) : Prop := 0 ≤ r.1 ∧ r.1 < 5000 ∧ 0 ≤ r.2.1 ∧ r.2.1 < 5000 ∧ 0 ≤ r.2.2 ∧ r.2.2 < 5000 ∧ (r.1 = 0 ∨ r.1 = 10 ∨ r.1 = 100 ∨ r.1 = 1000) ∧ r.2.1 ≤ r.2.2 ∧ (0 < r.1 → r.2.2 < r.1)
structure Rl where
  rows : List (Str × Cd)
  last : Str
def eRow (r : Str × Cd) : Cv := .tup [.str r.1, enc r.2]
def eR (r : Rl) : Cv := .tup [.tup (r.rows.map eRow), .str r.last]
def insR (r : Rl) : List Rg := r.rows.flatMap fun x => ins x.2
def spIns (d : Nat) : CSp := mkSp fun us S R => ∃ c, us = [enc c] ∧ dp c < d ∧ (ins c).length ≤ 1000000 ∧ R = fun w S' => w = .lst ((ins c).map eIn) ∧ S' = S
def spAllIns (d : Nat) : CSp := mkSp fun us S R => ∃ r, us = [eR r] ∧ (∀ x ∈ r.rows, dp x.2 < d) ∧ (insR r).length ≤ 1000000 ∧ R = fun w S' => w = .lst ((insR r).map eIn) ∧ S' = S
def bnd (l : List Rg) : Int := match l.filterMap fun r => if r.1 = 0 then some (r.2.2 + 1) else none with | [] => 0 | ns => lmax 0 ns
def prd (l : List Rg) : Int := match l.filterMap fun r => if 0 < r.1 then some r.1 else none with | [] => 1 | ns => lmax 0 ns
def spBound (d : Nat) : CSp := mkSp fun us S R => ∃ r, us = [eR r] ∧ (∀ x ∈ r.rows, dp x.2 < d) ∧ (insR r).length ≤ 1000000 ∧ R = fun w S' => w = .int (bnd (insR r)) ∧ S' = S
def spPeriod (d : Nat) : CSp := mkSp fun us S R => ∃ r, us = [eR r] ∧ (∀ x ∈ r.rows, dp x.2 < d) ∧ (insR r).length ≤ 1000000 ∧ R = fun w S' => w = .int (prd (insR r)) ∧ S' = S
def spHolds (d : Nat) : CSp := mkSp fun us S R => ∃ c n, us = [enc c, .int n] ∧ dp c < d ∧ wd c ≤ 100000 ∧ (∀ r ∈ ins c, 0 ≤ r.1) ∧ R = fun w S' => w = .bl (hold n c) ∧ S' = S
end CL

set_option Elab.async false
set_option linter.all false
set_option maxRecDepth 100000
set_option maxHeartbeats 1000000
/-! CL15: more steps: iterations, methods, aggregates -/
namespace CL
open PySem PySem.Spec PyProof.Rows L2
section
variable {D : CEnds} {ws : CL.Env} {S : Sto} {t u tb : CS} {te ta : CE} {ua : CA} {g g1 : CG} {tt tt1 : CT} {ti ti1 : CI} {i j : Int} {n : Nat} {w z : Cv} {us xs ys zs : List Cv} {p : Addr} {vs vs1 : List Nat} {rm : CM} {x : Str}
def kSeq (Q : List Cv → (Sto → Prop) → Sto → Prop) : Cv → Sto → Prop := fun w S1 => match w with
  | .tup xs => Q xs (fun _ => True) S1
  | .lst xs => Q xs (fun _ => True) S1
  | .str x => Q (signs x) (fun _ => True) S1
  | .ref a => ownL S1 a fun xs => Q xs (fun S => S a = some (.lst xs)) S1
  | _ => False
theorem x_seqI {Q} (h : te ws S (kSeq Q)) : cSeqI te ws S Q := h
theorem x_kSeqT {Q : List Cv → (Sto → Prop) → Sto → Prop} (h : Q xs (fun _ => True) S) : kSeq Q (.tup xs) S := h
theorem x_kSeqL {Q : List Cv → (Sto → Prop) → Sto → Prop} (h : Q xs (fun _ => True) S) : kSeq Q (.lst xs) S := h
theorem x_kSeqS {Q : List Cv → (Sto → Prop) → Sto → Prop} (h : Q (signs x) (fun _ => True) S) : kSeq Q (.str x) S := h
theorem x_kSeqR {Q : List Cv → (Sto → Prop) → Sto → Prop} (e : S p = some (.lst xs)) (h : Q xs (fun S => S p = some (.lst xs)) S) : kSeq Q (.ref p) S := ownL_to e h
def kRng1 (Q : List Cv → (Sto → Prop) → Sto → Prop) : List Cv → Sto → Prop := fun us S1 => match us with | [.int j] => (-(2 ^ 62) ≤ j ∧ j < 2 ^ 62) ∧ Q (iota 0 j.toNat) (fun _ => True) S1 | _ => False
def kRng2 (Q : List Cv → (Sto → Prop) → Sto → Prop) : List Cv → Sto → Prop := fun us S1 => match us with | [.int i, .int j] => (-(2 ^ 62) ≤ i ∧ i < 2 ^ 62 ∧ -(2 ^ 62) ≤ j ∧ j < 2 ^ 62) ∧ Q (iota i (j - i).toNat) (fun _ => True) S1 | _ => False
theorem x_rng1 {Q} (h : ua ws S (kRng1 Q)) : cRng1 ua ws S Q := h
theorem x_rng2 {Q} (h : ua ws S (kRng2 Q)) : cRng2 ua ws S Q := h
theorem x_kRng1 {Q : List Cv → (Sto → Prop) → Sto → Prop} (hb : -(2 ^ 62) ≤ j ∧ j < 2 ^ 62) (h : Q (iota 0 j.toNat) (fun _ => True) S) : kRng1 Q [.int j] S := ⟨hb, h⟩
theorem x_kRng2 {Q : List Cv → (Sto → Prop) → Sto → Prop} (hb : -(2 ^ 62) ≤ i ∧ i < 2 ^ 62 ∧ -(2 ^ 62) ≤ j ∧ j < 2 ^ 62) (h : Q (iota i (j - i).toNat) (fun _ => True) S) : kRng2 Q [.int i, .int j] S := ⟨hb, h⟩
theorem x_lc {Q} (h : ti ws S fun xs G S1 => lcL G g tt te (cwipe ws vs) (fun ys S2 => Q (.lst ys) S2) xs [] S1) : cLc ti g tt te vs ws S Q := h
theorem x_lcO {Q} (h : ti ws S fun xs G S1 => lcL G g tt te (cwipe ws vs) (fun ys S2 => ∀ p, S2 p = none → Q (.ref p) (S2.set p (.lst ys))) xs [] S1) : cLcO ti g tt te vs ws S Q := h
theorem x_lc2 {Q} (h : ti ws S fun xs G S1 => lc2L G g tt ti1 g1 tt1 te vs1 (cwipe ws vs) (fun ys S2 => Q (.lst ys) S2) xs [] S1) : cLc2 ti g tt ti1 g1 tt1 te vs vs1 ws S Q := h
theorem x_for (h : ti ws S fun xs G S1 => forL G g tb D xs ws S1) : cFor ti g tb D ws S := h
def kBM (T : String) (r : CM) (ta : CA) (ws : CL.Env) (Q : Cv → Sto → Prop) : Cv → Sto → Prop := fun o S1 => tyC T o S1 ∧ ta ws S1 fun us S2 => r o us S2 Q
theorem x_bmK {Q} {T : String} (h : te ws S (kBM T rm ua ws Q)) : cBM T rm te ua ws S Q := h
theorem x_kBM {Q} (e : S p = some (.lst xs)) (h : ua ws S fun us S2 => rm (.ref p) us S2 Q) : kBM "list" rm ua ws Q (.ref p) S := ⟨by simp [tyC, e], h⟩
theorem x_append {Q : Cv → Sto → Prop} (e : S p = some (.lst xs)) (hl : xs.length < sizeLine) (h : Q .non (S.set p (.lst (xs ++ [w])))) : cAppend (.ref p) [w] S Q := ownL_to e ⟨hl, h⟩
theorem x_extendL {Q : Cv → Sto → Prop} (e : S p = some (.lst xs)) (hl : xs.length + zs.length ≤ sizeLine) (h : Q .non (S.set p (.lst (xs ++ zs)))) : cExtend (.ref p) [.lst zs] S Q := ownL_to e ⟨hl, h⟩
theorem x_maxD {Q : Cv → Sto → Prop} {ns : List Int} (e : asInts xs = some ns) (h : Q (match ns with | [] => w | ns => .int (lmax 0 ns)) S) : cMaxD [.lst xs] [w] S Q := by
  have e' : intsOf (.lst xs) S = some ns := e
  show match intsOf (.lst xs) S with | some [] => Q w S | some ns => Q (.int (lmax 0 ns)) S | none => False
  rw [e']
  cases ns <;> exact h
theorem x_minD {Q : Cv → Sto → Prop} {ns : List Int} (e : asInts xs = some ns) (h : Q (match ns with | [] => w | ns => .int (lmin 0 ns)) S) : cMinD [.lst xs] [w] S Q := by
  have e' : intsOf (.lst xs) S = some ns := e
  show match intsOf (.lst xs) S with | some [] => Q w S | some ns => Q (.int (lmin 0 ns)) S | none => False
  rw [e']
  cases ns <;> exact h
theorem x_maxL {Q : Cv → Sto → Prop} {ns : List Int} (e : asInts xs = some ns) (hn : ns ≠ []) (h : Q (.int (lmax 0 ns)) S) : cMax [.lst xs] S Q := by
  have e' : intsOf (.lst xs) S = some ns := e
  show match intsOf (.lst xs) S with | some ns => ns ≠ [] ∧ Q (.int (lmax 0 ns)) S | none => False
  rw [e']
  exact ⟨hn, h⟩
theorem x_minL {Q : Cv → Sto → Prop} {ns : List Int} (e : asInts xs = some ns) (hn : ns ≠ []) (h : Q (.int (lmin 0 ns)) S) : cMin [.lst xs] S Q := by
  have e' : intsOf (.lst xs) S = some ns := e
  show match intsOf (.lst xs) S with | some ns => ns ≠ [] ∧ Q (.int (lmin 0 ns)) S | none => False
  rw [e']
  exact ⟨hn, h⟩
theorem x_allL {Q : Cv → Sto → Prop} {bs : List Bool} (e : asBools xs = some bs) (h : Q (.bl (bs.all fun b => b)) S) : cAll [.lst xs] S Q := by
  have e' : boolsOf (.lst xs) S = some bs := e
  show match boolsOf (.lst xs) S with | some ns => Q (.bl (ns.all fun b => b)) S | none => False
  rw [e']; exact h
theorem x_anyL {Q : Cv → Sto → Prop} {bs : List Bool} (e : asBools xs = some bs) (h : Q (.bl (bs.any fun b => b)) S) : cAny [.lst xs] S Q := by
  have e' : boolsOf (.lst xs) S = some bs := e
  show match boolsOf (.lst xs) S with | some ns => Q (.bl (ns.any fun b => b)) S | none => False
  rw [e']; exact h
theorem x_mk {Q : Cv → Sto → Prop} {E : Ex → Sto → Prop} {rel} (R : Cv → Sto → Prop) (h : rel us S R) (q : ∀ w S', R w S' → Q w S') : mkSp rel us S Q E := ⟨R, h, q⟩
variable {Q : Cv → Sto → Prop} {E : Ex → Sto → Prop} {d : Nat}
theorem x_ins {c : Cd} (h1 : dp c < d) (h2 : (ins c).length ≤ 1000000) (h : Q (.lst ((ins c).map eIn)) S) : spIns d [enc c] S Q E := ⟨_, ⟨c, rfl, h1, h2, rfl⟩, fun _ _ ⟨e1, e2⟩ => by rw [e1, e2]; exact h⟩
theorem x_allIns {r : Rl} (h1 : ∀ x ∈ r.rows, dp x.2 < d) (h2 : (insR r).length ≤ 1000000) (h : Q (.lst ((insR r).map eIn)) S) : spAllIns d [eR r] S Q E := ⟨_, ⟨r, rfl, h1, h2, rfl⟩, fun _ _ ⟨e1, e2⟩ => by rw [e1, e2]; exact h⟩
theorem x_bound {r : Rl} (h1 : ∀ x ∈ r.rows, dp x.2 < d) (h2 : (insR r).length ≤ 1000000) (h : Q (.int (bnd (insR r))) S) : spBound d [eR r] S Q E := ⟨_, ⟨r, rfl, h1, h2, rfl⟩, fun _ _ ⟨e1, e2⟩ => by rw [e1, e2]; exact h⟩
theorem x_period {r : Rl} (h1 : ∀ x ∈ r.rows, dp x.2 < d) (h2 : (insR r).length ≤ 1000000) (h : Q (.int (prd (insR r))) S) : spPeriod d [eR r] S Q E := ⟨_, ⟨r, rfl, h1, h2, rfl⟩, fun _ _ ⟨e1, e2⟩ => by rw [e1, e2]; exact h⟩
end
end CL
namespace CL
open PySem PySem.Spec PyProof.Rows L2
theorem x_ixScr {S : Sto} {Q : Cv → Sto → Prop} {ns : List Int} {k : Int} (h0 : 0 ≤ k) (h1 : k < ns.length) (h : ∀ c, c ∈ ns → Q (.int c) S) : cIx (.scr (ns.map Cv.int)) (.int k) S Q := by
  obtain ⟨w, m, e⟩ := atI_mem (xs := ns.map Cv.int) h0 (by simpa using h1)
  obtain ⟨c, hc, rfl⟩ := List.mem_map.mp m
  exact x_ixS e (h c hc)
theorem pot_own {c m : Int} {b : Bool} (h0 : 0 < m) (h1 : m ≤ 10 ^ 300) : 0 ≤ c % m * (if b = true then 1 else 0) ∧ c % m * (if b = true then 1 else 0) < 10 ^ 300 := by
  have a := Int.emod_nonneg c (by omega : m ≠ 0)
  have z := Int.emod_lt_of_pos c h0
  generalize c % m = y at a z
  cases b with
  | true => rw [if_pos rfl, Int.mul_one]; exact ⟨a, Int.lt_of_lt_of_le z h1⟩
  | false => rw [if_neg (by decide), Int.mul_zero]; exact ⟨by decide, Int.pow_pos (by decide)⟩
end CL
namespace CL
theorem nb60 {n : Nat} (h : 1000 ≤ n := by decide) : NB (10 ^ Int.toNat 60) n := by
  have : NB (10 ^ Int.toNat 60) 1000 := by
    show ((10 : Int) ^ 60).natAbs < 2 ^ 1000
    have e : ((10 : Int) ^ 60).natAbs < 2 ^ 200 := by decide
    exact Nat.lt_of_lt_of_le e (pow_le2 (by omega))
  exact this.mono h
theorem p300 : (0 : Int) < (10 ^ Int.toNat 60) ^ Int.toNat 5 := Int.pow_pos (Int.pow_pos (by decide))
theorem p300le : ((10 : Int) ^ Int.toNat 60) ^ Int.toNat 5 ≤ 10 ^ 300 := by
  have : ((10 : Int) ^ 60) ^ 5 = 10 ^ 300 := Int.pow_mul.symm
  exact Int.le_of_eq this
theorem nb300 {n : Nat} {c : Int} (h : 8000 ≤ n := by decide) : NB (c % (10 ^ Int.toNat 60) ^ Int.toNat 5) n := by
  refine NB.mod p300 ?_
  exact NB.mono (NB.pow1 (n := 8000) nb60) h
end CL
namespace CL
open PySem PySem.Spec PyProof.Rows L2
theorem x_yes {Q : Bool → Sto → Prop} {ws : CL.Env} {S : Sto} (h : Q true S) : cYes ws S Q := h
theorem x_iteT {A B : Prop} (h : A) : if true = true then A else B := (if_pos rfl).mpr h
theorem x_iteF {A B : Prop} (h : B) : if false = true then A else B := (if_neg (by decide)).mpr h
theorem x_iteD {a A B : Prop} [Decidable a] (h : a → A) (h' : ¬ a → B) : if decide a = true then A else B := by
  by_cases z : a
  · rw [decide_eq_true z]; exact x_iteT (h z)
  · rw [decide_eq_false z]; exact x_iteF (h' z)
theorem x_iteN {A B : Prop} {b : Bool} (h : if b = true then B else A) : if (!b) = true then A else B := by cases b <;> simpa using h
/-- a pure comprehension that keeps all -/
theorem lc_all {α : Type} {G : Sto → Prop} {g : CG} {te : CE} {ws : CL.Env} {Q : List Cv → Sto → Prop} {S0 : Sto} (as : List α) (e f : α → Cv) (hG : G S0) (acc : List Cv) (hl : acc.length + as.length ≤ 1000000)
    (hs : ∀ a, a ∈ as → ∀ (R : Cv → Sto → Prop), R (f a) S0 → g (e a) ws S0 fun ws2 S2 => te ws2 S2 R) (hm : MonG g) (hq : Q (acc ++ as.map f) S0) : lcL G g cYes te ws Q (as.map e) acc S0 := by
  refine lc_map as e (fun a => some (f a)) hG acc hl (fun a ha R R' h1 _ => ?_) (by rw [List.filterMap_eq_map' ]; exact hq)
  refine hm _ _ _ (fun ws2 S2 => te ws2 S2 R) _ (fun ws2 S2 q => ?_) (hs a ha R (h1 _ rfl))
  exact x_yes (x_iteT q)
end CL
namespace CL
open PySem PySem.Spec PyProof.Rows L2
theorem x_popAt {S : Sto} {p : Addr} {xs : List Cv} {i : Int} {Q : Cv → Sto → Prop} (e : S p = some (.lst xs)) (h0 : 0 ≤ i) (h1 : i < xs.length ∧ i < 2 ^ 63) (h : ∀ (w : Cv) (k : Nat), xs[k]? = some w → k < xs.length → Q w (S.set p (.lst (xs.eraseIdx k)))) : cPopAt (.ref p) [.int i] S Q := by
  have hl : i.toNat < xs.length := by omega
  have e2 : ixN xs.length i = some i.toNat := by unfold ixN; rw [if_pos h0, if_pos h1.1]
  have e3 : xs[i.toNat]? = some xs[i.toNat] := List.getElem?_eq_getElem hl
  refine ownL_to e ⟨⟨by omega, h1.2⟩, ?_⟩
  rw [e2]
  show match xs[i.toNat]? with | some w => _ | none => False
  rw [e3]
  exact h _ _ e3 hl
end CL
namespace CL
theorem asInts_cons {n : Int} {L : List Int} : asInts ([Cv.int n] ++ L.map Cv.int) = some (n :: L) := asInts_map (n :: L)
end CL
namespace CL
open PySem PySem.Spec PyProof.Rows L2
theorem x_holds {S : Sto} {Q : Cv → Sto → Prop} {E : Ex → Sto → Prop} {d : Nat} {c : Cd} {n : Int} (h1 : dp c < d) (h2 : wd c ≤ 100000) (h3 : ∀ r ∈ ins c, 0 ≤ r.1) (h : Q (.bl (hold n c)) S) : spHolds d [enc c, .int n] S Q E := ⟨_, ⟨c, n, rfl, h1, h2, h3, rfl⟩, fun _ _ ⟨e1, e2⟩ => by rw [e1, e2]; exact h⟩
end CL
namespace CL
theorem nb10 {j : Int} {n : Nat} (hj : j.toNat ≤ 60 := by decide) (h : 1000 ≤ n := by decide) : NB (10 ^ j.toNat) n :=
  NB.mono (NB.pow (a := 4) (i := 10) (by unfold NB; decide) (by decide) j.toNat) (by omega)
end CL

set_option Elab.async false
set_option linter.all false
set_option maxRecDepth 100000
set_option maxHeartbeats 1000000
/-! CL16: what the drawing defs promise; what is handed back -/
namespace CL
open PySem PySem.Spec PyProof.Rows L2
section
variable {S S' S1 : Sto} {p a : Addr} {b : Int} {w : Cv} {xs : List Cv} {Q : Cv → Sto → Prop}
/-- what is owned elsewhere stays -/
def Keep (S S' : Sto) (p : Addr) : Prop := ∀ a o, a ≠ p → S a = some o → S' a = some o
theorem Off.keep (h : Off S S' p) : Keep S S' p := fun a o n e => (h a n).trans e
theorem Keep.refl (S : Sto) (p : Addr) : Keep S S p := fun _ _ _ e => e
theorem Keep.trans (h : Keep S S1 p) (g : Keep S1 S' p) : Keep S S' p := fun a o n e => g a o n (h a o n e)
theorem Keep.new {o : Ob} (h : S a = none) : Keep S (S.set a o) p := fun x u _ e => by
  rw [Sto.set_ne (fun z => by subst z; rw [h] at e; cases e)]; exact e
theorem Keep.wr {S2 : Sto} {o : Ob} (k : Keep S S2 p) (h : S a = none) : Keep S (S2.set a o) p := fun x u n e => by
  rw [Sto.set_ne (fun z => by subst z; rw [h] at e; cases e)]; exact k x u n e
/-- the pot and its owner's things alone are seen -/
theorem hand_pot (hw : ∀ a, w ≠ .ref a) (k : Keep S S' p) (hp : Pot S' p b) (h : ∀ S'', Off S S'' p → Pot S'' p b → Q w S'') : Hand S w S' Q := by
  refine ⟨fun x => if x = p then S' p else S x, w, fun x o e => ?_, .inl rfl, h _ (fun x n => if_neg n) (hp.off (if_pos rfl))⟩
  by_cases z : x = p
  · subst z; simpa using e
  · simp only [if_neg z] at e; exact k x o z e
/-- a list of its own, handed back frozen -/
theorem hand_frz (n : S a = none) (h : Q (.lst xs) S) : Hand S (.ref a) (S.set a (.lst xs)) Q :=
  ⟨S, .lst xs, fun x o e => by rw [Sto.set_ne (fun z => by subst z; rw [n] at e; cases e)]; exact e, .inr ⟨a, rfl, n, .inl ⟨xs, Sto.set_same, rfl⟩⟩, h⟩
/-- a list of its own, forgotten -/
theorem hand_drop {o : Ob} (n : S a = none) (h : Q w S) : Hand S w (S.set a o) Q :=
  ⟨S, w, fun x o e => by rw [Sto.set_ne (fun z => by subst z; rw [n] at e; cases e)]; exact e, .inl rfl, h⟩
theorem Pot.some (h : Pot S p b) : ∃ o, S p = some o := by
  obtain ⟨o, s, n, e, _⟩ := h
  exact ⟨_, e⟩
theorem Pot.ne (h : Pot S p b) (n : S a = none) : a ≠ p := fun z => by
  obtain ⟨o, e⟩ := h.some
  subst z; rw [n] at e; cases e
theorem Pot.set {o : Ob} (h : Pot S p b) (n : a ≠ p) : Pot (S.set a o) p b := h.off (Sto.set_ne (fun z => n z.symm))
end
def okMs (ms : List Int) : Prop := ms ≠ [] ∧ ms.length < 1000 ∧ ∀ m ∈ ms, m = 0 ∨ m = 10 ∨ m = 100 ∨ m = 1000
def cst : Nat → Int
  | 0 => 100
  | d + 1 => 4 * cst d
theorem cst_ge : ∀ d, 100 ≤ cst d
  | 0 => by decide
  | d + 1 => by have := cst_ge d; rw [cst]; omega
def goodC (d : Nat) (c : Cd) : Prop := dp c ≤ d ∧ ((ins c).length : Int) ≤ cst d ∧ (∀ r ∈ ins c, okRg r) ∧ wd c ≤ 1000 ∧ (blk (enc c) : Int) ≤ cst d
theorem goodC.mono {d e : Nat} {c : Cd} (h : goodC d c) (l : d ≤ e) : goodC e c := by
  have : ∀ k, cst d ≤ cst (d + k) := fun k => by
    induction k with
    | zero => exact Int.le_refl _
    | succ k ih => have := cst_ge (d + k); rw [← Nat.add_assoc, cst]; omega
  have := this (e - d)
  rw [Nat.add_sub_cancel' l] at this
  exact ⟨Nat.le_trans h.1 l, Int.le_trans h.2.1 this, h.2.2.1, h.2.2.2.1, Int.le_trans h.2.2.2.2 this⟩
def spRange : CSp := mkSp fun us S R => ∃ p ms b, us = [.ref p, .lst (ms.map Cv.int)] ∧ okMs ms ∧ Pot S p b ∧ b + 10 < bMax ∧ R = fun w S' => ∃ r, w = eIn r ∧ okRg r ∧ Off S S' p ∧ Pot S' p (b + 10)
def spCond (d : Nat) : CSp := mkSp fun us S R => ∃ p ms deep b, us = [.ref p, .lst (ms.map Cv.int), .int deep] ∧ okMs ms ∧ deep ≤ d ∧ 1 ≤ d ∧ Pot S p b ∧ b + cst d < bMax ∧ R = fun w S' => ∃ c, w = enc c ∧ goodC d c ∧ Off S S' p ∧ Pot S' p (b + cst d)
/-- the names of forms that are drawn -/
abbrev forms8 : List Str := ["one", "two", "few", "many", "zero", "other", "a", "lastform"]
def goodD (c : Cd) : Prop := dp c ≤ 5 ∧ (ins c).length ≤ 6400 ∧ (∀ r ∈ ins c, okRg r) ∧ wd c ≤ 1000 ∧ blk (enc c) ≤ 6400
theorem goodC.D {c : Cd} (h : goodC 3 c) : goodD c := ⟨Nat.le_trans h.1 (by decide), by
  have := h.2.1
  have e : cst 3 = 6400 := by decide
  omega, h.2.2.1, h.2.2.2.1, by
  have := h.2.2.2.2
  have e : cst 3 = 6400 := by decide
  omega⟩
def goodR (r : Rl) : Prop := r.rows.length ≤ 20 ∧ r.last ∈ forms8 ∧ ∀ x ∈ r.rows, x.1 ∈ forms8 ∧ goodD x.2
theorem goodR.ins {r : Rl} (h : goodR r) : (insR r).length ≤ 1000000 := by
  have key : ∀ l : List (Str × Cd), (∀ x ∈ l, goodD x.2) → (l.flatMap fun x => CL.ins x.2).length ≤ 6400 * l.length := by
    intro l
    induction l with
    | nil => intro _; simp
    | cons x l ih =>
      intro hx
      have h1 := (hx x List.mem_cons_self).2.1
      have h2 := ih fun y hy => hx y (List.mem_cons_of_mem _ hy)
      rw [List.flatMap_cons, List.length_append, List.length_cons]
      omega
  have := key r.rows fun x hx => (h.2.2 x hx).2
  have := h.1
  unfold insR
  omega
theorem goodR.ok {r : Rl} (h : goodR r) : ∀ x ∈ insR r, okRg x := fun x hx => by
  obtain ⟨y, hy, hx⟩ := List.mem_flatMap.mp hx
  exact (h.2.2 y hy).2.2.2.1 x hx
theorem goodR.dp {r : Rl} (h : goodR r) : ∀ x ∈ r.rows, dp x.2 < 6 := fun x hx => by
  have := (h.2.2 x hx).2.1
  omega
def spRules : CSp := mkSp fun us S R => ∃ p b, us = [.ref p] ∧ Pot S p b ∧ b + 100000 < bMax ∧ R = fun w S' => ∃ r, w = eR r ∧ goodR r ∧ Off S S' p ∧ Pot S' p (b + 100000)
section
variable {S : Sto} {p : Addr} {b deep : Int} {ms : List Int} {d : Nat} {Q : Cv → Sto → Prop} {E : Ex → Sto → Prop}
theorem x_range (hm : okMs ms) (hp : Pot S p b) (hb : b + 10 < bMax) (h : ∀ r S', okRg r → Off S S' p → Pot S' p (b + 10) → Q (eIn r) S') : spRange [.ref p, .lst (ms.map Cv.int)] S Q E :=
  ⟨_, ⟨p, ms, b, rfl, hm, hp, hb, rfl⟩, fun w S' ⟨r, e, h1, h2, h3⟩ => by rw [e]; exact h r S' h1 h2 h3⟩
theorem x_cond (hm : okMs ms) (hd : deep ≤ d) (h1 : 1 ≤ d) (hp : Pot S p b) (hb : b + cst d < bMax) (h : ∀ c S', goodC d c → Off S S' p → Pot S' p (b + cst d) → Q (enc c) S') : spCond d [.ref p, .lst (ms.map Cv.int), .int deep] S Q E :=
  ⟨_, ⟨p, ms, deep, b, rfl, hm, hd, h1, hp, hb, rfl⟩, fun w S' ⟨r, e, h1, h2, h3⟩ => by rw [e]; exact h r S' h1 h2 h3⟩
theorem x_rules (hp : Pot S p b) (hb : b + 100000 < bMax) (h : ∀ r S', goodR r → Off S S' p → Pot S' p (b + 100000) → Q (eR r) S') : spRules [.ref p] S Q E :=
  ⟨_, ⟨p, b, rfl, hp, hb, rfl⟩, fun w S' ⟨r, e, h1, h2, h3⟩ => by rw [e]; exact h r S' h1 h2 h3⟩
theorem x_pot {ns : List Int} {k : Int} (k0 : 0 ≤ k) (k1 : k < 1000000) (h : ∀ p S', S p = none → Off S S' p → Pot S' p 0 → Q (.ref p) S') : spPot [.scr (ns.map Cv.int), .int k] S Q E :=
  ⟨_, ⟨ns, k, rfl, k0, k1, rfl⟩, fun w S' ⟨p, e, h1, h2, h3⟩ => by rw [e]; exact h p S' h1 h2 h3⟩
end
end CL
namespace CL
theorem list_of {good : Cd → Prop} : ∀ ys : List Cv, (∀ y ∈ ys, ∃ c, y = enc c ∧ good c) → ∃ cs : List Cd, ys = cs.map enc ∧ ∀ c ∈ cs, good c
  | [], _ => ⟨[], rfl, fun _ h => (by cases h)⟩
  | y :: ys, h => by
    obtain ⟨c, e, g⟩ := h y List.mem_cons_self
    obtain ⟨cs, e2, g2⟩ := list_of ys fun z hz => h z (List.mem_cons_of_mem _ hz)
    exact ⟨c :: cs, by rw [e, e2]; rfl, fun z hz => (List.mem_cons.mp hz).elim (fun e => by rw [e]; exact g) (g2 z)⟩
theorem dps_le {n : Nat} : ∀ {cs : List Cd}, (∀ c ∈ cs, dp c ≤ n) → dps cs ≤ n
  | [], _ => Nat.zero_le _
  | c :: r, h => by
    have h1 := h c List.mem_cons_self
    have h2 := dps_le fun z hz => h z (List.mem_cons_of_mem _ hz)
    rw [dps]; omega
theorem inss_le : ∀ (cs : List Cd) (C : Int), 0 ≤ C → (∀ c ∈ cs, ((ins c).length : Int) ≤ C) → ((inss cs).length : Int) ≤ C * cs.length
  | [], C, _, _ => by simp [inss]
  | c :: r, C, h0, h => by
    have h1 := h c List.mem_cons_self
    have h2 := inss_le r C h0 fun z hz => h z (List.mem_cons_of_mem _ hz)
    rw [inss, List.length_append, List.length_cons]
    have e : C * ((r.length + 1 : Nat) : Int) = C * r.length + C := by push_cast; rw [Int.mul_add, Int.mul_one]
    rw [e]; push_cast; omega
end CL
namespace CL
theorem list_of' {α : Type} {good : α → Prop} (e : α → Cv) : ∀ ys : List Cv, (∀ y ∈ ys, ∃ c, y = e c ∧ good c) → ∃ cs : List α, ys = cs.map e ∧ ∀ c ∈ cs, good c
  | [], _ => ⟨[], rfl, fun _ h => (by cases h)⟩
  | y :: ys, h => by
    obtain ⟨c, e1, g⟩ := h y List.mem_cons_self
    obtain ⟨cs, e2, g2⟩ := list_of' e ys fun z hz => h z (List.mem_cons_of_mem _ hz)
    exact ⟨c :: cs, by rw [e1, e2]; rfl, fun z hz => (List.mem_cons.mp hz).elim (fun e => by rw [e]; exact g) (g2 z)⟩
theorem list_of'' {α : Type} {good : α → Prop} (e : α → Cv) (ys : List Cv) (h : ∀ y ∈ ys, ∃ c, y = e c ∧ good c) : ∃ cs : List α, ys = cs.map e ∧ ∀ c ∈ cs, good c := list_of' e ys h
end CL
namespace CL
theorem eraseIdx_map {α β : Type} (f : α → β) : ∀ (l : List α) (k : Nat), (l.map f).eraseIdx k = (l.eraseIdx k).map f
  | [], _ => rfl
  | _ :: _, 0 => rfl
  | x :: r, k + 1 => by simp [List.eraseIdx, eraseIdx_map f r k]
end CL
namespace CL
open PySem PySem.Spec PyProof.Rows L2
/-- what the law finds by itself -/
theorem lmax_eq {d d' : Int} {xs ys : List Int} (hx : xs ≠ []) (hy : ys ≠ []) (h1 : ∀ x ∈ xs, x ∈ ys ∨ ∃ y ∈ ys, x ≤ y) (h2 : ∀ y ∈ ys, y ∈ xs ∨ ∃ x ∈ xs, y ≤ x) : lmax d xs = lmax d' ys := by
  have a := lmax_mem (d := d) hx
  have b := lmax_mem (d := d') hy
  have p : lmax d xs ≤ lmax d' ys := by
    rcases h1 _ a with z | ⟨y, hy, z⟩
    · exact lmax_ge _ z
    · exact Int.le_trans z (lmax_ge _ hy)
  have q : lmax d' ys ≤ lmax d xs := by
    rcases h2 _ b with z | ⟨y, hy, z⟩
    · exact lmax_ge _ z
    · exact Int.le_trans z (lmax_ge _ hy)
  omega
theorem bnd_edge (l : List Rg) (ok : ∀ r ∈ l, okRg r) : lmax 0 (0 :: l.filterMap fun r => if r.1 = 0 then some (r.2.2 + 1) else none) = bnd l := by
  unfold bnd
  have pos : ∀ y ∈ l.filterMap (fun r => if r.1 = 0 then some (r.2.2 + 1) else none), 0 ≤ y := fun y hy => by
    obtain ⟨r, hr, e⟩ := List.mem_filterMap.mp hy
    have := ok r hr
    split at e
    · cases e; have := this.2.2.2.2.1; omega
    · cases e
  generalize List.filterMap _ l = ns at pos ⊢
  cases ns with
  | nil => rfl
  | cons n r =>
    refine lmax_eq (by simp) (by simp) (fun x hx => ?_) (fun y hy => .inl (List.mem_cons_of_mem _ hy))
    rcases List.mem_cons.mp hx with e | e
    · exact .inr ⟨n, List.mem_cons_self, by rw [e]; exact pos n List.mem_cons_self⟩
    · exact .inl e
theorem prd_edge (l : List Rg) (ok : ∀ r ∈ l, okRg r) : lmax 0 (1 :: l.map fun r => r.1) = prd l := by
  unfold prd
  have h1 : ∀ y ∈ l.filterMap (fun r => if 0 < r.1 then some r.1 else none), 1 ≤ y ∧ y ∈ l.map fun r => r.1 := fun y hy => by
    obtain ⟨r, hr, e⟩ := List.mem_filterMap.mp hy
    split at e
    · cases e; exact ⟨by omega, List.mem_map.mpr ⟨r, hr, rfl⟩⟩
    · cases e
  have h2 : ∀ y ∈ l.map (fun r => r.1), y ≤ 0 ∨ y ∈ l.filterMap fun r => if 0 < r.1 then some r.1 else none := fun y hy => by
    obtain ⟨r, hr, e⟩ := List.mem_map.mp hy
    by_cases z : 0 < r.1
    · exact .inr (List.mem_filterMap.mpr ⟨r, hr, by rw [if_pos z, e]⟩)
    · exact .inl (by omega)
  generalize List.filterMap _ l = ns at h1 h2 ⊢
  generalize l.map (fun r => r.1) = ms at h1 h2 ⊢
  cases ns with
  | nil =>
    show lmax 0 (1 :: ms) = 1
    have a := lmax_mem (d := 0) (ns := 1 :: ms) (by simp)
    have b := lmax_ge (d := 0) (ns := 1 :: ms) 1 List.mem_cons_self
    rcases List.mem_cons.mp a with e | e
    · exact e
    · rcases h2 _ e with z | z
      · omega
      · cases z
  | cons n r =>
    refine lmax_eq (by simp) (by simp) (fun x hx => ?_) (fun y hy => .inl (List.mem_cons_of_mem _ (h1 y hy).2))
    rcases List.mem_cons.mp hx with e | e
    · exact .inr ⟨n, List.mem_cons_self, by rw [e]; exact (h1 n List.mem_cons_self).1⟩
    · rcases h2 x e with z | z
      · exact .inr ⟨n, List.mem_cons_self, by have := (h1 n List.mem_cons_self).1; omega⟩
      · exact .inl z
def spEdges (d : Nat) : CSp := mkSp fun us S R => ∃ r, us = [eR r] ∧ (∀ x ∈ r.rows, dp x.2 < d) ∧ (insR r).length ≤ 1000000 ∧ (∀ x ∈ insR r, okRg x) ∧ R = fun w S' => w = .tup [.int (bnd (insR r)), .int (prd (insR r))] ∧ S' = S
theorem x_edges {S : Sto} {d : Nat} {Q : Cv → Sto → Prop} {E : Ex → Sto → Prop} {r : Rl} (h1 : ∀ x ∈ r.rows, dp x.2 < d) (h2 : (insR r).length ≤ 1000000) (h3 : ∀ x ∈ insR r, okRg x) (h : Q (.tup [.int (bnd (insR r)), .int (prd (insR r))]) S) : spEdges d [eR r] S Q E := ⟨_, ⟨r, rfl, h1, h2, h3, rfl⟩, fun _ _ ⟨e1, e2⟩ => by rw [e1, e2]; exact h⟩
theorem bnd_le (l : List Rg) (ok : ∀ r ∈ l, okRg r) : 0 ≤ bnd l ∧ bnd l ≤ 1000000 := by
  rw [← bnd_edge l ok]
  refine ⟨lmax_ge _ List.mem_cons_self, ?_⟩
  have key := lmax_mem (d := 0) (ns := 0 :: l.filterMap fun (r : Rg) => if r.1 = 0 then some (r.2.2 + 1) else none) (by simp)
  generalize lmax 0 (0 :: l.filterMap fun (r : Rg) => if r.1 = 0 then some (r.2.2 + 1) else none) = z at key ⊢
  rcases List.mem_cons.mp key with e | e
  · omega
  · obtain ⟨r, hr, e⟩ := List.mem_filterMap.mp e
    have := ok r hr
    split at e
    · have := this.2.2.2.2.2.1; injection e with e; omega
    · cases e
theorem bnd_le5 (l : List Rg) (ok : ∀ r ∈ l, okRg r) : bnd l ≤ 5000 := by
  rw [← bnd_edge l ok]
  have key := lmax_mem (d := 0) (ns := 0 :: l.filterMap fun (r : Rg) => if r.1 = 0 then some (r.2.2 + 1) else none) (by simp)
  generalize lmax 0 (0 :: l.filterMap fun (r : Rg) => if r.1 = 0 then some (r.2.2 + 1) else none) = z at key ⊢
  rcases List.mem_cons.mp key with e | e
  · omega
  · obtain ⟨r, hr, e⟩ := List.mem_filterMap.mp e
    have := ok r hr
    split at e
    · have := this.2.2.2.2.2.1; injection e with e; omega
    · cases e
/-- r's bound is under the joint one -/
theorem bnd_ge (l : List Rg) (ok : ∀ r ∈ l, okRg r) : ∀ r ∈ l, r.1 = 0 → r.2.2 < bnd l := fun r hr e => by
  rw [← bnd_edge l ok]
  have : r.2.2 + 1 ≤ lmax 0 (0 :: l.filterMap fun (r : Rg) => if r.1 = 0 then some (r.2.2 + 1) else none) :=
    lmax_ge _ (List.mem_cons_of_mem _ (List.mem_filterMap.mpr ⟨r, hr, by rw [if_pos e]⟩))
  omega
/-- all moduli divide the greatest -/
theorem prd_dvd (l : List Rg) (ok : ∀ r ∈ l, okRg r) : ∀ r ∈ l, 0 < r.1 → r.1 ∣ prd l := fun r hr h0 => by
  rw [← prd_edge l ok]
  have ge : r.1 ≤ lmax 0 (1 :: l.map fun r => r.1) := lmax_ge _ (List.mem_cons_of_mem _ (List.mem_map.mpr ⟨r, hr, rfl⟩))
  have key := lmax_mem (d := 0) (ns := 1 :: l.map fun r => r.1) (by simp)
  generalize lmax 0 (1 :: l.map fun r => r.1) = z at key ge ⊢
  have a := (ok r hr).2.2.2.2.2.2.1
  have b : z = 1 ∨ z = 0 ∨ z = 10 ∨ z = 100 ∨ z = 1000 := by
    rcases List.mem_cons.mp key with e | e
    · exact .inl e
    · obtain ⟨r', hr', e⟩ := List.mem_map.mp e
      rw [← e]; exact .inr (ok r' hr').2.2.2.2.2.2.1
  rcases a with a | a | a | a <;> rcases b with b | b | b | b | b <;> first | (exfalso; omega) | (rw [a, b]; decide)
/-- a condition holds alike of two numbers past all bounds whose difference all moduli divide -/
theorem hold_rg {n z m lo hi low wide k : Int} (hn : low ≤ n) (hz : low ≤ z) (e : n = z + wide * k) (h1 : m = 0 → hi < low) (h2 : 0 ≤ m) (h3 : 0 < m → m ∣ wide) : hold n (.rg m lo hi) = hold z (.rg m lo hi) := by
  by_cases hm : 0 < m
  · obtain ⟨q, hq⟩ := h3 hm
    have em : n % m = z % m := by
      rw [e, hq, Int.mul_assoc, Int.add_mul_emod_self_left]
    simp only [hold, if_pos hm, em]
  · have hm0 : m = 0 := by omega
    have := h1 hm0
    simp only [hold, if_neg hm]
    rw [decide_eq_false (show ¬ n ≤ hi by omega), decide_eq_false (show ¬ z ≤ hi by omega), Bool.and_false, Bool.and_false]
section
variable {n z low wide k : Int} (hn : low ≤ n) (hz : low ≤ z) (e : n = z + wide * k)
include hn hz e
mutual
theorem hold_round : ∀ c : Cd, (∀ r ∈ ins c, (r.1 = 0 → r.2.2 < low) ∧ 0 ≤ r.1 ∧ (0 < r.1 → r.1 ∣ wide)) → hold n c = hold z c
  | .rg m lo hi, h => by
    obtain ⟨a, b, c⟩ := h (m, lo, hi) (by simp [ins])
    exact hold_rg hn hz e a b c
  | .no c, h => by rw [hold, hold, hold_round c (by simpa only [ins] using h)]
  | .al b cs, h => by
    obtain ⟨p, q⟩ := hold_rounds cs (by simpa only [ins] using h)
    rw [hold, hold, p, q]
theorem hold_rounds : ∀ cs : List Cd, (∀ r ∈ inss cs, (r.1 = 0 → r.2.2 < low) ∧ 0 ≤ r.1 ∧ (0 < r.1 → r.1 ∣ wide)) → holdA n cs = holdA z cs ∧ holdO n cs = holdO z cs
  | [], _ => ⟨rfl, rfl⟩
  | c :: r, h => by
    rw [inss] at h
    have a := hold_round c fun x hx => h x (List.mem_append_left _ hx)
    obtain ⟨p, q⟩ := hold_rounds r fun x hx => h x (List.mem_append_right _ hx)
    exact ⟨by rw [holdA, holdA, a, p], by rw [holdO, holdO, a, q]⟩
end
end
theorem prd_le (l : List Rg) (ok : ∀ r ∈ l, okRg r) : 1 ≤ prd l ∧ prd l ≤ 1000000 := by
  rw [← prd_edge l ok]
  refine ⟨lmax_ge _ List.mem_cons_self, ?_⟩
  rcases List.mem_cons.mp (lmax_mem (d := 0) (ns := 1 :: l.map fun r => r.1) (by simp)) with e | e
  · omega
  · obtain ⟨r, hr, e⟩ := List.mem_map.mp e
    have := (ok r hr).2.1
    omega
end CL
namespace CL
open PySem PySem.Spec PyProof.Rows L2
section
variable {P : Program} {w : World} {K : Fg} {mg : Str → Option Value} {base : Heap} {k : Nat} {f : Addr} {fd : FuncData} {ps : List Str}
theorem spIns_zero : FnG P w K mg base L2.CX0 k f fd ps (spIns 0) := fn_no.imp mkSp_mono fun us S Q E ⟨R, ⟨c, _, h, _⟩, _⟩ => absurd h (Nat.not_lt_zero _)
theorem spHolds_zero : FnG P w K mg base L2.CX0 k f fd ps (spHolds 0) := fn_no.imp mkSp_mono fun us S Q E ⟨R, ⟨c, _, _, h, _⟩, _⟩ => absurd h (Nat.not_lt_zero _)
theorem spCond_zero : FnG P w K mg base L2.CX0 k f fd ps (spCond 0) := fn_no.imp mkSp_mono fun us S Q E ⟨R, ⟨_, _, _, _, _, _, _, h, _⟩, _⟩ => absurd h (by decide)
end
end CL
namespace CL
open PySem PySem.Spec PyProof.Rows L2
theorem small_int {i : Int} (h0 : 0 ≤ i) (h1 : i < 10000000) : smallV (.int i) = true := by
  show decide _ = true
  exact decide_eq_true (by omega)
theorem smallVs_map {α : Type} (e : α → Cv) : ∀ l : List α, (∀ a ∈ l, smallV (e a) = true) → smallVs (l.map e) = true
  | [], _ => rfl
  | a :: r, h => by
    show (smallV (e a) && smallVs (r.map e)) = true
    rw [h a List.mem_cons_self, smallVs_map e r fun b hb => h b (List.mem_cons_of_mem _ hb)]; rfl
mutual
theorem smallV_enc : ∀ c : Cd, (∀ r ∈ ins c, okRg r) → smallV (enc c) = true ∧ dep (enc c) ≤ 2 * dp c + 1
  | .rg m lo hi, h => by
    obtain ⟨a, b, c, d, e, f⟩ := h (m, lo, hi) (by simp [ins])
    refine ⟨?_, by rw [enc, dp]; exact Nat.le_of_ble_eq_true rfl⟩
    rw [enc]
    show (smallV (.str "in") && (smallV (.int m) && (smallV (.int lo) && (smallV (.int hi) && true)))) = true
    have e1 : smallV (.int m) = true := small_int a (by have : m < 5000 := b; omega)
    have e2 : smallV (.int lo) = true := small_int c (by have : lo < 5000 := d; omega)
    have e3 : smallV (.int hi) = true := small_int e (by have : hi < 5000 := f.1; omega)
    rw [e1, e2, e3]; decide +kernel
  | .no c, h => by
    obtain ⟨a, b⟩ := smallV_enc c (by simpa only [ins] using h)
    refine ⟨?_, ?_⟩
    · rw [enc]
      show (smallV (.str "not") && (smallV (enc c) && true)) = true
      rw [a]; decide +kernel
    · rw [enc, dp]
      show max (dep (.str "not")) (max (dep (enc c)) 0) + 1 ≤ _
      have : dep (.str "not") = 0 := rfl
      omega
  | .al b cs, h => by
    obtain ⟨a, z⟩ := smallV_encs cs (by simpa only [ins] using h)
    refine ⟨?_, ?_⟩
    · rw [enc]
      show (smallV (.str (if b = true then "all" else "any")) && (smallVs (encs cs) && true)) = true
      rw [a]; cases b <;> decide +kernel
    · rw [enc, dp]
      show max (dep (.str (if b = true then "all" else "any"))) (max (deps (encs cs) + 1) 0) + 1 ≤ _
      have : dep (.str (if b = true then "all" else "any")) = 0 := rfl
      omega
theorem smallV_encs : ∀ cs : List Cd, (∀ r ∈ inss cs, okRg r) → smallVs (encs cs) = true ∧ deps (encs cs) ≤ 2 * dps cs + 1
  | [], _ => ⟨rfl, Nat.zero_le _⟩
  | c :: r, h => by
    rw [inss] at h
    obtain ⟨a, b⟩ := smallV_enc c fun x hx => h x (List.mem_append_left _ hx)
    obtain ⟨a2, b2⟩ := smallV_encs r fun x hx => h x (List.mem_append_right _ hx)
    refine ⟨?_, ?_⟩
    · rw [encs]
      show (smallV (enc c) && smallVs (encs r)) = true
      rw [a, a2]; rfl
    · rw [encs, dps]
      show max (dep (enc c)) (deps (encs r)) ≤ _
      omega
end
theorem forms8_small {x : Str} (h : x ∈ forms8) : smallV (.str x) = true ∧ blk (.str x) ≤ 8 := by
  simp only [forms8, List.mem_cons, List.not_mem_nil, or_false] at h
  rcases h with h | h | h | h | h | h | h | h <;> subst h <;> exact ⟨by decide +kernel, by decide +kernel⟩
theorem okR_rules {r : Rl} (h : goodR r) : okR (eR r) := by
  obtain ⟨h1, h2, h3⟩ := h
  obtain ⟨l1, l2⟩ := forms8_small h2
  have row : ∀ x ∈ r.rows, smallV (eRow x) = true ∧ dep (eRow x) ≤ 12 ∧ blk (eRow x) ≤ 6420 := fun x hx => by
    obtain ⟨a, b⟩ := h3 x hx
    obtain ⟨f1, f2⟩ := forms8_small a
    obtain ⟨c1, c2⟩ := smallV_enc x.2 b.2.2.1
    have c3 := b.1
    have c4 := b.2.2.2.2
    refine ⟨?_, ?_, ?_⟩
    · show (smallV (.str x.1) && (smallV (enc x.2) && true)) = true
      rw [f1, c1]; rfl
    · show max (dep (.str x.1)) (max (dep (enc x.2)) 0) + 1 ≤ 12
      have : dep (.str x.1) = 0 := rfl
      omega
    · show blk (.str x.1) + 1 + (blk (enc x.2) + 1 + 0) ≤ 6420
      omega
  have dl : ∀ l : List (Str × Cd), (∀ x ∈ l, dep (eRow x) ≤ 12) → deps (l.map eRow) ≤ 12 := fun l => by
    induction l with
    | nil => intro _; exact Nat.zero_le _
    | cons x l ih =>
      intro hx
      have a := hx x List.mem_cons_self
      have b := ih fun y hy => hx y (List.mem_cons_of_mem _ hy)
      show max (dep (eRow x)) (deps (l.map eRow)) ≤ 12
      omega
  have bl : ∀ l : List (Str × Cd), (∀ x ∈ l, blk (eRow x) ≤ 6420) → blks (l.map eRow) ≤ 6421 * l.length := fun l => by
    induction l with
    | nil => intro _; exact Nat.zero_le _
    | cons x l ih =>
      intro hx
      have a := hx x List.mem_cons_self
      have b := ih fun y hy => hx y (List.mem_cons_of_mem _ hy)
      show blk (eRow x) + 1 + blks (l.map eRow) ≤ _
      rw [List.length_cons]
      omega
  refine okR_small ?_ ?_ ?_
  · show (smallVs (r.rows.map eRow) && (smallV (.str r.last) && true)) = true
    rw [smallVs_map eRow _ fun x hx => (row x hx).1, l1]; rfl
  · show max (deps (r.rows.map eRow) + 1) (max (dep (.str r.last)) 0) + 1 ≤ 64
    have := dl r.rows fun x hx => (row x hx).2.1
    have e : dep (.str r.last) = 0 := rfl
    omega
  · show blks (r.rows.map eRow) + 1 + (blk (.str r.last) + 1 + 0) ≤ 500000
    have := bl r.rows fun x hx => (row x hx).2.2
    omega
end CL
namespace CL
theorem blks_le : ∀ (cs : List Cd) (C : Int), 0 ≤ C → (∀ c ∈ cs, (blk (enc c) : Int) ≤ C) → (blks (cs.map enc) : Int) ≤ (C + 1) * cs.length
  | [], C, _, _ => by simp [blks]
  | c :: r, C, h0, h => by
    have h1 := h c List.mem_cons_self
    have h2 := blks_le r C h0 fun z hz => h z (List.mem_cons_of_mem _ hz)
    have e : (C + 1) * ((r.length + 1 : Nat) : Int) = (C + 1) * r.length + (C + 1) := by push_cast; rw [Int.mul_add, Int.mul_one]
    rw [List.length_cons, e]
    show ((blk (enc c) + 1 + blks (r.map enc) : Nat) : Int) ≤ _
    push_cast; omega
end CL

set_option Elab.async false
set_option linter.all false
set_option maxRecDepth 100000
set_option maxHeartbeats 1000000
/-! CL17: readings are monotone -/
namespace CL
open PySem PySem.Spec PyProof.Rows L2
section
variable {ta tb tc te to : CE} {ua ub : CA} {r r' : C2} {rc : CC} {rk : CCK} {rm : CM} {r1 : C1} {c c' : CT} {t u : CS} {g g1 : CG} {gs : CGs} {ti ti1 : CI} {vs vs1 : List Nat} {n m : Nat} {w : Cv} {f : Bool → Bool} {sp : CSp} {E : Ex → Sto → Prop} {T : String}
theorem mo_var : MonE (cVar n) := fun ws S Q Q' f h => by
  unfold cVar at h ⊢
  split at h <;> first | exact f _ _ h | exact h
theorem mo_c : MonE (cC w) := fun ws S Q Q' f h => f _ _ h
theorem mo_un (h : Mon1 r1) (ha : MonE ta) : MonE (cUn r1 ta) := fun ws S Q Q' f q => ha _ _ _ _ (fun x S1 q1 => h _ _ _ _ f q1) q
theorem mo_neg : Mon1 cNeg := fun a S Q Q' f h => by
  unfold cNeg at h ⊢
  split at h
  · exact f _ _ h
  · exact h
theorem mo_not (h : MonT c) : MonT (cNot c) := fun ws S Q Q' f q => h _ _ _ _ (fun b S1 h1 => f _ _ h1) q
theorem mo_andV (ha : MonE ta) (hb : MonE tb) : MonE (cAndV ta tb) := fun ws S Q Q' f h => ha _ _ _ _ (fun w S1 h1 => by
  cases w with
  | bl k => cases k with
    | true => exact hb _ _ _ _ f h1
    | false => exact f _ _ h1
  | _ => exact h1) h
theorem mo_orV (ha : MonE ta) (hb : MonE tb) : MonE (cOrV ta tb) := fun ws S Q Q' f h => ha _ _ _ _ (fun w S1 h1 => by
  cases w with
  | bl k => cases k with
    | false => exact hb _ _ _ _ f h1
    | true => exact f _ _ h1
  | _ => exact h1) h
theorem mo_if (hc : MonT c) (ha : MonE ta) (hb : MonE tb) : MonE (cIf c ta tb) := fun ws S Q Q' f h => hc _ _ _ _ (fun k S1 h1 => by
  cases k with
  | true => exact ha _ _ _ _ f h1
  | false => exact hb _ _ _ _ f h1) h
theorem mo_chain (hr : Mon2 r) (hr' : Mon2 r') (ha : MonE ta) (hb : MonE tb) (hc : MonE tc) : MonE (cChain r r' ta tb tc) := fun ws S Q Q' f h => ha _ _ _ _ (fun x S1 q1 => hb _ _ _ _ (fun y S2 q2 => hr _ _ _ _ _ (fun z S3 q3 => by
  split at q3
  · exact hc _ _ _ _ (fun u S4 q4 => hr' _ _ _ _ _ f q4) q3
  · exact f _ _ q3
  · exact q3.elim) q2) q1) h
theorem mo_nil : MonA cNil := fun ws S Q Q' f h => f _ _ h
theorem mo_cons (ha : MonE ta) (hu : MonA ua) : MonA (cCons ta ua) := fun ws S Q Q' f h => ha _ _ _ _ (fun w S1 h1 => hu _ _ _ _ (fun r S2 h2 => f _ _ h2) h1) h
theorem mo_tup (h : MonA ua) : MonE (cTup ua) := fun ws S Q Q' f q => h _ _ _ _ (fun r S1 h1 => ⟨h1.1, f _ _ h1.2⟩) q
theorem mo_lst (h : MonA ua) : MonE (cLst ua) := fun ws S Q Q' f q => h _ _ _ _ (fun r S1 h1 => ⟨h1.1, f _ _ h1.2⟩) q
theorem mo_lstO (h : MonA ua) : MonE (cLstO ua) := fun ws S Q Q' f q => h _ _ _ _ (fun r S1 h1 => ⟨h1.1, fun p hp => f _ _ (h1.2 p hp)⟩) q
theorem mo_seqI (h : MonE ta) : MonI (cSeqI ta) := fun ws S Q Q' f q => h _ _ _ _ (fun w S1 q => by
  cases w with
  | tup xs => exact f _ _ _ q
  | lst xs => exact f _ _ _ q
  | str xs => exact f _ _ _ q
  | ref a => exact ownL_imp (fun xs q => f _ _ _ q) q
  | _ => exact q) q
theorem mo_rng1 (h : MonA ua) : MonI (cRng1 ua) := fun ws S Q Q' f q => h _ _ _ _ (fun us S1 q => by
  split at q
  · exact ⟨q.1, f _ _ _ q.2⟩
  · exact q) q
theorem mo_rng2 (h : MonA ua) : MonI (cRng2 ua) := fun ws S Q Q' f q => h _ _ _ _ (fun us S1 q => by
  split at q
  · exact ⟨q.1, f _ _ _ q.2⟩
  · exact q) q
theorem mo_lc (hi : MonI ti) (hg : MonG g) (ht : MonT c) (he : MonE te) : MonE (cLc ti g c te vs) := fun ws S Q Q' f h => hi _ _ _ _ (fun xs G S1 q => lcL_mono hg ht he (fun a b q => f _ _ q) xs [] S1 q) h
theorem mo_lcO (hi : MonI ti) (hg : MonG g) (ht : MonT c) (he : MonE te) : MonE (cLcO ti g c te vs) := fun ws S Q Q' f h => hi _ _ _ _ (fun xs G S1 q => lcL_mono hg ht he (fun a b q p hp => f _ _ (q p hp)) xs [] S1 q) h
theorem mo_lc2 (hi : MonI ti) (hg : MonG g) (ht : MonT c) (hi1 : MonI ti1) (hg1 : MonG g1) (ht1 : MonT c') (he : MonE te) : MonE (cLc2 ti g c ti1 g1 c' te vs vs1) := fun ws S Q Q' f h => hi _ _ _ _ (fun xs G S1 q => lc2L_mono hg ht hi1 hg1 ht1 he (fun a b q => f _ _ q) xs [] S1 q) h
theorem mo_gname : MonG (cgName n) := fun w ws S Q Q' f h => f _ _ h
theorem mo_gnil : MonGs cgNil := fun w ws S Q Q' f h => ⟨h.1, f _ _ h.2⟩
theorem mo_gcons (h : MonG g) (hs : MonGs gs) : MonGs (cgCons g gs) := fun us ws S Q Q' f q => by
  cases us with
  | nil => exact q
  | cons w r => exact h _ _ _ _ _ (fun ws1 S1 q1 => hs _ _ _ _ _ f q1) q
theorem mo_gtup (hs : MonGs gs) : MonG (cgTup n gs) := fun w ws S Q Q' f q => by
  cases w with
  | tup us => exact ⟨q.1, hs _ _ _ _ _ f q.2⟩
  | _ => exact q
theorem mo_next : MonS cNext := fun D D' ws S l h => l.nx _ _ h
theorem mo_ret (h : MonE te) : MonS (cRet te) := fun D D' ws S l q => h _ _ _ _ l.rt q
theorem mo_retN : MonS cRetN := fun D D' ws S l q => l.rt _ _ q
theorem mo_drop (h : MonE te) : MonS (cDrop te) := fun D D' ws S l q => h _ _ _ _ (fun _ S1 q => l.nx _ _ q) q
theorem mo_ifS (hc : MonT c) (ht : MonS t) (hu : MonS u) : MonS (cIfS c t u) := fun D D' ws S l q => hc _ _ _ _ (fun b S1 h => by
  cases b with
  | true => exact ht _ _ _ _ l h
  | false => exact hu _ _ _ _ l h) q
theorem mo_for (hi : MonI ti) (hg : MonG g) (hb : MonS t) : MonS (cFor ti g t) := fun D D' ws S l q => hi _ _ _ _ (fun xs G S1 q => forL_mono hg hb l xs ws S1 q) q
theorem mo_break : MonS cBreak := fun D D' ws S l h => l.bk _ _ h
theorem mo_cont : MonS cCont := fun D D' ws S l h => l.ct _ _ h
theorem mo_aug (hr : Mon2 r) (he : MonE te) : MonS (cAug n te r) := fun D D' ws S l h => by
  unfold cAug at h ⊢
  split at h
  · exact he _ _ _ _ (fun y S1 q => hr _ _ _ _ _ (fun z S2 q2 => l.nx _ _ q2) q) h
  · exact h
theorem mo_setL (he : MonE te) (ho : MonE to) (hi : MonE ta) : MonS (cSetL to ta te) := fun D D' ws S l h => he _ _ _ _ (fun w S1 h1 => ho _ _ _ _ (fun x S2 h2 => hi _ _ _ _ (fun y S3 h3 => by
  split at h3
  · refine ownL_imp (fun xs q => ?_) h3
    split at q
    · exact l.nx _ _ q
    · exact q.elim
  · exact h3.elim) h2) h1) h
theorem mo_par (h : MonA ua) : MonS (cPar n m ua) := fun D D' ws S l q => h _ _ _ _ (fun us S1 q => by
  split at q
  · exact l.nx _ _ q
  · exact q) q
theorem mo_len : MonC cLen := fun us S Q Q' f h => by
  unfold cLen at h ⊢
  repeat' split at h
  all_goals first | exact h.elim | exact f _ _ h | exact ⟨h.1, f _ _ h.2⟩
theorem mo_abs : MonC cAbs := fun us S Q Q' f h => by
  unfold cAbs at h ⊢
  repeat' split at h
  all_goals first | exact h.elim | exact f _ _ h
theorem mo_int : MonC cInt := fun us S Q Q' f h => by
  unfold cInt at h ⊢
  split at h
  all_goals first | exact h.elim | exact f _ _ h
theorem mo_sum : MonC cSum := fun us S Q Q' f h => by
  unfold cSum at h ⊢
  repeat' split at h
  all_goals first | exact h.elim | exact f _ _ h
theorem mo_tuple : MonC cTupleOf := fun us S Q Q' f h => by
  unfold cTupleOf at h ⊢
  repeat' split at h
  all_goals first | exact h.elim | exact f _ _ h
theorem mo_repr : MonC cRepr := fun us S Q Q' f h => by
  unfold cRepr at h ⊢
  repeat' split at h
  all_goals first | exact h.elim | exact ⟨h.1, f _ _ h.2⟩
theorem mo_ckw (hr : MonCK rk) (ha : MonA ua) (hb : MonA ub) : MonE (cCKw rk ua ub) := fun ws S Q Q' f h => ha _ _ _ _ (fun us S1 h1 => hb _ _ _ _ (fun zs S2 h2 => hr _ _ _ _ _ f h2) h1) h
theorem mo_append : MonM cAppend := fun o us S Q Q' f h => by
  unfold cAppend at h ⊢
  split at h
  · exact ownL_imp (fun xs q => ⟨q.1, f _ _ q.2⟩) h
  · exact h.elim
theorem mo_extend : MonM cExtend := fun o us S Q Q' f h => by
  unfold cExtend at h ⊢
  split at h
  · refine ownL_imp (fun xs q => ?_) h
    split at q
    · exact ⟨q.1, f _ _ q.2⟩
    · exact q.elim
  · exact h.elim
theorem mo_popAt : MonM cPopAt := fun o us S Q Q' f h => by
  unfold cPopAt at h ⊢
  split at h
  · refine ownL_imp (fun xs q => ⟨q.1, ?_⟩) h
    have q2 := q.2
    split at q2
    · split at q2
      · exact f _ _ q2
      · exact q2.elim
    · exact q2.elim
  · exact h.elim
theorem mo_call (hs : MonSp sp) (ha : MonA ua) : MonE (cCall sp E ua) := fun ws S Q Q' f h => ha _ _ _ _ (fun us S1 q => hs _ _ _ _ _ _ f (fun _ _ z => z) q) h
end
end CL

set_option Elab.async false
set_option linter.all false
set_option maxRecDepth 100000
set_option maxHeartbeats 2000000
/-! CL18: enumerate over a tuple or a list; in, not in -/
namespace CL
open PySem PySem.Spec PyProof.Rows L2
open Sem (wp)

theorem meets_enum1 {v : Value} {o : Obj} {H : Heap → Prop} (B : Begins v o H) :
    Meets (Builtin.«enumerate.__new__» ⟨[.type "enumerate", v], []⟩) (fun _ R s => H s.heap ∧
      R (.ok (.ret (.ref (s.heap.push o).objs.size))) { s with heap := (s.heap.push o).push { cls := .type "enumerate", data := .fields #[.none, .bool false, .ref s.heap.objs.size, rawInt 0, .none, .none] } }) :=
  .of_wp fun prog w A R s h => by
    obtain ⟨hp, gg, d, tk, os⟩ := s; obtain ⟨h1, h⟩ := h
    have hsub := sub_enumerate
    have q1 : ∀ {A' : Around} {E : Value → Shared → Prop} {Q : Value → Shared → Prop}, Q (.ref hp.objs.size) ⟨hp.push o, gg, d, tk, os⟩ → wpAny (model prog w) A' (pyIter v) Q E ⟨hp, gg, d, tk, os⟩ :=
      fun q => B.iter prog w _ _ ⟨hp, gg, d, tk, os⟩ _ h1 q
    wp_walk using q1
    refine wpAny_stack_any fun st => wpAny_pure ?_
    split
    · rename_i c _ _ _ _ _
      cases (c == Value.type "enumerate")
      · wp_walk using q1
        exact ⟨_, rfl, h⟩
      · wp_walk using q1
        exact ⟨_, rfl, h⟩
    · wp_walk using q1
      exact ⟨_, rfl, h⟩
section
variable {prog : Program} {w : World} {A : Around} {E : Value → Shared → Prop} {s : Shared}
theorem enum1_begins {v : Value} {o : Obj} {H : Heap → Prop} {Q : Value → Shared → Prop} (B : Begins v o H) (h1 : H s.heap)
    (h : ∀ h', IsEnum h' (s.heap.objs.size + 1) s.heap.objs.size 0 .none → h'.get? s.heap.objs.size = some o → h'.objs.size = s.heap.objs.size + 2 →
      (∀ b o, s.heap.get? b = some o → h'.get? b = some o) → Q (.ref (s.heap.objs.size + 1)) { s with heap := h' }) :
    wpAny (model prog w) A (call (.type "enumerate") [v]) Q E s := by
  refine callType_new F.called_enumerate (by decide) (F.typeCall_enumerate_1 _) (F.newCall_enumerate_1 _) (fun obj => F.args_object_init_2 obj _) F.entry_enumerate_new
    (meets_enum1 B) ⟨h1, ?_⟩
  have hz : (s.heap.push o).objs.size = s.heap.objs.size + 1 := Heap.size_push ..
  show _ ∧ _
  rw [hz]
  have he : IsEnum ((s.heap.push o).push { cls := .type "enumerate", data := .fields #[.none, .bool false, .ref s.heap.objs.size, rawInt 0, .none, .none] }) (s.heap.objs.size + 1) s.heap.objs.size 0 .none := by
    have := Heap.get?_push_size (s.heap.push o) (o := { cls := .type "enumerate", data := .fields #[.none, .bool false, .ref s.heap.objs.size, rawInt 0, .none, .none] }) rfl
    rw [hz] at this; exact this
  refine ⟨⟨_, he, rfl⟩, h _ he (Heap.get?_push_of_some _ (Heap.get?_push_size _ B.free)) (by rw [Heap.size_push, hz]) fun b o x => Heap.get?_push_of_some _ (Heap.get?_push_of_some _ x)⟩
end
/-- the tuple at a, each item in a new pair -/
def IteT (K : Fg) (a : Addr) : It :=
  ⟨fun i H => ∃ (xs : List V) (x : V), SqT K H a xs ∧ xs[i]? = some x, fun i H v H' => ∃ T x, v = .ref T ∧ H T = none ∧ H' = upd H T (.tup [.int (i : Nat), x]) ∧ ∀ xs, SqT K H a xs → xs[i]? = some x, fun i H => ∃ xs : List V, SqT K H a xs ∧ xs.length ≤ i⟩
theorem turn_enumT {P : Program} {w : World} {K : Fg} {elts : List Expr} {kk : Nat} {tpos : Pos} (a e it : Addr) :
    Turn P w K (.Tuple elts kk tpos) (IteT K a) [e, it] e (fun i h => (∃ old, IsEnum h e it ((i : Nat) : Int) old) ∧ h.IsTupleIter it a i ∧ e ≠ it ∧ a ≠ it ∧ a ≠ e) where
  mem := by simp
  obj := fun i h st b hb => by
    obtain ⟨⟨old, he⟩, ⟨o, ho, hc, hd⟩, _⟩ := st
    have e' : b = e ∨ b = it := by simpa using hb
    rcases e' with z | z
    · rw [z]; exact ⟨_, he, fun v q => nomatch q⟩
    · rw [z]; exact ⟨o, ho, fun v q => by rw [hd] at q; cases q⟩
  keep := fun i h h' st k => let ⟨⟨old, he⟩, hi, hne⟩ := st; ⟨⟨old, k e (by simp) _ he⟩, hi.at fun o q => k it (by simp) o q, hne⟩
  item := by
    intro X hP hw hK hc i pins s σ H E I hf st hg
    subst hP hw hK
    obtain ⟨⟨old, he⟩, hit, hne, ha1, ha2⟩ := st
    obtain ⟨xs, x, hq, hx⟩ := hg
    obtain ⟨its, rv, p, hz⟩ := I.tuple hq
    obtain ⟨u, hu, ru⟩ := rv.get hx
    have hel : e < s.heap.objs.size := Heap.lt_size he
    have hil : it < s.heap.objs.size := by obtain ⟨_, q, _⟩ := hit; exact Heap.lt_size q
    have D : Draws X.prog X.w X.A.in1 it [it, a] its.toArray.size (fun i v => its.toArray[i]? = some v) (fun i h => h.IsTupleIter it a i ∧ h.IsTuple a its.toArray) := Draws.tuple (show X.A.in1.handled = none from I.ok.hd hc) it a ha1 its.toArray
    have hlt : i < its.toArray.size := by
      rw [List.size_toArray]
      exact (List.getElem?_eq_some_iff.mp hu).1
    refine wpAny_pyNext_enum_itemD D he ⟨hit, p⟩ hlt hne (by simp; exact ⟨hne, fun z => ha2 z.symm⟩) fun v h' tk hv ho hit' hT hsz hk => ?_
    have ev : v = u := by
      rw [List.getElem?_toArray, hu] at hv
      exact (Option.some.inj hv).symm
    subst ev
    refine ⟨_, rfl, wpAny_letOwnedTupleGo_enum (s := { s with heap := h', toks := tk + 1 }) ho fun h'' he' sb => ?_⟩
    have hT2 : h''.get? s.heap.objs.size = some { cls := .type "tuple", data := .seq #[.int i tk, v] } := (sb.2 _ (Nat.ne_of_gt hel)).trans hT
    have new : ObjOk X.prog X.w (upd H s.heap.objs.size (.tup [.int (i : Nat), x])) h'' s.heap.objs.size (.tup [.int (i : Nat), x]) :=
      ⟨by show 2 ≤ sizeLine; decide, [.int i tk, v], .cons ⟨_, rfl⟩ (.cons ru .nil), ⟨_, hT2, rfl, _, rfl⟩⟩
    have I1 : Inv X pins σ (upd H s.heap.objs.size (.tup [.int (i : Nat), x])) { s with heap := h'', toks := tk + 1 } :=
      I.turnedNew (ch := [e, it]) (fun b ob hb q => (sb.2 b (fun z => hb (by simp [z]))).trans (hk b ob (fun z => hb (by simp [z])) (fun z => hb (by simp [z])) q)) hf (Nat.le_refl _) new
    refine ⟨.ref s.heap.objs.size, _, I1, rfl, ⟨_, x, rfl, I.hok.fresh (Nat.le_refl _), rfl, fun ys hy => by rw [I.tuple_inj hy hq]; exact hx⟩, ⟨⟨v, ?_⟩, hit'.1.at fun o q => (sb.2 it (Ne.symm hne)).trans q, hne, ha1, ha2⟩, fun b hb => ?_⟩
    · have e1 : ((i + 1 : Nat) : Int) = (i : Int) + 1 := by omega
      rw [e1]; exact he'
    · have hb' : b < s.heap.objs.size := by
        have e' : b = e ∨ b = it := by simpa using hb
        rcases e' with z | z
        · rw [z]; exact hel
        · rw [z]; exact hil
      rw [upd_ne (Nat.ne_of_lt hb')]
      exact (hf b hb).1
  done := by
    intro X hP hw hK hc i pins s σ H E I hf st hg
    subst hP hw hK
    obtain ⟨⟨old, he⟩, hit, hne, ha1, ha2⟩ := st
    obtain ⟨xs, hq, hx⟩ := hg
    obtain ⟨its, rv, p, hz⟩ := I.tuple hq
    obtain ⟨f0, f1, f2, f3, f4, f5⟩ := hf it (by simp)
    have hl := rv.length
    have D : Draws X.prog X.w X.A.in1 it [it, a] i (fun _ _ => True) (fun j h => (h.IsTupleIter it a j ∧ h.IsTuple a its.toArray) ∧ j = i) :=
      ⟨fun _ _ st => let ⟨o, ho, _⟩ := st.1.1; ⟨o, ho⟩, fun _ _ _ st hk => ⟨⟨st.1.1.at fun o e => hk it (by simp) o e, st.1.2.at fun o e => hk a (by simp) o e⟩, st.2⟩, fun j s Q E hj st hQ => absurd st.2 (Nat.ne_of_lt hj),
        fun s Q E st hE => wpAny_nextOf_tuple_end (show X.A.in1.handled = none from I.ok.hd hc) st.1.1 st.1.2 (by simp; omega) hE⟩
    exact wpAny_pyNext_enum_endD D he ⟨⟨hit, p⟩, rfl⟩ fun h' eb => ⟨rfl, I.turned (t' := s.toks) (fun b o hb q => eb b o hb q) f0 f1 f3 f4 f5⟩
  self := fun A i s Q E st h => let ⟨⟨_, he⟩, _⟩ := st; wpAny_pyIter_enum he h

/-- enumerate(x), x a list or a tuple: the pairs -/
def pairsFrom : Nat → List Cv → List Cv
  | _, [] => []
  | i, x :: r => .tup [.int (i : Nat), x] :: pairsFrom (i + 1) r
theorem pairsFrom_length : ∀ (i : Nat) (xs : List Cv), (pairsFrom i xs).length = xs.length
  | _, [] => rfl
  | i, x :: r => by rw [pairsFrom, List.length_cons, pairsFrom_length (i + 1) r, List.length_cons]
theorem pairsFrom_get : ∀ (i k : Nat) (xs : List Cv), (pairsFrom i xs)[k]? = (xs[k]?).map fun x => .tup [.int ((i + k : Nat) : Int), x]
  | _, _, [] => rfl
  | i, 0, x :: r => rfl
  | i, k + 1, x :: r => by
    rw [pairsFrom, List.getElem?_cons_succ, List.getElem?_cons_succ, pairsFrom_get (i + 1) k r]
    rw [show i + 1 + k = i + (k + 1) by omega]
def cEnumI (ta : CA) : CI := fun ws S Q => ta ws S fun us S1 => match us with
  | [.tup xs] => Q (pairsFrom 0 xs) (fun _ => True) S1
  | [.lst xs] => Q (pairsFrom 0 xs) (fun _ => True) S1
  | [.ref a] => ownL S1 a fun xs => Q (pairsFrom 0 xs) (fun S => S a = some (.lst xs)) S1
  | _ => False
section
variable {K : Fg} {Z Z' : List Addr} {S S' : Sto} {H H' : Hp}
theorem pair_ok (ok : StOk K Z S H) {T : Addr} (hT : H T = none) {i : Nat} {x : V} {w : Cv} (r : Rep K Z S H w x) : Fr S H S (upd H T (.tup [.int (i : Nat), x])) ∧ StOk K Z S (upd H T (.tup [.int (i : Nat), x])) ∧ Rep K Z S (upd H T (.tup [.int (i : Nat), x])) (.tup [.int (i : Nat), w]) (.ref T) :=
  ⟨Fr.new hT, ok.new hT, .tup (.inl upd_same) (ok.free hT) (.cons (.int _) (.cons (r.fr (Fr.new hT)) .nil))⟩
theorem walk_enumL {a : Addr} {vs : List V} {ws : List Cv} (sq : ∀ S1 H1, FrZ Z S H S1 H1 → SqL K H1 a vs) (ok : StOk K Z S H) (r : Reps K Z S H ws vs) : WalkOk K Z (Ite K a) (pairsFrom 0 ws) (fun _ => True) S H := by
  intro Z' S1 H1 _ hz f ok1 _ i
  have sq := sq S1 H1 f
  have r1 := r.frz ok f hz
  rw [pairsFrom_length]
  refine ⟨fun hi => ?_, fun hi => ⟨vs, sq, by rw [← r.length]; exact hi⟩⟩
  obtain ⟨v, hv, _⟩ := r1.get (List.getElem?_eq_getElem hi)
  refine ⟨⟨vs, v, sq, hv⟩, fun x H' hy => ?_⟩
  obtain ⟨T, y, rfl, hT, rfl, hx⟩ := hy
  obtain ⟨w, hw, rw'⟩ := r1.getV (hx vs sq)
  obtain ⟨h1, h2, h3⟩ := pair_ok ok1 hT (i := i) rw'
  exact ⟨_, by rw [pairsFrom_get, hw, Nat.zero_add]; rfl, h1, h2, h3⟩
theorem walk_enumO {a : Addr} {ws : List Cv} : WalkOk K Z (Ite K a) (pairsFrom 0 ws) (fun S => S a = some (.lst ws)) S H := by
  intro Z' S1 H1 _ hz f ok1 g i
  obtain ⟨vs, e, r1⟩ := ok1.ob a _ g
  have sq : SqL K H1 a vs := .inl (.inl e)
  rw [pairsFrom_length]
  refine ⟨fun hi => ?_, fun hi => ⟨vs, sq, by rw [← r1.length]; exact hi⟩⟩
  obtain ⟨v, hv, _⟩ := r1.get (List.getElem?_eq_getElem hi)
  refine ⟨⟨vs, v, sq, hv⟩, fun x H' hy => ?_⟩
  obtain ⟨T, y, rfl, hT, rfl, hx⟩ := hy
  obtain ⟨w, hw, rw'⟩ := r1.getV (hx vs sq)
  obtain ⟨h1, h2, h3⟩ := pair_ok ok1 hT (i := i) rw'
  exact ⟨_, by rw [pairsFrom_get, hw, Nat.zero_add]; rfl, h1, h2, h3⟩
theorem walk_enumT {a : Addr} {vs : List V} {ws : List Cv} (sq : ∀ S1 H1, FrZ Z S H S1 H1 → SqT K H1 a vs) (ok : StOk K Z S H) (r : Reps K Z S H ws vs) : WalkOk K Z (IteT K a) (pairsFrom 0 ws) (fun _ => True) S H := by
  intro Z' S1 H1 _ hz f ok1 _ i
  have sq := sq S1 H1 f
  have r1 := r.frz ok f hz
  rw [pairsFrom_length]
  refine ⟨fun hi => ?_, fun hi => ⟨vs, sq, by rw [← r.length]; exact hi⟩⟩
  obtain ⟨v, hv, _⟩ := r1.get (List.getElem?_eq_getElem hi)
  refine ⟨⟨vs, v, sq, hv⟩, fun x H' hy => ?_⟩
  obtain ⟨T, y, rfl, hT, rfl, hx⟩ := hy
  obtain ⟨w, hw, rw'⟩ := r1.getV (hx vs sq)
  obtain ⟨h1, h2, h3⟩ := pair_ok ok1 hT (i := i) rw'
  exact ⟨_, by rw [pairsFrom_get, hw, Nat.zero_add]; rfl, h1, h2, h3⟩
end
section
variable {X : Cx} {e : Expr} {p pos tpos : Pos} {elts : List Expr} {kk : Nat}
theorem pi_enum2 {ta : TA} (hg : Gl X "enumerate") (hm : X.mg "enumerate" = none) (ha : PA X [e] ta) (hs : starEach [e] X.env = [(false, eval e X.env)] := by rfl) :
    PI X (.Tuple elts kk tpos) (.Call (.Name "enumerate" p) [e] [] pos) (fun σ H R => ta σ H fun vs H1 => (∃ a xs, vs = [.ref a] ∧ SqL X.K H1 a xs ∧ R (Ite X.K a) H1) ∨ ∃ a xs, vs = [.ref a] ∧ SqT X.K H1 a xs ∧ R (IteT X.K a) H1) := by
  refine ⟨fun pins s σ H R I h => ?_⟩
  refine Call_ (ld_blt I hg hm boot_enumerate (PyProof.Rows.callWith_type1 (thn (ha.run pos pins s σ H _ I h) fun us s1 ⟨vs, H1, I1, r1, q1⟩ => ?_) hs rfl))
  rcases q1 with ⟨a, xs, ex, hq, q⟩ | ⟨a, xs, ex, hq, q⟩
  · subst ex
    cases r1 with
    | cons r rr =>
      cases rr
      cases r
      obtain ⟨its, rv, p', hz⟩ := I1.list hq
      refine call_enumerate_list p'.isList fun h' he hit hsz hk => wpAny_pyIter_enum he ?_
      have I2 : Inv X pins σ H1 { s1 with heap := h' } := I1.kept (t' := s1.toks) hk
      refine ⟨s1.heap.objs.size + 1, [s1.heap.objs.size + 1, s1.heap.objs.size], _, _, H1, rfl, I2, turn_enum a (s1.heap.objs.size + 1) s1.heap.objs.size, ⟨⟨.none, he⟩, hit, Nat.succ_ne_self _⟩, fun b hb => ?_, q⟩
      have e' : b = s1.heap.objs.size + 1 ∨ b = s1.heap.objs.size := by simpa using hb
      have hle : s1.heap.objs.size ≤ b := by
        rcases e' with z | z
        · rw [z]; exact Nat.le_add_right _ _
        · rw [z]; exact Nat.le_refl _
      exact I1.fpOk hle (I1.hok.fresh hle)
  · subst ex
    cases r1 with
    | cons r rr =>
      cases rr
      cases r
      obtain ⟨its, rv, p', hz⟩ := I1.tuple hq
      have hal : a < s1.heap.objs.size := by obtain ⟨_, q, _⟩ := id p'; exact Heap.lt_size q
      refine enum1_begins (begins_tuple a its.toArray) p' fun h' he hit hsz hk => wpAny_pyIter_enum he ?_
      have I2 : Inv X pins σ H1 { s1 with heap := h' } := I1.kept (t' := s1.toks) hk
      refine ⟨s1.heap.objs.size + 1, [s1.heap.objs.size + 1, s1.heap.objs.size], _, _, H1, rfl, I2, turn_enumT a (s1.heap.objs.size + 1) s1.heap.objs.size, ⟨⟨.none, he⟩, ⟨_, hit, rfl, rfl⟩, Nat.succ_ne_self _, Nat.ne_of_lt hal, Nat.ne_of_lt (Nat.lt_succ_of_lt hal)⟩, fun b hb => ?_, q⟩
      have e' : b = s1.heap.objs.size + 1 ∨ b = s1.heap.objs.size := by simpa using hb
      have hle : s1.heap.objs.size ≤ b := by
        rcases e' with z | z
        · rw [z]; exact Nat.le_add_right _ _
        · rw [z]; exact Nat.le_refl _
      exact I1.fpOk hle (I1.hok.fresh hle)
theorem mo_enumI {ta : CA} (h : MonA ta) : MonI (cEnumI ta) := fun ws S Q Q' f q => h _ _ _ _ (fun us S1 q => by
  split at q
  · exact f _ _ _ q
  · exact f _ _ _ q
  · exact ownL_imp (fun xs q => f _ _ _ q) q
  · exact q) q
theorem si_enum {ta : CA} (hg : Gl X "enumerate") (hm : X.mg "enumerate" = none) (ha : SA X [e] ta) (hs : starEach [e] X.env = [(false, eval e X.env)] := by rfl) : SI X (.Tuple elts kk tpos) (.Call (.Name "enumerate" p) [e] [] pos) (cEnumI ta) := by
  refine ⟨mo_enumI ha.mono, (pi_enum2 hg hm ha.ok hs).imp fun σ H R h => ?_⟩
  obtain ⟨Z, S, ws, ok, re, h⟩ := h
  refine liftA_of ha.mono ok re h fun us S1 vs H1 f1 ok1 r1 q1 => ?_
  split at q1
  · rename_i xs
    cases r1 with
    | cons r1 rr =>
      cases rr
      cases r1 with
      | tup hr n rr => exact .inr ⟨_, _, rfl, .inl hr, q1 _ H1 f1 ok1 (walk_enumT (fun S2 H2 f => .inl (Rd.frz ok1 f rfl hr n).1) ok1 rr)⟩
      | tupK hr rr => exact .inr ⟨_, _, rfl, hr H1, q1 _ H1 f1 ok1 (walk_enumT (fun S2 H2 f => hr H2) ok1 rr)⟩
  · rename_i xs
    cases r1 with
    | cons r1 rr =>
      cases rr
      cases r1 with
      | lst hh n z rr => exact .inl ⟨_, _, rfl, .inl (.inl hh), q1 _ H1 f1 ok1 (walk_enumL (fun S2 H2 f => .inl (.inl (f.keep _ _ z hh n).1)) ok1 rr)⟩
  · rename_i a
    cases r1 with
    | cons r1 rr =>
      cases rr
      cases r1
      obtain ⟨xs, e, q1⟩ := ownL_of q1
      obtain ⟨vs, hh, rr⟩ := ok1.ob _ _ e
      exact .inl ⟨_, _, rfl, .inl (.inl hh), q1 _ H1 f1 ok1 walk_enumO⟩
  · exact q1.elim
end
end CL
namespace CL
open PySem PySem.Spec PyProof.Rows L2
/-! ### in, not in: flat values -/
def flatC : Cv → Bool
  | .non | .bl _ | .int _ | .str _ => true
  | _ => false
theorem rep_flat {K : Fg} {Z : List Addr} {S : Sto} {H : Hp} {w : Cv} {v : V} (r : Rep K Z S H w v) (f : flatC w = true) : flatV v = true := by
  cases r <;> first | rfl | (simp [flatC] at f)
theorem reps_flat {K : Fg} {Z : List Addr} {S : Sto} {H : Hp} : ∀ {ws : List Cv} {vs : List V}, Reps K Z S H ws vs → ws.all flatC = true → vs.all flatV = true
  | _, _, .nil, _ => rfl
  | _, _, .cons a r, f => by
    rw [List.all_cons, Bool.and_eq_true] at f ⊢
    exact ⟨rep_flat a f.1, reps_flat r f.2⟩
theorem rep_eqV {K : Fg} {Z : List Addr} {S : Sto} {H : Hp} {w u : Cv} {v x : V} (r : Rep K Z S H w v) (q : Rep K Z S H u x) (f : flatC w = true) (g : flatC u = true) : eqV v x = ceq w u := by
  cases r <;> first | (simp [flatC] at f; done) | (cases q <;> first | (simp [flatC] at g; done) | rfl)
theorem reps_inV {K : Fg} {Z : List Addr} {S : Sto} {H : Hp} {u : Cv} {x : V} (q : Rep K Z S H u x) (g : flatC u = true) : ∀ {ws : List Cv} {vs : List V}, Reps K Z S H ws vs → ws.all flatC = true → inV x vs = ws.any fun y => ceq y u
  | _, _, .nil, _ => rfl
  | _, _, .cons a r, f => by
    rw [List.all_cons, Bool.and_eq_true] at f
    have := reps_inV q g r f.2
    unfold inV at this ⊢
    rw [List.any_cons, List.any_cons, this, rep_eqV a q f.1 g]
def cInB (ng : Bool) : C2 := fun a b S Q => match deref b S with
  | some b => (match seqOf b with
    | some xs => (flatC a = true ∧ xs.all flatC = true) ∧ Q (.bl (if ng = true then !(xs.any fun y => ceq y a) else xs.any fun y => ceq y a)) S
    | none => False)
  | none => False
abbrev cIn : C2 := cInB false
abbrev cNotIn : C2 := cInB true
theorem cInB_mono {ng : Bool} : Mon2 (cInB ng) := fun a b S Q Q' f h => by
  unfold cInB at h ⊢
  split at h
  · split at h
    · exact ⟨h.1, f _ _ h.2⟩
    · exact h
  · exact h
section
variable {X : Cx}
theorem in_ok {f : Value → Value → Sem Value} {ng : Bool} (h1 : OpR X f (rIn X.K ng)) : S2 X f (cInB ng) := by
  refine ⟨fun a b S Q Q' f h => ?_, fun pins s σ H x y v u Q I rx ry q => ?_⟩
  · unfold cInB at h ⊢
    split at h
    · split at h
      · exact ⟨h.1, f _ _ h.2⟩
      · exact h
    · exact h
  · obtain ⟨Z, S, a, b, ok, ra, rb, q⟩ := q
    unfold cInB at q
    split at q
    · rename_i b' eb
      split at q
      · rename_i xs ex
        obtain ⟨p, vs, rfl, hs, rr⟩ := (deref_ok ok rb eb).seq ex
        refine h1 pins s σ H _ _ v u Q I rx ry ⟨p, vs, rfl, hs, rep_flat ra q.1.1, reps_flat rr q.1.2, ?_⟩
        rw [reps_inV ra q.1.1 rr q.1.2]
        exact q.2 _ H (Fr.refl S H) ok (.bl _)
      · exact q.elim
    · exact q.elim
theorem o_in : S2 X (compareOp .In) cIn := in_ok op_in_seq
theorem o_notIn : S2 X (compareOp .NotIn) cNotIn := in_ok op_notIn_seq
end
section
variable {S : Sto} {a : Cv} {xs : List Cv} {ng : Bool} {Q : Cv → Sto → Prop} {ws : CL.Env} {ua : CA}
theorem x_inL (h1 : flatC a = true) (h2 : xs.all flatC = true) (h : Q (.bl (if ng = true then !(xs.any fun y => ceq y a) else xs.any fun y => ceq y a)) S) : cInB ng a (.lst xs) S Q := ⟨⟨h1, h2⟩, h⟩
theorem x_inT (h1 : flatC a = true) (h2 : xs.all flatC = true) (h : Q (.bl (if ng = true then !(xs.any fun y => ceq y a) else xs.any fun y => ceq y a)) S) : cInB ng a (.tup xs) S Q := ⟨⟨h1, h2⟩, h⟩
def kEnum (Q : List Cv → (Sto → Prop) → Sto → Prop) : List Cv → Sto → Prop := fun us S1 => match us with
  | [.tup xs] => Q (pairsFrom 0 xs) (fun _ => True) S1
  | [.lst xs] => Q (pairsFrom 0 xs) (fun _ => True) S1
  | [.ref a] => ownL S1 a fun xs => Q (pairsFrom 0 xs) (fun S => S a = some (.lst xs)) S1
  | _ => False
theorem x_enumI {Q} (h : ua ws S (kEnum Q)) : cEnumI ua ws S Q := h
theorem x_kEnumT {Q : List Cv → (Sto → Prop) → Sto → Prop} (h : Q (pairsFrom 0 xs) (fun _ => True) S) : kEnum Q [.tup xs] S := h
theorem x_kEnumL {Q : List Cv → (Sto → Prop) → Sto → Prop} (h : Q (pairsFrom 0 xs) (fun _ => True) S) : kEnum Q [.lst xs] S := h
theorem x_notV {te : CE} {Q} (h : te ws S (kB fun b S1 => Q (.bl (!b)) S1)) : cNotV te ws S Q := by
  have e : (kB fun b S1 => Q (.bl (!b)) S1) = fun w S1 => match w with | .bl b => Q (.bl (!b)) S1 | _ => False := rfl
  rw [e] at h; exact h
theorem mo_notV {te : CE} (h : MonE te) : MonE (cNotV te) := fun ws S Q Q' f q => h _ _ _ _ (fun w S1 h1 => by
  cases w with
  | bl b => exact f _ _ h1
  | _ => exact h1) q
end
end CL

set_option Elab.async false
set_option linter.all false
set_option maxRecDepth 100000
set_option maxHeartbeats 4000000
namespace Lw
open PySem PySem.Spec PyProof.Rows L2 CL
def topS (i : Nat) : Stmt := PySem.Challenge.pw_pluralforms_k11_whole_forms_of_great_num.main.body.getD i (.Pass ⟨0, 0, 0, 0⟩)
abbrev s_ins_of : Stmt := topS 4
abbrev s_all_ins : Stmt := topS 5
abbrev s_holds : Stmt := topS 6
abbrev s_row_of : Stmt := topS 7
abbrev s_form_of : Stmt := topS 8
abbrev s_bound : Stmt := topS 10
abbrev s_period : Stmt := topS 11
abbrev s_joint_bound : Stmt := topS 12
abbrev s_joint_period : Stmt := topS 13
abbrev s_reach : Stmt := topS 14
abbrev s_forms_below : Stmt := topS 15
abbrev s_table : Stmt := topS 16
abbrev s__law_pot : Stmt := topS 18
abbrev s__law_take : Stmt := topS 19
abbrev s__law_of : Stmt := topS 20
abbrev s__law_range : Stmt := topS 21
abbrev s__law_condition : Stmt := topS 22
abbrev s__law_rules : Stmt := topS 23
abbrev s__law_is : Stmt := topS 24
abbrev s__law_form : Stmt := topS 25
abbrev s__law_far : Stmt := topS 26
abbrev s__law_right : Stmt := topS 27
abbrev s_law : Stmt := topS 28
structure Txt (K : Fg) (mg : Str → Option Value) : Prop where
  b_abs : mg "abs" = none
  b_all : mg "all" = none
  b_any : mg "any" = none
  b_enumerate : mg "enumerate" = none
  b_int : mg "int" = none
  b_len : mg "len" = none
  b_max : mg "max" = none
  b_min : mg "min" = none
  b_range : mg "range" = none
  b_tuple : mg "tuple" = none
  c_ALL : ∃ t, mg "ALL" = some (.str "all" t)
  c_IN : ∃ t, mg "IN" = some (.str "in" t)
  c_NOT : ∃ t, mg "NOT" = some (.str "not" t)
  yes : True
variable {P : Program} {w : World} {K : Fg} {mg : Str → Option Value} {base : Heap} {k : Nat}
abbrev N_ins_of : List Str := ["condition", "part", "one"]
theorem sc_ins_of : FnScope N_ins_of ["condition"] (defScope s_ins_of) := ⟨rfl, rfl, rfl, by decide +kernel, rfl, by decide +kernel, by decide +kernel⟩
def t_ins_of (sp_ins_of : CSp) : CS :=
  cSeq (cIfS (cB (cOp cEq (cOp cIx (cVar 0) (cC (.int 0))) (cC (.str "in")))) (cSeq (cRet (cLst (cCons (cVar 0) (cNil))))
      (cNext)) (cNext))
      (cSeq (cIfS (cB (cOp cEq (cOp cIx (cVar 0) (cC (.int 0))) (cC (.str "not")))) (cSeq (cRet (cCall sp_ins_of X0 (cCons (cOp cIx (cVar 0) (cC (.int 1))) (cNil))))
      (cNext)) (cNext))
      (cSeq (cRet (cLc2 (cSeqI (cOp cIx (cVar 0) (cC (.int 1)))) (cgName 1) (cYes) (cSeqI (cCall sp_ins_of X0 (cCons (cVar 1) (cNil)))) (cgName 2) (cYes) (cVar 2) [1, 2] [2]))
      (cNext)))
theorem bd_ins_of (T : Txt K mg) {f_ins_of : Addr} {fd_ins_of : FuncData} {sp_ins_of : CSp} (F_ins_of : FnF K mg "ins_of" s_ins_of f_ins_of fd_ins_of ["condition"]) (C_ins_of : FnG P w K mg base L2.CX0 k f_ins_of fd_ins_of ["condition"] sp_ins_of) {f : Addr} {cdv : Value} {A : Around} {outer : List PySem.Env} {s : Shared} {H : Hp} {E : XK} (hr : RoomG k (A.deeper (envOfC "ins_of" (defScope s_ins_of) s.heap.objs.size f cdv))) :
    SSs (cxOf L2.CX0 P w K mg base N_ins_of "ins_of" (defScope s_ins_of) f cdv A outer s H E).nox (defBody s_ins_of) (t_ins_of sp_ins_of) := by
  have nd : N_ins_of.Nodup := sc_ins_of.nd
  exact ss_cons (ss_if (st_cmp (o_eq hr.u4) (s_ix x_ix (sv 0) (s_int)) (s_gstr rfl T.c_IN.choose_spec)) (ss_cons (ss_ret (s_lst (sa_cons (sv 0) (sa_nil))))
      (ss_nil)) (ss_nil))
      (ss_cons (ss_if (st_cmp (o_eq hr.u4) (s_ix x_ix (sv 0) (s_int)) (s_gstr rfl T.c_NOT.choose_spec)) (ss_cons (ss_ret (s_call C_ins_of hr F_ins_of.m F_ins_of.k F_ins_of.b (sa_cons (s_ix x_ix (sv 0) (s_int)) (sa_nil))))
      (ss_nil)) (ss_nil))
      (ss_cons (ss_ret (s_lc2 (vs1 := [2]) rfl nd (si_seq (s_ix x_ix (sv 0) (s_int))) (own := [("part", 1), ("one", 2)]) (blkOk_by (N := N_ins_of) (sc := defScope s_ins_of) (by decide +kernel)) (by decide) (fun _ _ _ _ _ => sg 1 nd) (fun _ _ _ _ _ => sts_nil) (fun _ _ _ _ _ => si_seq (s_call C_ins_of hr F_ins_of.m F_ins_of.k F_ins_of.b (sa_cons (sv 1) (sa_nil)))) (fun _ _ _ _ _ => sg 2 nd) (fun _ _ _ _ _ => sts_nil) (fun _ _ _ _ _ => sv 2)))
      (ss_nil)))
theorem ok_ins_of (T : Txt K mg) {f_ins_of : Addr} {fd_ins_of : FuncData} {sp_ins_of : CSp} (F_ins_of : FnF K mg "ins_of" s_ins_of f_ins_of fd_ins_of ["condition"]) (C_ins_of : FnG P w K mg base L2.CX0 k f_ins_of fd_ins_of ["condition"] sp_ins_of) {f : Addr} {fd : FuncData} {sp : CSp} (F : FnF K mg "ins_of" s_ins_of f fd ["condition"]) (pl : PL N_ins_of ["condition"] sp (t_ins_of sp_ins_of)) : FnG P w K mg base L2.CX0 (k + 1) f fd ["condition"] sp :=
  fn_mk F.F sc_ins_of pl.mono pl.len (fun cdv A outer s H E hr => bd_ins_of T F_ins_of C_ins_of hr) pl.go
abbrev N_all_ins : List Str := ["rules", "form", "condition", "one"]
theorem sc_all_ins : FnScope N_all_ins ["rules"] (defScope s_all_ins) := ⟨rfl, rfl, rfl, by decide +kernel, rfl, by decide +kernel, by decide +kernel⟩
def t_all_ins (sp_ins_of : CSp) : CS :=
  cSeq (cRet (cLc2 (cSeqI (cOp cIx (cVar 0) (cC (.int 0)))) (cgTup 2 (cgCons (cgName 1) (cgCons (cgName 2) (cgNil)))) (cYes) (cSeqI (cCall sp_ins_of X0 (cCons (cVar 2) (cNil)))) (cgName 3) (cYes) (cVar 3) [1, 2, 3] [3]))
      (cNext)
theorem bd_all_ins (T : Txt K mg) {f_ins_of : Addr} {fd_ins_of : FuncData} {sp_ins_of : CSp} (F_ins_of : FnF K mg "ins_of" s_ins_of f_ins_of fd_ins_of ["condition"]) (C_ins_of : FnG P w K mg base L2.CX0 k f_ins_of fd_ins_of ["condition"] sp_ins_of) {f : Addr} {cdv : Value} {A : Around} {outer : List PySem.Env} {s : Shared} {H : Hp} {E : XK} (hr : RoomG k (A.deeper (envOfC "all_ins" (defScope s_all_ins) s.heap.objs.size f cdv))) :
    SSs (cxOf L2.CX0 P w K mg base N_all_ins "all_ins" (defScope s_all_ins) f cdv A outer s H E).nox (defBody s_all_ins) (t_all_ins sp_ins_of) := by
  have nd : N_all_ins.Nodup := sc_all_ins.nd
  exact ss_cons (ss_ret (s_lc2 (vs1 := [3]) rfl nd (si_seq (s_ix x_ix (sv 0) (s_int))) (own := [("form", 1), ("condition", 2), ("one", 3)]) (blkOk_by (N := N_all_ins) (sc := defScope s_all_ins) (by decide +kernel)) (by decide) (fun _ _ _ _ _ => sg_tup rfl (sgs_cons (sg 1 nd) (sgs_cons (sg 2 nd) (sgs_nil)))) (fun _ _ _ _ _ => sts_nil) (fun _ _ _ _ _ => si_seq (s_call C_ins_of hr F_ins_of.m F_ins_of.k F_ins_of.b (sa_cons (sv 2) (sa_nil)))) (fun _ _ _ _ _ => sg 3 nd) (fun _ _ _ _ _ => sts_nil) (fun _ _ _ _ _ => sv 3)))
      (ss_nil)
theorem ok_all_ins (T : Txt K mg) {f_ins_of : Addr} {fd_ins_of : FuncData} {sp_ins_of : CSp} (F_ins_of : FnF K mg "ins_of" s_ins_of f_ins_of fd_ins_of ["condition"]) (C_ins_of : FnG P w K mg base L2.CX0 k f_ins_of fd_ins_of ["condition"] sp_ins_of) {f : Addr} {fd : FuncData} {sp : CSp} (F : FnF K mg "all_ins" s_all_ins f fd ["rules"]) (pl : PL N_all_ins ["rules"] sp (t_all_ins sp_ins_of)) : FnG P w K mg base L2.CX0 (k + 1) f fd ["rules"] sp :=
  fn_mk F.F sc_all_ins pl.mono pl.len (fun cdv A outer s H E hr => bd_all_ins T F_ins_of C_ins_of hr) pl.go
abbrev N_holds : List Str := ["condition", "number", "word", "modulus", "low", "high", "part"]
theorem sc_holds : FnScope N_holds ["condition", "number"] (defScope s_holds) := ⟨rfl, rfl, rfl, by decide +kernel, rfl, by decide +kernel, by decide +kernel⟩
def t_holds (sp_holds : CSp) : CS :=
  cSeq (cIfS (cB (cOp cEq (cOp cIx (cVar 0) (cC (.int 0))) (cC (.str "in")))) (cSeq (cAsg (cVar 0) (cgTup 4 (cgCons (cgName 2) (cgCons (cgName 3) (cgCons (cgName 4) (cgCons (cgName 5) (cgNil)))))))
      (cSeq (cRet (cChain cLe cLe (cVar 4) (cIf (cB (cOp cGt (cVar 3) (cC (.int 0)))) (cOp cMod (cVar 1) (cVar 3)) (cVar 1)) (cVar 5)))
      (cNext))) (cNext))
      (cSeq (cIfS (cB (cOp cEq (cOp cIx (cVar 0) (cC (.int 0))) (cC (.str "not")))) (cSeq (cRet (cNotV (cCall sp_holds X0 (cCons (cOp cIx (cVar 0) (cC (.int 1))) (cCons (cVar 1) (cNil))))))
      (cNext)) (cNext))
      (cSeq (cIfS (cB (cOp cEq (cOp cIx (cVar 0) (cC (.int 0))) (cC (.str "all")))) (cSeq (cRet (cCB cAll (cCons (cLc (cSeqI (cOp cIx (cVar 0) (cC (.int 1)))) (cgName 6) (cYes) (cCall sp_holds X0 (cCons (cVar 6) (cCons (cVar 1) (cNil)))) [6]) (cNil))))
      (cNext)) (cNext))
      (cSeq (cRet (cCB cAny (cCons (cLc (cSeqI (cOp cIx (cVar 0) (cC (.int 1)))) (cgName 6) (cYes) (cCall sp_holds X0 (cCons (cVar 6) (cCons (cVar 1) (cNil)))) [6]) (cNil))))
      (cNext))))
theorem bd_holds (T : Txt K mg) {f_holds : Addr} {fd_holds : FuncData} {sp_holds : CSp} (F_holds : FnF K mg "holds" s_holds f_holds fd_holds ["condition", "number"]) (C_holds : FnG P w K mg base L2.CX0 k f_holds fd_holds ["condition", "number"] sp_holds) {f : Addr} {cdv : Value} {A : Around} {outer : List PySem.Env} {s : Shared} {H : Hp} {E : XK} (hr : RoomG k (A.deeper (envOfC "holds" (defScope s_holds) s.heap.objs.size f cdv))) :
    SSs (cxOf L2.CX0 P w K mg base N_holds "holds" (defScope s_holds) f cdv A outer s H E).nox (defBody s_holds) (t_holds sp_holds) := by
  have nd : N_holds.Nodup := sc_holds.nd
  exact ss_cons (ss_if (st_cmp (o_eq hr.u4) (s_ix x_ix (sv 0) (s_int)) (s_gstr rfl T.c_IN.choose_spec)) (ss_cons (ss_asg (sv 0) (sg_tup rfl (sgs_cons (sg 2 nd) (sgs_cons (sg 3 nd) (sgs_cons (sg 4 nd) (sgs_cons (sg 5 nd) (sgs_nil)))))))
      (ss_cons (ss_ret (s_chain o_le o_le (sv 4) (s_ifExp (st_cmp o_gt (sv 3) (s_int)) (s_op o_mod (sv 1) (sv 3)) (sv 1)) (sv 5)))
      (ss_nil))) (ss_nil))
      (ss_cons (ss_if (st_cmp (o_eq hr.u4) (s_ix x_ix (sv 0) (s_int)) (s_gstr rfl T.c_NOT.choose_spec)) (ss_cons (ss_ret (s_not (s_call C_holds hr F_holds.m F_holds.k F_holds.b (sa_cons (s_ix x_ix (sv 0) (s_int)) (sa_cons (sv 1) (sa_nil))))))
      (ss_nil)) (ss_nil))
      (ss_cons (ss_if (st_cmp (o_eq hr.u4) (s_ix x_ix (sv 0) (s_int)) (s_gstr rfl T.c_ALL.choose_spec)) (ss_cons (ss_ret (s_callB (b_all rfl) T.b_all (sa_cons (s_lc rfl nd (si_seq (s_ix x_ix (sv 0) (s_int))) (own := [("part", 6)]) (blkOk_by (N := N_holds) (sc := defScope s_holds) (by decide +kernel)) (fun _ _ _ _ _ => sg 6 nd) (fun _ _ _ _ _ => sts_nil) (fun _ _ _ _ _ => s_call C_holds hr F_holds.m F_holds.k F_holds.b (sa_cons (sv 6) (sa_cons (sv 1) (sa_nil))))) (sa_nil))))
      (ss_nil)) (ss_nil))
      (ss_cons (ss_ret (s_callB (b_any rfl) T.b_any (sa_cons (s_lc rfl nd (si_seq (s_ix x_ix (sv 0) (s_int))) (own := [("part", 6)]) (blkOk_by (N := N_holds) (sc := defScope s_holds) (by decide +kernel)) (fun _ _ _ _ _ => sg 6 nd) (fun _ _ _ _ _ => sts_nil) (fun _ _ _ _ _ => s_call C_holds hr F_holds.m F_holds.k F_holds.b (sa_cons (sv 6) (sa_cons (sv 1) (sa_nil))))) (sa_nil))))
      (ss_nil))))
theorem ok_holds (T : Txt K mg) {f_holds : Addr} {fd_holds : FuncData} {sp_holds : CSp} (F_holds : FnF K mg "holds" s_holds f_holds fd_holds ["condition", "number"]) (C_holds : FnG P w K mg base L2.CX0 k f_holds fd_holds ["condition", "number"] sp_holds) {f : Addr} {fd : FuncData} {sp : CSp} (F : FnF K mg "holds" s_holds f fd ["condition", "number"]) (pl : PL N_holds ["condition", "number"] sp (t_holds sp_holds)) : FnG P w K mg base L2.CX0 (k + 1) f fd ["condition", "number"] sp :=
  fn_mk F.F sc_holds pl.mono pl.len (fun cdv A outer s H E hr => bd_holds T F_holds C_holds hr) pl.go
abbrev N_row_of : List Str := ["rules", "number", "index", "form", "condition"]
theorem sc_row_of : FnScope N_row_of ["rules", "number"] (defScope s_row_of) := ⟨rfl, rfl, rfl, by decide +kernel, rfl, by decide +kernel, by decide +kernel⟩
def t_row_of (sp_holds : CSp) : CS :=
  cSeq (cFor (cEnumI (cCons (cOp cIx (cVar 0) (cC (.int 0))) (cNil))) (cgTup 2 (cgCons (cgName 2) (cgCons (cgTup 2 (cgCons (cgName 3) (cgCons (cgName 4) (cgNil)))) (cgNil)))) (cSeq (cIfS (cB (cCall sp_holds X0 (cCons (cVar 4) (cCons (cVar 1) (cNil))))) (cSeq (cRet (cVar 2))
      (cNext)) (cNext))
      (cNext)))
      (cSeq (cRet (cC .non))
      (cNext))
theorem bd_row_of (T : Txt K mg) {f_holds : Addr} {fd_holds : FuncData} {sp_holds : CSp} (F_holds : FnF K mg "holds" s_holds f_holds fd_holds ["condition", "number"]) (C_holds : FnG P w K mg base L2.CX0 k f_holds fd_holds ["condition", "number"] sp_holds) {f : Addr} {cdv : Value} {A : Around} {outer : List PySem.Env} {s : Shared} {H : Hp} {E : XK} (hr : RoomG k (A.deeper (envOfC "row_of" (defScope s_row_of) s.heap.objs.size f cdv))) :
    SSs (cxOf L2.CX0 P w K mg base N_row_of "row_of" (defScope s_row_of) f cdv A outer s H E).nox (defBody s_row_of) (t_row_of sp_holds) := by
  have nd : N_row_of.Nodup := sc_row_of.nd
  exact ss_cons (ss_for PassesOwn.never rfl (si_enum rfl T.b_enumerate (sa_cons (s_ix x_ix (sv 0) (s_int)) (sa_nil))) (sg_tup rfl (sgs_cons (sg 2 nd) (sgs_cons (sg_tup rfl (sgs_cons (sg 3 nd) (sgs_cons (sg 4 nd) (sgs_nil)))) (sgs_nil)))) (ss_cons (ss_if (st_val (s_call C_holds hr F_holds.m F_holds.k F_holds.b (sa_cons (sv 4) (sa_cons (sv 1) (sa_nil))))) (ss_cons (ss_ret (sv 2))
      (ss_nil)) (ss_nil))
      (ss_nil)))
      (ss_cons (ss_ret (s_non))
      (ss_nil))
theorem ok_row_of (T : Txt K mg) {f_holds : Addr} {fd_holds : FuncData} {sp_holds : CSp} (F_holds : FnF K mg "holds" s_holds f_holds fd_holds ["condition", "number"]) (C_holds : FnG P w K mg base L2.CX0 k f_holds fd_holds ["condition", "number"] sp_holds) {f : Addr} {fd : FuncData} {sp : CSp} (F : FnF K mg "row_of" s_row_of f fd ["rules", "number"]) (pl : PL N_row_of ["rules", "number"] sp (t_row_of sp_holds)) : FnG P w K mg base L2.CX0 (k + 1) f fd ["rules", "number"] sp :=
  fn_mk F.F sc_row_of pl.mono pl.len (fun cdv A outer s H E hr => bd_row_of T F_holds C_holds hr) pl.go
abbrev N_form_of : List Str := ["rules", "number", "index"]
theorem sc_form_of : FnScope N_form_of ["rules", "number"] (defScope s_form_of) := ⟨rfl, rfl, rfl, by decide +kernel, rfl, by decide +kernel, by decide +kernel⟩
def t_form_of (sp_row_of : CSp) : CS :=
  cSeq (cAsg (cCall sp_row_of X0 (cCons (cVar 0) (cCons (cVar 1) (cNil)))) (cgName 2))
      (cSeq (cRet (cIf (cB (cOp cIs (cVar 2) (cC .non))) (cOp cIx (cVar 0) (cC (.int 1))) (cOp cIx (cOp cIx (cOp cIx (cVar 0) (cC (.int 0))) (cVar 2)) (cC (.int 0)))))
      (cNext))
theorem bd_form_of (T : Txt K mg) {f_row_of : Addr} {fd_row_of : FuncData} {sp_row_of : CSp} (F_row_of : FnF K mg "row_of" s_row_of f_row_of fd_row_of ["rules", "number"]) (C_row_of : FnG P w K mg base L2.CX0 k f_row_of fd_row_of ["rules", "number"] sp_row_of) {f : Addr} {cdv : Value} {A : Around} {outer : List PySem.Env} {s : Shared} {H : Hp} {E : XK} (hr : RoomG k (A.deeper (envOfC "form_of" (defScope s_form_of) s.heap.objs.size f cdv))) :
    SSs (cxOf L2.CX0 P w K mg base N_form_of "form_of" (defScope s_form_of) f cdv A outer s H E).nox (defBody s_form_of) (t_form_of sp_row_of) := by
  have nd : N_form_of.Nodup := sc_form_of.nd
  exact ss_cons (ss_set 2 nd (s_call C_row_of hr F_row_of.m F_row_of.k F_row_of.b (sa_cons (sv 0) (sa_cons (sv 1) (sa_nil)))))
      (ss_cons (ss_ret (s_ifExp (st_cmp o_isN (sv 2) (s_non)) (s_ix x_ix (sv 0) (s_int)) (s_ix x_ix (s_ix x_ix (s_ix x_ix (sv 0) (s_int)) (sv 2)) (s_int))))
      (ss_nil))
theorem ok_form_of (T : Txt K mg) {f_row_of : Addr} {fd_row_of : FuncData} {sp_row_of : CSp} (F_row_of : FnF K mg "row_of" s_row_of f_row_of fd_row_of ["rules", "number"]) (C_row_of : FnG P w K mg base L2.CX0 k f_row_of fd_row_of ["rules", "number"] sp_row_of) {f : Addr} {fd : FuncData} {sp : CSp} (F : FnF K mg "form_of" s_form_of f fd ["rules", "number"]) (pl : PL N_form_of ["rules", "number"] sp (t_form_of sp_row_of)) : FnG P w K mg base L2.CX0 (k + 1) f fd ["rules", "number"] sp :=
  fn_mk F.F sc_form_of pl.mono pl.len (fun cdv A outer s H E hr => bd_form_of T F_row_of C_row_of hr) pl.go
abbrev N_bound : List Str := ["rules", "word", "modulus", "low", "high"]
theorem sc_bound : FnScope N_bound ["rules"] (defScope s_bound) := ⟨rfl, rfl, rfl, by decide +kernel, rfl, by decide +kernel, by decide +kernel⟩
def t_bound (sp_all_ins : CSp) : CS :=
  cSeq (cRet (cCKw cMaxD (cCons (cLc (cSeqI (cCall sp_all_ins X0 (cCons (cVar 0) (cNil)))) (cgTup 4 (cgCons (cgName 1) (cgCons (cgName 2) (cgCons (cgName 3) (cgCons (cgName 4) (cgNil)))))) (cB (cOp cEq (cVar 2) (cC (.int 0)))) (cOp cAdd (cVar 4) (cC (.int 1))) [1, 2, 3, 4]) (cNil)) (cCons (cC (.int 0)) cNil)))
      (cNext)
theorem bd_bound (T : Txt K mg) {f_all_ins : Addr} {fd_all_ins : FuncData} {sp_all_ins : CSp} (F_all_ins : FnF K mg "all_ins" s_all_ins f_all_ins fd_all_ins ["rules"]) (C_all_ins : FnG P w K mg base L2.CX0 k f_all_ins fd_all_ins ["rules"] sp_all_ins) {f : Addr} {cdv : Value} {A : Around} {outer : List PySem.Env} {s : Shared} {H : Hp} {E : XK} (hr : RoomG k (A.deeper (envOfC "bound" (defScope s_bound) s.heap.objs.size f cdv))) :
    SSs (cxOf L2.CX0 P w K mg base N_bound "bound" (defScope s_bound) f cdv A outer s H E).nox (defBody s_bound) (t_bound sp_all_ins) := by
  have nd : N_bound.Nodup := sc_bound.nd
  exact ss_cons (ss_ret (s_callBK (b_maxD rfl hr.u4) T.b_max (sa_cons (s_lc rfl nd (si_seq (s_call C_all_ins hr F_all_ins.m F_all_ins.k F_all_ins.b (sa_cons (sv 0) (sa_nil)))) (own := [("word", 1), ("modulus", 2), ("low", 3), ("high", 4)]) (blkOk_by (N := N_bound) (sc := defScope s_bound) (by decide +kernel)) (fun _ _ _ _ _ => sg_tup rfl (sgs_cons (sg 1 nd) (sgs_cons (sg 2 nd) (sgs_cons (sg 3 nd) (sgs_cons (sg 4 nd) (sgs_nil)))))) (fun _ _ _ _ _ => sts_one (st_cmp (o_eq hr.u4) (sv 2) (s_int))) (fun _ _ _ _ _ => s_op o_add (sv 4) (s_int))) (sa_nil)) (sk_cons (s_int) sk_nil)))
      (ss_nil)
theorem ok_bound (T : Txt K mg) {f_all_ins : Addr} {fd_all_ins : FuncData} {sp_all_ins : CSp} (F_all_ins : FnF K mg "all_ins" s_all_ins f_all_ins fd_all_ins ["rules"]) (C_all_ins : FnG P w K mg base L2.CX0 k f_all_ins fd_all_ins ["rules"] sp_all_ins) {f : Addr} {fd : FuncData} {sp : CSp} (F : FnF K mg "bound" s_bound f fd ["rules"]) (pl : PL N_bound ["rules"] sp (t_bound sp_all_ins)) : FnG P w K mg base L2.CX0 (k + 1) f fd ["rules"] sp :=
  fn_mk F.F sc_bound pl.mono pl.len (fun cdv A outer s H E hr => bd_bound T F_all_ins C_all_ins hr) pl.go
abbrev N_period : List Str := ["rules", "word", "modulus", "low", "high"]
theorem sc_period : FnScope N_period ["rules"] (defScope s_period) := ⟨rfl, rfl, rfl, by decide +kernel, rfl, by decide +kernel, by decide +kernel⟩
def t_period (sp_all_ins : CSp) : CS :=
  cSeq (cRet (cCKw cMaxD (cCons (cLc (cSeqI (cCall sp_all_ins X0 (cCons (cVar 0) (cNil)))) (cgTup 4 (cgCons (cgName 1) (cgCons (cgName 2) (cgCons (cgName 3) (cgCons (cgName 4) (cgNil)))))) (cB (cOp cGt (cVar 2) (cC (.int 0)))) (cVar 2) [1, 2, 3, 4]) (cNil)) (cCons (cC (.int 1)) cNil)))
      (cNext)
theorem bd_period (T : Txt K mg) {f_all_ins : Addr} {fd_all_ins : FuncData} {sp_all_ins : CSp} (F_all_ins : FnF K mg "all_ins" s_all_ins f_all_ins fd_all_ins ["rules"]) (C_all_ins : FnG P w K mg base L2.CX0 k f_all_ins fd_all_ins ["rules"] sp_all_ins) {f : Addr} {cdv : Value} {A : Around} {outer : List PySem.Env} {s : Shared} {H : Hp} {E : XK} (hr : RoomG k (A.deeper (envOfC "period" (defScope s_period) s.heap.objs.size f cdv))) :
    SSs (cxOf L2.CX0 P w K mg base N_period "period" (defScope s_period) f cdv A outer s H E).nox (defBody s_period) (t_period sp_all_ins) := by
  have nd : N_period.Nodup := sc_period.nd
  exact ss_cons (ss_ret (s_callBK (b_maxD rfl hr.u4) T.b_max (sa_cons (s_lc rfl nd (si_seq (s_call C_all_ins hr F_all_ins.m F_all_ins.k F_all_ins.b (sa_cons (sv 0) (sa_nil)))) (own := [("word", 1), ("modulus", 2), ("low", 3), ("high", 4)]) (blkOk_by (N := N_period) (sc := defScope s_period) (by decide +kernel)) (fun _ _ _ _ _ => sg_tup rfl (sgs_cons (sg 1 nd) (sgs_cons (sg 2 nd) (sgs_cons (sg 3 nd) (sgs_cons (sg 4 nd) (sgs_nil)))))) (fun _ _ _ _ _ => sts_one (st_cmp o_gt (sv 2) (s_int))) (fun _ _ _ _ _ => sv 2)) (sa_nil)) (sk_cons (s_int) sk_nil)))
      (ss_nil)
theorem ok_period (T : Txt K mg) {f_all_ins : Addr} {fd_all_ins : FuncData} {sp_all_ins : CSp} (F_all_ins : FnF K mg "all_ins" s_all_ins f_all_ins fd_all_ins ["rules"]) (C_all_ins : FnG P w K mg base L2.CX0 k f_all_ins fd_all_ins ["rules"] sp_all_ins) {f : Addr} {fd : FuncData} {sp : CSp} (F : FnF K mg "period" s_period f fd ["rules"]) (pl : PL N_period ["rules"] sp (t_period sp_all_ins)) : FnG P w K mg base L2.CX0 (k + 1) f fd ["rules"] sp :=
  fn_mk F.F sc_period pl.mono pl.len (fun cdv A outer s H E hr => bd_period T F_all_ins C_all_ins hr) pl.go
abbrev N_joint_bound : List Str := ["some", "rules"]
theorem sc_joint_bound : FnScope N_joint_bound ["some"] (defScope s_joint_bound) := ⟨rfl, rfl, rfl, by decide +kernel, rfl, by decide +kernel, by decide +kernel⟩
def t_joint_bound (sp_bound : CSp) : CS :=
  cSeq (cRet (cCB cMax (cCons (cLc (cSeqI (cVar 0)) (cgName 1) (cYes) (cCall sp_bound X0 (cCons (cVar 1) (cNil))) [1]) (cNil))))
      (cNext)
theorem bd_joint_bound (T : Txt K mg) {f_bound : Addr} {fd_bound : FuncData} {sp_bound : CSp} (F_bound : FnF K mg "bound" s_bound f_bound fd_bound ["rules"]) (C_bound : FnG P w K mg base L2.CX0 k f_bound fd_bound ["rules"] sp_bound) {f : Addr} {cdv : Value} {A : Around} {outer : List PySem.Env} {s : Shared} {H : Hp} {E : XK} (hr : RoomG k (A.deeper (envOfC "joint_bound" (defScope s_joint_bound) s.heap.objs.size f cdv))) :
    SSs (cxOf L2.CX0 P w K mg base N_joint_bound "joint_bound" (defScope s_joint_bound) f cdv A outer s H E).nox (defBody s_joint_bound) (t_joint_bound sp_bound) := by
  have nd : N_joint_bound.Nodup := sc_joint_bound.nd
  exact ss_cons (ss_ret (s_callB (b_max rfl) T.b_max (sa_cons (s_lc rfl nd (si_seq (sv 0)) (own := [("rules", 1)]) (blkOk_by (N := N_joint_bound) (sc := defScope s_joint_bound) (by decide +kernel)) (fun _ _ _ _ _ => sg 1 nd) (fun _ _ _ _ _ => sts_nil) (fun _ _ _ _ _ => s_call C_bound hr F_bound.m F_bound.k F_bound.b (sa_cons (sv 1) (sa_nil)))) (sa_nil))))
      (ss_nil)
theorem ok_joint_bound (T : Txt K mg) {f_bound : Addr} {fd_bound : FuncData} {sp_bound : CSp} (F_bound : FnF K mg "bound" s_bound f_bound fd_bound ["rules"]) (C_bound : FnG P w K mg base L2.CX0 k f_bound fd_bound ["rules"] sp_bound) {f : Addr} {fd : FuncData} {sp : CSp} (F : FnF K mg "joint_bound" s_joint_bound f fd ["some"]) (pl : PL N_joint_bound ["some"] sp (t_joint_bound sp_bound)) : FnG P w K mg base L2.CX0 (k + 1) f fd ["some"] sp :=
  fn_mk F.F sc_joint_bound pl.mono pl.len (fun cdv A outer s H E hr => bd_joint_bound T F_bound C_bound hr) pl.go
abbrev N_joint_period : List Str := ["some", "rules"]
theorem sc_joint_period : FnScope N_joint_period ["some"] (defScope s_joint_period) := ⟨rfl, rfl, rfl, by decide +kernel, rfl, by decide +kernel, by decide +kernel⟩
def t_joint_period (sp_period : CSp) : CS :=
  cSeq (cRet (cCB cMax (cCons (cLc (cSeqI (cVar 0)) (cgName 1) (cYes) (cCall sp_period X0 (cCons (cVar 1) (cNil))) [1]) (cNil))))
      (cNext)
theorem bd_joint_period (T : Txt K mg) {f_period : Addr} {fd_period : FuncData} {sp_period : CSp} (F_period : FnF K mg "period" s_period f_period fd_period ["rules"]) (C_period : FnG P w K mg base L2.CX0 k f_period fd_period ["rules"] sp_period) {f : Addr} {cdv : Value} {A : Around} {outer : List PySem.Env} {s : Shared} {H : Hp} {E : XK} (hr : RoomG k (A.deeper (envOfC "joint_period" (defScope s_joint_period) s.heap.objs.size f cdv))) :
    SSs (cxOf L2.CX0 P w K mg base N_joint_period "joint_period" (defScope s_joint_period) f cdv A outer s H E).nox (defBody s_joint_period) (t_joint_period sp_period) := by
  have nd : N_joint_period.Nodup := sc_joint_period.nd
  exact ss_cons (ss_ret (s_callB (b_max rfl) T.b_max (sa_cons (s_lc rfl nd (si_seq (sv 0)) (own := [("rules", 1)]) (blkOk_by (N := N_joint_period) (sc := defScope s_joint_period) (by decide +kernel)) (fun _ _ _ _ _ => sg 1 nd) (fun _ _ _ _ _ => sts_nil) (fun _ _ _ _ _ => s_call C_period hr F_period.m F_period.k F_period.b (sa_cons (sv 1) (sa_nil)))) (sa_nil))))
      (ss_nil)
theorem ok_joint_period (T : Txt K mg) {f_period : Addr} {fd_period : FuncData} {sp_period : CSp} (F_period : FnF K mg "period" s_period f_period fd_period ["rules"]) (C_period : FnG P w K mg base L2.CX0 k f_period fd_period ["rules"] sp_period) {f : Addr} {fd : FuncData} {sp : CSp} (F : FnF K mg "joint_period" s_joint_period f fd ["some"]) (pl : PL N_joint_period ["some"] sp (t_joint_period sp_period)) : FnG P w K mg base L2.CX0 (k + 1) f fd ["some"] sp :=
  fn_mk F.F sc_joint_period pl.mono pl.len (fun cdv A outer s H E hr => bd_joint_period T F_period C_period hr) pl.go
abbrev N_reach : List Str := ["some"]
theorem sc_reach : FnScope N_reach ["some"] (defScope s_reach) := ⟨rfl, rfl, rfl, by decide +kernel, rfl, by decide +kernel, by decide +kernel⟩
def t_reach (sp_joint_bound sp_joint_period : CSp) : CS :=
  cSeq (cRet (cOp cAdd (cCall sp_joint_bound X0 (cCons (cVar 0) (cNil))) (cCall sp_joint_period X0 (cCons (cVar 0) (cNil)))))
      (cNext)
theorem bd_reach (T : Txt K mg) {f_joint_bound : Addr} {fd_joint_bound : FuncData} {sp_joint_bound : CSp} (F_joint_bound : FnF K mg "joint_bound" s_joint_bound f_joint_bound fd_joint_bound ["some"]) (C_joint_bound : FnG P w K mg base L2.CX0 k f_joint_bound fd_joint_bound ["some"] sp_joint_bound) {f_joint_period : Addr} {fd_joint_period : FuncData} {sp_joint_period : CSp} (F_joint_period : FnF K mg "joint_period" s_joint_period f_joint_period fd_joint_period ["some"]) (C_joint_period : FnG P w K mg base L2.CX0 k f_joint_period fd_joint_period ["some"] sp_joint_period) {f : Addr} {cdv : Value} {A : Around} {outer : List PySem.Env} {s : Shared} {H : Hp} {E : XK} (hr : RoomG k (A.deeper (envOfC "reach" (defScope s_reach) s.heap.objs.size f cdv))) :
    SSs (cxOf L2.CX0 P w K mg base N_reach "reach" (defScope s_reach) f cdv A outer s H E).nox (defBody s_reach) (t_reach sp_joint_bound sp_joint_period) := by
  have nd : N_reach.Nodup := sc_reach.nd
  exact ss_cons (ss_ret (s_op o_add (s_call C_joint_bound hr F_joint_bound.m F_joint_bound.k F_joint_bound.b (sa_cons (sv 0) (sa_nil))) (s_call C_joint_period hr F_joint_period.m F_joint_period.k F_joint_period.b (sa_cons (sv 0) (sa_nil)))))
      (ss_nil)
theorem ok_reach (T : Txt K mg) {f_joint_bound : Addr} {fd_joint_bound : FuncData} {sp_joint_bound : CSp} (F_joint_bound : FnF K mg "joint_bound" s_joint_bound f_joint_bound fd_joint_bound ["some"]) (C_joint_bound : FnG P w K mg base L2.CX0 k f_joint_bound fd_joint_bound ["some"] sp_joint_bound) {f_joint_period : Addr} {fd_joint_period : FuncData} {sp_joint_period : CSp} (F_joint_period : FnF K mg "joint_period" s_joint_period f_joint_period fd_joint_period ["some"]) (C_joint_period : FnG P w K mg base L2.CX0 k f_joint_period fd_joint_period ["some"] sp_joint_period) {f : Addr} {fd : FuncData} {sp : CSp} (F : FnF K mg "reach" s_reach f fd ["some"]) (pl : PL N_reach ["some"] sp (t_reach sp_joint_bound sp_joint_period)) : FnG P w K mg base L2.CX0 (k + 1) f fd ["some"] sp :=
  fn_mk F.F sc_reach pl.mono pl.len (fun cdv A outer s H E hr => bd_reach T F_joint_bound C_joint_bound F_joint_period C_joint_period hr) pl.go
abbrev N_forms_below : List Str := ["rules", "stop", "number"]
theorem sc_forms_below : FnScope N_forms_below ["rules", "stop"] (defScope s_forms_below) := ⟨rfl, rfl, rfl, by decide +kernel, rfl, by decide +kernel, by decide +kernel⟩
def t_forms_below (sp_form_of : CSp) : CS :=
  cSeq (cRet (cCB cTupleOf (cCons (cLc (cRng1 (cCons (cVar 1) (cNil))) (cgName 2) (cYes) (cCall sp_form_of X0 (cCons (cVar 0) (cCons (cVar 2) (cNil)))) [2]) (cNil))))
      (cNext)
theorem bd_forms_below (T : Txt K mg) {f_form_of : Addr} {fd_form_of : FuncData} {sp_form_of : CSp} (F_form_of : FnF K mg "form_of" s_form_of f_form_of fd_form_of ["rules", "number"]) (C_form_of : FnG P w K mg base L2.CX0 k f_form_of fd_form_of ["rules", "number"] sp_form_of) {f : Addr} {cdv : Value} {A : Around} {outer : List PySem.Env} {s : Shared} {H : Hp} {E : XK} (hr : RoomG k (A.deeper (envOfC "forms_below" (defScope s_forms_below) s.heap.objs.size f cdv))) :
    SSs (cxOf L2.CX0 P w K mg base N_forms_below "forms_below" (defScope s_forms_below) f cdv A outer s H E).nox (defBody s_forms_below) (t_forms_below sp_form_of) := by
  have nd : N_forms_below.Nodup := sc_forms_below.nd
  exact ss_cons (ss_ret (s_callT b_tuple T.b_tuple (sa_cons (s_lc rfl nd (si_range1 rfl T.b_range (sa_cons (sv 1) (sa_nil))) (own := [("number", 2)]) (blkOk_by (N := N_forms_below) (sc := defScope s_forms_below) (by decide +kernel)) (fun _ _ _ _ _ => sg 2 nd) (fun _ _ _ _ _ => sts_nil) (fun _ _ _ _ _ => s_call C_form_of hr F_form_of.m F_form_of.k F_form_of.b (sa_cons (sv 0) (sa_cons (sv 2) (sa_nil))))) (sa_nil))))
      (ss_nil)
theorem ok_forms_below (T : Txt K mg) {f_form_of : Addr} {fd_form_of : FuncData} {sp_form_of : CSp} (F_form_of : FnF K mg "form_of" s_form_of f_form_of fd_form_of ["rules", "number"]) (C_form_of : FnG P w K mg base L2.CX0 k f_form_of fd_form_of ["rules", "number"] sp_form_of) {f : Addr} {fd : FuncData} {sp : CSp} (F : FnF K mg "forms_below" s_forms_below f fd ["rules", "stop"]) (pl : PL N_forms_below ["rules", "stop"] sp (t_forms_below sp_form_of)) : FnG P w K mg base L2.CX0 (k + 1) f fd ["rules", "stop"] sp :=
  fn_mk F.F sc_forms_below pl.mono pl.len (fun cdv A outer s H E hr => bd_forms_below T F_form_of C_form_of hr) pl.go
abbrev N_table : List Str := ["rules"]
theorem sc_table : FnScope N_table ["rules"] (defScope s_table) := ⟨rfl, rfl, rfl, by decide +kernel, rfl, by decide +kernel, by decide +kernel⟩
def t_table (sp_forms_below sp_reach : CSp) : CS :=
  cSeq (cRet (cCall sp_forms_below X0 (cCons (cVar 0) (cCons (cCall sp_reach X0 (cCons (cTup (cCons (cVar 0) (cNil))) (cNil))) (cNil)))))
      (cNext)
theorem bd_table (T : Txt K mg) {f_forms_below : Addr} {fd_forms_below : FuncData} {sp_forms_below : CSp} (F_forms_below : FnF K mg "forms_below" s_forms_below f_forms_below fd_forms_below ["rules", "stop"]) (C_forms_below : FnG P w K mg base L2.CX0 k f_forms_below fd_forms_below ["rules", "stop"] sp_forms_below) {f_reach : Addr} {fd_reach : FuncData} {sp_reach : CSp} (F_reach : FnF K mg "reach" s_reach f_reach fd_reach ["some"]) (C_reach : FnG P w K mg base L2.CX0 k f_reach fd_reach ["some"] sp_reach) {f : Addr} {cdv : Value} {A : Around} {outer : List PySem.Env} {s : Shared} {H : Hp} {E : XK} (hr : RoomG k (A.deeper (envOfC "table" (defScope s_table) s.heap.objs.size f cdv))) :
    SSs (cxOf L2.CX0 P w K mg base N_table "table" (defScope s_table) f cdv A outer s H E).nox (defBody s_table) (t_table sp_forms_below sp_reach) := by
  have nd : N_table.Nodup := sc_table.nd
  exact ss_cons (ss_ret (s_call C_forms_below hr F_forms_below.m F_forms_below.k F_forms_below.b (sa_cons (sv 0) (sa_cons (s_call C_reach hr F_reach.m F_reach.k F_reach.b (sa_cons (s_tup (sa_cons (sv 0) (sa_nil))) (sa_nil))) (sa_nil)))))
      (ss_nil)
theorem ok_table (T : Txt K mg) {f_forms_below : Addr} {fd_forms_below : FuncData} {sp_forms_below : CSp} (F_forms_below : FnF K mg "forms_below" s_forms_below f_forms_below fd_forms_below ["rules", "stop"]) (C_forms_below : FnG P w K mg base L2.CX0 k f_forms_below fd_forms_below ["rules", "stop"] sp_forms_below) {f_reach : Addr} {fd_reach : FuncData} {sp_reach : CSp} (F_reach : FnF K mg "reach" s_reach f_reach fd_reach ["some"]) (C_reach : FnG P w K mg base L2.CX0 k f_reach fd_reach ["some"] sp_reach) {f : Addr} {fd : FuncData} {sp : CSp} (F : FnF K mg "table" s_table f fd ["rules"]) (pl : PL N_table ["rules"] sp (t_table sp_forms_below sp_reach)) : FnG P w K mg base L2.CX0 (k + 1) f fd ["rules"] sp :=
  fn_mk F.F sc_table pl.mono pl.len (fun cdv A outer s H E hr => bd_table T F_forms_below C_forms_below F_reach C_reach hr) pl.go
abbrev N__law_pot : List Str := ["_law_script", "_law_k", "_law_cell", "_law_own"]
theorem sc__law_pot : FnScope N__law_pot ["_law_script", "_law_k"] (defScope s__law_pot) := ⟨rfl, rfl, rfl, by decide +kernel, rfl, by decide +kernel, by decide +kernel⟩
def t__law_pot : CS :=
  cSeq (cAsg (cIf (cB (cOp cLt (cVar 1) (cCB cLen (cCons (cVar 0) (cNil))))) (cOp cIx (cVar 0) (cVar 1)) (cOp cAdd (cOp cMul (cC (.int 23)) (cVar 1)) (cC (.int 6)))) (cgName 2))
      (cSeq (cAsg (cOp cMul (cOp cMod (cCB cAbs (cCons (cVar 2) (cNil))) (cOp cPow (cOp cPow (cC (.int 10)) (cC (.int 60))) (cC (.int 5)))) (cCB cInt (cCons (cOp cGe (cCB cAbs (cCons (cVar 2) (cNil))) (cOp cPow (cC (.int 10)) (cC (.int 18)))) (cNil)))) (cgName 3))
      (cSeq (cRet (cLstO (cCons (cVar 3) (cCons (cOp cMod (cOp cAdd (cOp cAdd (cOp cMul (cOp cMod (cVar 2) (cC (.int 2305843009213693951))) (cC (.int 68917))) (cOp cMul (cOp cMul (cC (.int 7919)) (cVar 1)) (cVar 1))) (cC (.int 47))) (cC (.int 2305843009213693921))) (cCons (cC (.int 0)) (cNil))))))
      (cNext)))
theorem bd__law_pot (T : Txt K mg) {f : Addr} {cdv : Value} {A : Around} {outer : List PySem.Env} {s : Shared} {H : Hp} {E : XK} (hr : RoomG k (A.deeper (envOfC "_law_pot" (defScope s__law_pot) s.heap.objs.size f cdv))) :
    SSs (cxOf L2.CX0 P w K mg base N__law_pot "_law_pot" (defScope s__law_pot) f cdv A outer s H E).nox (defBody s__law_pot) (t__law_pot) := by
  have nd : N__law_pot.Nodup := sc__law_pot.nd
  exact ss_cons (ss_set 2 nd (s_ifExp (st_cmp o_lt (sv 1) (s_callB b_len T.b_len (sa_cons (sv 0) (sa_nil)))) (s_ix x_ix (sv 0) (sv 1)) (s_op o_add (s_op o_mul (s_int) (sv 1)) (s_int))))
      (ss_cons (ss_set 3 nd (s_op o_mul (s_op o_mod (s_callB b_abs T.b_abs (sa_cons (sv 2) (sa_nil))) (s_op o_pow (s_op o_pow (s_int) (s_int)) (s_int))) (s_callT b_int T.b_int (sa_cons (s_cmp o_ge (s_callB b_abs T.b_abs (sa_cons (sv 2) (sa_nil))) (s_op o_pow (s_int) (s_int))) (sa_nil)))))
      (ss_cons (ss_ret (s_lstO (sa_cons (sv 3) (sa_cons (s_op o_mod (s_op o_add (s_op o_add (s_op o_mul (s_op o_mod (sv 2) (s_int)) (s_int)) (s_op o_mul (s_op o_mul (s_int) (sv 1)) (sv 1))) (s_int)) (s_int)) (sa_cons (s_int) (sa_nil))))))
      (ss_nil)))
theorem ok__law_pot (T : Txt K mg) {f : Addr} {fd : FuncData} {sp : CSp} (F : FnF K mg "_law_pot" s__law_pot f fd ["_law_script", "_law_k"]) (pl : PL N__law_pot ["_law_script", "_law_k"] sp (t__law_pot)) : FnG P w K mg base L2.CX0 (k + 1) f fd ["_law_script", "_law_k"] sp :=
  fn_mk F.F sc__law_pot pl.mono pl.len (fun cdv A outer s H E hr => bd__law_pot T hr) pl.go
abbrev N__law_take : List Str := ["_law_pot_here", "_law_upto", "_law_digit", "_law_prime", "_law_mixed"]
theorem sc__law_take : FnScope N__law_take ["_law_pot_here", "_law_upto"] (defScope s__law_take) := ⟨rfl, rfl, rfl, by decide +kernel, rfl, by decide +kernel, by decide +kernel⟩
def t__law_take : CS :=
  cSeq (cIfS (cB (cOp cGt (cOp cIx (cVar 0) (cC (.int 0))) (cC (.int 0)))) (cSeq (cAsg (cOp cMod (cOp cIx (cVar 0) (cC (.int 0))) (cVar 1)) (cgName 2))
      (cSeq (cSetL (cVar 0) (cC (.int 0)) (cOp cFd (cOp cIx (cVar 0) (cC (.int 0))) (cVar 1)))
      (cSeq (cRet (cVar 2))
      (cNext)))) (cNext))
      (cSeq (cSetL (cVar 0) (cC (.int 2)) (cOp cAdd (cOp cIx (cVar 0) (cC (.int 2))) (cC (.int 1))))
      (cSeq (cAsg (cOp cIx (cLst (cCons (cC (.int 2147483647)) (cCons (cC (.int 2147483629)) (cCons (cC (.int 2147483587)) (cCons (cC (.int 2147483579)) (cCons (cC (.int 2147483563)) (cNil))))))) (cOp cMod (cOp cIx (cVar 0) (cC (.int 2))) (cC (.int 5)))) (cgName 3))
      (cSeq (cAsg (cOp cMod (cOp cPow (cOp cAdd (cOp cAdd (cOp cIx (cVar 0) (cC (.int 1))) (cOp cMul (cOp cMul (cC (.int 99989)) (cOp cIx (cVar 0) (cC (.int 2)))) (cOp cIx (cVar 0) (cC (.int 2))))) (cC (.int 31))) (cC (.int 3))) (cVar 3)) (cgName 4))
      (cSeq (cRet (cOp cMod (cOp cFd (cOp cMod (cOp cMul (cVar 4) (cOp cAdd (cOp cMod (cVar 4) (cC (.int 10007))) (cOp cMul (cC (.int 79)) (cOp cIx (cVar 0) (cC (.int 2)))))) (cC (.int 2305843009213693907))) (cC (.int 101))) (cVar 1)))
      (cNext)))))
theorem bd__law_take (T : Txt K mg) {f : Addr} {cdv : Value} {A : Around} {outer : List PySem.Env} {s : Shared} {H : Hp} {E : XK} (hr : RoomG k (A.deeper (envOfC "_law_take" (defScope s__law_take) s.heap.objs.size f cdv))) :
    SSs (cxOf L2.CX0 P w K mg base N__law_take "_law_take" (defScope s__law_take) f cdv A outer s H E).nox (defBody s__law_take) (t__law_take) := by
  have nd : N__law_take.Nodup := sc__law_take.nd
  exact ss_cons (ss_if (st_cmp o_gt (s_ix x_ix (sv 0) (s_int)) (s_int)) (ss_cons (ss_set 2 nd (s_op o_mod (s_ix x_ix (sv 0) (s_int)) (sv 1)))
      (ss_cons (ss_setL (sv 0) (s_int) (s_op o_fdiv (s_ix x_ix (sv 0) (s_int)) (sv 1)))
      (ss_cons (ss_ret (sv 2))
      (ss_nil)))) (ss_nil))
      (ss_cons (ss_setL (sv 0) (s_int) (s_op o_add (s_ix x_ix (sv 0) (s_int)) (s_int)))
      (ss_cons (ss_set 3 nd (s_ix x_ix (s_lst (sa_cons (s_int) (sa_cons (s_int) (sa_cons (s_int) (sa_cons (s_int) (sa_cons (s_int) (sa_nil))))))) (s_op o_mod (s_ix x_ix (sv 0) (s_int)) (s_int))))
      (ss_cons (ss_set 4 nd (s_op o_mod (s_op o_pow (s_op o_add (s_op o_add (s_ix x_ix (sv 0) (s_int)) (s_op o_mul (s_op o_mul (s_int) (s_ix x_ix (sv 0) (s_int))) (s_ix x_ix (sv 0) (s_int)))) (s_int)) (s_int)) (sv 3)))
      (ss_cons (ss_ret (s_op o_mod (s_op o_fdiv (s_op o_mod (s_op o_mul (sv 4) (s_op o_add (s_op o_mod (sv 4) (s_int)) (s_op o_mul (s_int) (s_ix x_ix (sv 0) (s_int))))) (s_int)) (s_int)) (sv 1)))
      (ss_nil)))))
theorem ok__law_take (T : Txt K mg) {f : Addr} {fd : FuncData} {sp : CSp} (F : FnF K mg "_law_take" s__law_take f fd ["_law_pot_here", "_law_upto"]) (pl : PL N__law_take ["_law_pot_here", "_law_upto"] sp (t__law_take)) : FnG P w K mg base L2.CX0 (k + 1) f fd ["_law_pot_here", "_law_upto"] sp :=
  fn_mk F.F sc__law_take pl.mono pl.len (fun cdv A outer s H E hr => bd__law_take T hr) pl.go
abbrev N__law_of : List Str := ["_law_pot_here", "_law_some"]
theorem sc__law_of : FnScope N__law_of ["_law_pot_here", "_law_some"] (defScope s__law_of) := ⟨rfl, rfl, rfl, by decide +kernel, rfl, by decide +kernel, by decide +kernel⟩
def t__law_of (sp__law_take : CSp) : CS :=
  cSeq (cRet (cOp cIx (cVar 1) (cCall sp__law_take X0 (cCons (cVar 0) (cCons (cCB cLen (cCons (cVar 1) (cNil))) (cNil))))))
      (cNext)
theorem bd__law_of (T : Txt K mg) {f__law_take : Addr} {fd__law_take : FuncData} {sp__law_take : CSp} (F__law_take : FnF K mg "_law_take" s__law_take f__law_take fd__law_take ["_law_pot_here", "_law_upto"]) (C__law_take : FnG P w K mg base L2.CX0 k f__law_take fd__law_take ["_law_pot_here", "_law_upto"] sp__law_take) {f : Addr} {cdv : Value} {A : Around} {outer : List PySem.Env} {s : Shared} {H : Hp} {E : XK} (hr : RoomG k (A.deeper (envOfC "_law_of" (defScope s__law_of) s.heap.objs.size f cdv))) :
    SSs (cxOf L2.CX0 P w K mg base N__law_of "_law_of" (defScope s__law_of) f cdv A outer s H E).nox (defBody s__law_of) (t__law_of sp__law_take) := by
  have nd : N__law_of.Nodup := sc__law_of.nd
  exact ss_cons (ss_ret (s_ix x_ix (sv 1) (s_call C__law_take hr F__law_take.m F__law_take.k F__law_take.b (sa_cons (sv 0) (sa_cons (s_callB b_len T.b_len (sa_cons (sv 1) (sa_nil))) (sa_nil))))))
      (ss_nil)
theorem ok__law_of (T : Txt K mg) {f__law_take : Addr} {fd__law_take : FuncData} {sp__law_take : CSp} (F__law_take : FnF K mg "_law_take" s__law_take f__law_take fd__law_take ["_law_pot_here", "_law_upto"]) (C__law_take : FnG P w K mg base L2.CX0 k f__law_take fd__law_take ["_law_pot_here", "_law_upto"] sp__law_take) {f : Addr} {fd : FuncData} {sp : CSp} (F : FnF K mg "_law_of" s__law_of f fd ["_law_pot_here", "_law_some"]) (pl : PL N__law_of ["_law_pot_here", "_law_some"] sp (t__law_of sp__law_take)) : FnG P w K mg base L2.CX0 (k + 1) f fd ["_law_pot_here", "_law_some"] sp :=
  fn_mk F.F sc__law_of pl.mono pl.len (fun cdv A outer s H E hr => bd__law_of T F__law_take C__law_take hr) pl.go
abbrev N__law_range : List Str := ["_law_pot_here", "_law_moduli", "_law_modulus", "_law_most", "_law_low"]
theorem sc__law_range : FnScope N__law_range ["_law_pot_here", "_law_moduli"] (defScope s__law_range) := ⟨rfl, rfl, rfl, by decide +kernel, rfl, by decide +kernel, by decide +kernel⟩
def t__law_range (sp__law_of sp__law_take : CSp) : CS :=
  cSeq (cAsg (cCall sp__law_of X0 (cCons (cVar 0) (cCons (cVar 1) (cNil)))) (cgName 2))
      (cSeq (cAsg (cIf (cB (cOp cGt (cVar 2) (cC (.int 0)))) (cOp cSub (cVar 2) (cC (.int 1))) (cCall sp__law_of X0 (cCons (cVar 0) (cCons (cLst (cCons (cC (.int 2)) (cCons (cC (.int 3)) (cCons (cC (.int 5)) (cCons (cC (.int 12)) (cCons (cC (.int 12)) (cCons (cC (.int 30)) (cCons (cC (.int 101)) (cCons (cC (.int 999)) (cNil)))))))))) (cNil))))) (cgName 3))
      (cSeq (cAsg (cCall sp__law_take X0 (cCons (cVar 0) (cCons (cOp cAdd (cVar 3) (cC (.int 1))) (cNil)))) (cgName 4))
      (cSeq (cRet (cTup (cCons (cC (.str "in")) (cCons (cVar 2) (cCons (cVar 4) (cCons (cCB cMin (cCons (cVar 3) (cCons (cOp cAdd (cVar 4) (cCall sp__law_of X0 (cCons (cVar 0) (cCons (cLst (cCons (cC (.int 0)) (cCons (cC (.int 0)) (cCons (cC (.int 1)) (cCons (cC (.int 2)) (cCons (cCall sp__law_take X0 (cCons (cVar 0) (cCons (cOp cAdd (cVar 3) (cC (.int 1))) (cNil)))) (cNil))))))) (cNil))))) (cNil)))) (cNil)))))))
      (cNext))))
theorem bd__law_range (T : Txt K mg) {f__law_of : Addr} {fd__law_of : FuncData} {sp__law_of : CSp} (F__law_of : FnF K mg "_law_of" s__law_of f__law_of fd__law_of ["_law_pot_here", "_law_some"]) (C__law_of : FnG P w K mg base L2.CX0 k f__law_of fd__law_of ["_law_pot_here", "_law_some"] sp__law_of) {f__law_take : Addr} {fd__law_take : FuncData} {sp__law_take : CSp} (F__law_take : FnF K mg "_law_take" s__law_take f__law_take fd__law_take ["_law_pot_here", "_law_upto"]) (C__law_take : FnG P w K mg base L2.CX0 k f__law_take fd__law_take ["_law_pot_here", "_law_upto"] sp__law_take) {f : Addr} {cdv : Value} {A : Around} {outer : List PySem.Env} {s : Shared} {H : Hp} {E : XK} (hr : RoomG k (A.deeper (envOfC "_law_range" (defScope s__law_range) s.heap.objs.size f cdv))) :
    SSs (cxOf L2.CX0 P w K mg base N__law_range "_law_range" (defScope s__law_range) f cdv A outer s H E).nox (defBody s__law_range) (t__law_range sp__law_of sp__law_take) := by
  have nd : N__law_range.Nodup := sc__law_range.nd
  exact ss_cons (ss_set 2 nd (s_call C__law_of hr F__law_of.m F__law_of.k F__law_of.b (sa_cons (sv 0) (sa_cons (sv 1) (sa_nil)))))
      (ss_cons (ss_set 3 nd (s_ifExp (st_cmp o_gt (sv 2) (s_int)) (s_op o_sub (sv 2) (s_int)) (s_call C__law_of hr F__law_of.m F__law_of.k F__law_of.b (sa_cons (sv 0) (sa_cons (s_lst (sa_cons (s_int) (sa_cons (s_int) (sa_cons (s_int) (sa_cons (s_int) (sa_cons (s_int) (sa_cons (s_int) (sa_cons (s_int) (sa_cons (s_int) (sa_nil)))))))))) (sa_nil))))))
      (ss_cons (ss_set 4 nd (s_call C__law_take hr F__law_take.m F__law_take.k F__law_take.b (sa_cons (sv 0) (sa_cons (s_op o_add (sv 3) (s_int)) (sa_nil)))))
      (ss_cons (ss_ret (s_tup (sa_cons (s_str) (sa_cons (sv 2) (sa_cons (sv 4) (sa_cons (s_callB (b_min rfl) T.b_min (sa_cons (sv 3) (sa_cons (s_op o_add (sv 4) (s_call C__law_of hr F__law_of.m F__law_of.k F__law_of.b (sa_cons (sv 0) (sa_cons (s_lst (sa_cons (s_int) (sa_cons (s_int) (sa_cons (s_int) (sa_cons (s_int) (sa_cons (s_call C__law_take hr F__law_take.m F__law_take.k F__law_take.b (sa_cons (sv 0) (sa_cons (s_op o_add (sv 3) (s_int)) (sa_nil)))) (sa_nil))))))) (sa_nil))))) (sa_nil)))) (sa_nil)))))))
      (ss_nil))))
theorem ok__law_range (T : Txt K mg) {f__law_of : Addr} {fd__law_of : FuncData} {sp__law_of : CSp} (F__law_of : FnF K mg "_law_of" s__law_of f__law_of fd__law_of ["_law_pot_here", "_law_some"]) (C__law_of : FnG P w K mg base L2.CX0 k f__law_of fd__law_of ["_law_pot_here", "_law_some"] sp__law_of) {f__law_take : Addr} {fd__law_take : FuncData} {sp__law_take : CSp} (F__law_take : FnF K mg "_law_take" s__law_take f__law_take fd__law_take ["_law_pot_here", "_law_upto"]) (C__law_take : FnG P w K mg base L2.CX0 k f__law_take fd__law_take ["_law_pot_here", "_law_upto"] sp__law_take) {f : Addr} {fd : FuncData} {sp : CSp} (F : FnF K mg "_law_range" s__law_range f fd ["_law_pot_here", "_law_moduli"]) (pl : PL N__law_range ["_law_pot_here", "_law_moduli"] sp (t__law_range sp__law_of sp__law_take)) : FnG P w K mg base L2.CX0 (k + 1) f fd ["_law_pot_here", "_law_moduli"] sp :=
  fn_mk F.F sc__law_range pl.mono pl.len (fun cdv A outer s H E hr => bd__law_range T F__law_of C__law_of F__law_take C__law_take hr) pl.go
abbrev N__law_condition : List Str := ["_law_pot_here", "_law_moduli", "_law_deep", "_law_way", "_law_parts", "_law_turn"]
theorem sc__law_condition : FnScope N__law_condition ["_law_pot_here", "_law_moduli", "_law_deep"] (defScope s__law_condition) := ⟨rfl, rfl, rfl, by decide +kernel, rfl, by decide +kernel, by decide +kernel⟩
def t__law_condition (sp__law_take sp__law_condition sp__law_range : CSp) : CS :=
  cSeq (cAsg (cIf (cB (cOp cGt (cVar 2) (cC (.int 1)))) (cCall sp__law_take X0 (cCons (cVar 0) (cCons (cC (.int 8)) (cNil)))) (cC (.int 0))) (cgName 3))
      (cSeq (cIfS (cB (cOp cLt (cVar 3) (cC (.int 3)))) (cSeq (cRet (cCall sp__law_range X0 (cCons (cVar 0) (cCons (cVar 1) (cNil)))))
      (cNext)) (cNext))
      (cSeq (cIfS (cB (cOp cEq (cVar 3) (cC (.int 3)))) (cSeq (cRet (cTup (cCons (cC (.str "not")) (cCons (cCall sp__law_condition X0 (cCons (cVar 0) (cCons (cVar 1) (cCons (cOp cSub (cVar 2) (cC (.int 1))) (cNil))))) (cNil)))))
      (cNext)) (cNext))
      (cSeq (cAsg (cLc (cRng1 (cCons (cOp cAdd (cC (.int 1)) (cCall sp__law_take X0 (cCons (cVar 0) (cCons (cC (.int 3)) (cNil))))) (cNil))) (cgName 5) (cYes) (cCall sp__law_condition X0 (cCons (cVar 0) (cCons (cVar 1) (cCons (cOp cSub (cVar 2) (cC (.int 1))) (cNil))))) [5]) (cgName 4))
      (cSeq (cRet (cTup (cCons (cOp cIx (cLst (cCons (cC (.str "all")) (cCons (cC (.str "any")) (cNil)))) (cOp cMod (cVar 3) (cC (.int 2)))) (cCons (cCB cTupleOf (cCons (cVar 4) (cNil))) (cNil)))))
      (cNext)))))
theorem bd__law_condition (T : Txt K mg) {f__law_take : Addr} {fd__law_take : FuncData} {sp__law_take : CSp} (F__law_take : FnF K mg "_law_take" s__law_take f__law_take fd__law_take ["_law_pot_here", "_law_upto"]) (C__law_take : FnG P w K mg base L2.CX0 k f__law_take fd__law_take ["_law_pot_here", "_law_upto"] sp__law_take) {f__law_condition : Addr} {fd__law_condition : FuncData} {sp__law_condition : CSp} (F__law_condition : FnF K mg "_law_condition" s__law_condition f__law_condition fd__law_condition ["_law_pot_here", "_law_moduli", "_law_deep"]) (C__law_condition : FnG P w K mg base L2.CX0 k f__law_condition fd__law_condition ["_law_pot_here", "_law_moduli", "_law_deep"] sp__law_condition) {f__law_range : Addr} {fd__law_range : FuncData} {sp__law_range : CSp} (F__law_range : FnF K mg "_law_range" s__law_range f__law_range fd__law_range ["_law_pot_here", "_law_moduli"]) (C__law_range : FnG P w K mg base L2.CX0 k f__law_range fd__law_range ["_law_pot_here", "_law_moduli"] sp__law_range) {f : Addr} {cdv : Value} {A : Around} {outer : List PySem.Env} {s : Shared} {H : Hp} {E : XK} (hr : RoomG k (A.deeper (envOfC "_law_condition" (defScope s__law_condition) s.heap.objs.size f cdv))) :
    SSs (cxOf L2.CX0 P w K mg base N__law_condition "_law_condition" (defScope s__law_condition) f cdv A outer s H E).nox (defBody s__law_condition) (t__law_condition sp__law_take sp__law_condition sp__law_range) := by
  have nd : N__law_condition.Nodup := sc__law_condition.nd
  exact ss_cons (ss_set 3 nd (s_ifExp (st_cmp o_gt (sv 2) (s_int)) (s_call C__law_take hr F__law_take.m F__law_take.k F__law_take.b (sa_cons (sv 0) (sa_cons (s_int) (sa_nil)))) (s_int)))
      (ss_cons (ss_if (st_cmp o_lt (sv 3) (s_int)) (ss_cons (ss_ret (s_call C__law_range hr F__law_range.m F__law_range.k F__law_range.b (sa_cons (sv 0) (sa_cons (sv 1) (sa_nil)))))
      (ss_nil)) (ss_nil))
      (ss_cons (ss_if (st_cmp (o_eq hr.u4) (sv 3) (s_int)) (ss_cons (ss_ret (s_tup (sa_cons (s_str) (sa_cons (s_call C__law_condition hr F__law_condition.m F__law_condition.k F__law_condition.b (sa_cons (sv 0) (sa_cons (sv 1) (sa_cons (s_op o_sub (sv 2) (s_int)) (sa_nil))))) (sa_nil)))))
      (ss_nil)) (ss_nil))
      (ss_cons (ss_setLc 4 rfl nd (si_range1 rfl T.b_range (sa_cons (s_op o_add (s_int) (s_call C__law_take hr F__law_take.m F__law_take.k F__law_take.b (sa_cons (sv 0) (sa_cons (s_int) (sa_nil))))) (sa_nil))) (own := [("_law_turn", 5)]) (blkOk_by (N := N__law_condition) (sc := defScope s__law_condition) (by decide +kernel)) (fun _ _ _ _ _ => sg 5 nd) (fun _ _ _ _ _ => sts_nil) (fun _ _ _ _ _ => s_call C__law_condition hr F__law_condition.m F__law_condition.k F__law_condition.b (sa_cons (sv 0) (sa_cons (sv 1) (sa_cons (s_op o_sub (sv 2) (s_int)) (sa_nil))))))
      (ss_cons (ss_ret (s_tup (sa_cons (s_ix x_ix (s_lst (sa_cons (s_str) (sa_cons (s_str) (sa_nil)))) (s_op o_mod (sv 3) (s_int))) (sa_cons (s_callT b_tuple T.b_tuple (sa_cons (sv 4) (sa_nil))) (sa_nil)))))
      (ss_nil)))))
theorem ok__law_condition (T : Txt K mg) {f__law_take : Addr} {fd__law_take : FuncData} {sp__law_take : CSp} (F__law_take : FnF K mg "_law_take" s__law_take f__law_take fd__law_take ["_law_pot_here", "_law_upto"]) (C__law_take : FnG P w K mg base L2.CX0 k f__law_take fd__law_take ["_law_pot_here", "_law_upto"] sp__law_take) {f__law_condition : Addr} {fd__law_condition : FuncData} {sp__law_condition : CSp} (F__law_condition : FnF K mg "_law_condition" s__law_condition f__law_condition fd__law_condition ["_law_pot_here", "_law_moduli", "_law_deep"]) (C__law_condition : FnG P w K mg base L2.CX0 k f__law_condition fd__law_condition ["_law_pot_here", "_law_moduli", "_law_deep"] sp__law_condition) {f__law_range : Addr} {fd__law_range : FuncData} {sp__law_range : CSp} (F__law_range : FnF K mg "_law_range" s__law_range f__law_range fd__law_range ["_law_pot_here", "_law_moduli"]) (C__law_range : FnG P w K mg base L2.CX0 k f__law_range fd__law_range ["_law_pot_here", "_law_moduli"] sp__law_range) {f : Addr} {fd : FuncData} {sp : CSp} (F : FnF K mg "_law_condition" s__law_condition f fd ["_law_pot_here", "_law_moduli", "_law_deep"]) (pl : PL N__law_condition ["_law_pot_here", "_law_moduli", "_law_deep"] sp (t__law_condition sp__law_take sp__law_condition sp__law_range)) : FnG P w K mg base L2.CX0 (k + 1) f fd ["_law_pot_here", "_law_moduli", "_law_deep"] sp :=
  fn_mk F.F sc__law_condition pl.mono pl.len (fun cdv A outer s H E hr => bd__law_condition T F__law_take C__law_take F__law_condition C__law_condition F__law_range C__law_range hr) pl.go
abbrev N__law_rules : List Str := ["_law_pot_here", "_law_moduli", "_law_left", "_law_some", "_law_turn", "_law_rows", "_law_deep", "_law_found"]
theorem sc__law_rules : FnScope N__law_rules ["_law_pot_here"] (defScope s__law_rules) := ⟨rfl, rfl, rfl, by decide +kernel, rfl, by decide +kernel, by decide +kernel⟩
def t__law_rules (sp__law_of sp__law_condition sp__law_take : CSp) : CS :=
  cSeq (cAsg (cCall sp__law_of X0 (cCons (cVar 0) (cCons (cLst (cCons (cLst (cCons (cC (.int 0)) (cNil))) (cCons (cLst (cCons (cC (.int 0)) (cCons (cC (.int 10)) (cNil)))) (cCons (cLst (cCons (cC (.int 0)) (cCons (cC (.int 0)) (cCons (cC (.int 10)) (cNil))))) (cCons (cLst (cCons (cC (.int 0)) (cCons (cC (.int 10)) (cCons (cC (.int 100)) (cNil))))) (cCons (cLst (cCons (cC (.int 10)) (cCons (cC (.int 100)) (cNil)))) (cCons (cLst (cCons (cC (.int 0)) (cCons (cC (.int 10)) (cCons (cC (.int 10)) (cCons (cC (.int 10)) (cCons (cC (.int 100)) (cCons (cC (.int 1000)) (cNil)))))))) (cNil)))))))) (cNil)))) (cgName 1))
      (cSeq (cAsg (cTup (cCons (cLstO (cCons (cC (.str "one")) (cCons (cC (.str "two")) (cCons (cC (.str "few")) (cCons (cC (.str "many")) (cCons (cC (.str "zero")) (cCons (cC (.str "other")) (cCons (cC (.str "a")) (cCons (cC (.str "lastform")) (cNil)))))))))) (cCons (cLstO (cNil)) (cNil)))) (cgTup 2 (cgCons (cgName 2) (cgCons (cgName 3) (cgNil)))))
      (cSeq (cFor (cRng1 (cCons (cOp cAdd (cC (.int 2)) (cCall sp__law_take X0 (cCons (cVar 0) (cCons (cC (.int 4)) (cNil))))) (cNil))) (cgName 4) (cSeq (cDrop (cBM "list" cAppend (cVar 3) (cCons (cBM "list" cPopAt (cVar 2) (cCons (cCall sp__law_take X0 (cCons (cVar 0) (cCons (cCB cLen (cCons (cVar 2) (cNil))) (cNil)))) (cNil))) (cNil))))
      (cNext)))
      (cSeq (cAsg (cTup (cCons (cCall sp__law_take X0 (cCons (cVar 0) (cCons (cC (.int 7)) (cNil)))) (cCons (cCall sp__law_of X0 (cCons (cVar 0) (cCons (cLst (cCons (cC (.int 1)) (cCons (cC (.int 2)) (cCons (cC (.int 3)) (cNil))))) (cNil)))) (cNil)))) (cgTup 2 (cgCons (cgName 5) (cgCons (cgName 6) (cgNil)))))
      (cSeq (cIfS (cB (cOp cGt (cVar 5) (cC (.int 3)))) (cSeq (cAsg (cCB cMin (cCons (cVar 6) (cCons (cC (.int 2)) (cNil)))) (cgName 6))
      (cNext)) (cNext))
      (cSeq (cAsg (cLc (cRng1 (cCons (cVar 5) (cNil))) (cgName 4) (cYes) (cTup (cCons (cCall sp__law_of X0 (cCons (cVar 0) (cCons (cVar 3) (cNil)))) (cCons (cCall sp__law_condition X0 (cCons (cVar 0) (cCons (cVar 1) (cCons (cVar 6) (cNil))))) (cNil)))) [4]) (cgName 7))
      (cSeq (cRet (cTup (cCons (cCB cTupleOf (cCons (cVar 7) (cNil))) (cCons (cCall sp__law_of X0 (cCons (cVar 0) (cCons (cVar 3) (cNil)))) (cNil)))))
      (cNext)))))))
theorem bd__law_rules (T : Txt K mg) {f__law_of : Addr} {fd__law_of : FuncData} {sp__law_of : CSp} (F__law_of : FnF K mg "_law_of" s__law_of f__law_of fd__law_of ["_law_pot_here", "_law_some"]) (C__law_of : FnG P w K mg base L2.CX0 k f__law_of fd__law_of ["_law_pot_here", "_law_some"] sp__law_of) {f__law_condition : Addr} {fd__law_condition : FuncData} {sp__law_condition : CSp} (F__law_condition : FnF K mg "_law_condition" s__law_condition f__law_condition fd__law_condition ["_law_pot_here", "_law_moduli", "_law_deep"]) (C__law_condition : FnG P w K mg base L2.CX0 k f__law_condition fd__law_condition ["_law_pot_here", "_law_moduli", "_law_deep"] sp__law_condition) {f__law_take : Addr} {fd__law_take : FuncData} {sp__law_take : CSp} (F__law_take : FnF K mg "_law_take" s__law_take f__law_take fd__law_take ["_law_pot_here", "_law_upto"]) (C__law_take : FnG P w K mg base L2.CX0 k f__law_take fd__law_take ["_law_pot_here", "_law_upto"] sp__law_take) {f : Addr} {cdv : Value} {A : Around} {outer : List PySem.Env} {s : Shared} {H : Hp} {E : XK} (hr : RoomG k (A.deeper (envOfC "_law_rules" (defScope s__law_rules) s.heap.objs.size f cdv))) :
    SSs (cxOf L2.CX0 P w K mg base N__law_rules "_law_rules" (defScope s__law_rules) f cdv A outer s H E).nox (defBody s__law_rules) (t__law_rules sp__law_of sp__law_condition sp__law_take) := by
  have nd : N__law_rules.Nodup := sc__law_rules.nd
  exact ss_cons (ss_set 1 nd (s_call C__law_of hr F__law_of.m F__law_of.k F__law_of.b (sa_cons (sv 0) (sa_cons (s_lst (sa_cons (s_lst (sa_cons (s_int) (sa_nil))) (sa_cons (s_lst (sa_cons (s_int) (sa_cons (s_int) (sa_nil)))) (sa_cons (s_lst (sa_cons (s_int) (sa_cons (s_int) (sa_cons (s_int) (sa_nil))))) (sa_cons (s_lst (sa_cons (s_int) (sa_cons (s_int) (sa_cons (s_int) (sa_nil))))) (sa_cons (s_lst (sa_cons (s_int) (sa_cons (s_int) (sa_nil)))) (sa_cons (s_lst (sa_cons (s_int) (sa_cons (s_int) (sa_cons (s_int) (sa_cons (s_int) (sa_cons (s_int) (sa_cons (s_int) (sa_nil)))))))) (sa_nil)))))))) (sa_nil)))))
      (ss_cons (ss_asg (s_tup (sa_cons (s_lstO (sa_cons (s_str) (sa_cons (s_str) (sa_cons (s_str) (sa_cons (s_str) (sa_cons (s_str) (sa_cons (s_str) (sa_cons (s_str) (sa_cons (s_str) (sa_nil)))))))))) (sa_cons (s_lstO (sa_nil)) (sa_nil)))) (sg_tup rfl (sgs_cons (sg 2 nd) (sgs_cons (sg 3 nd) (sgs_nil)))))
      (ss_cons (ss_for PassesOwn.never rfl (si_range1 rfl T.b_range (sa_cons (s_op o_add (s_int) (s_call C__law_take hr F__law_take.m F__law_take.k F__law_take.b (sa_cons (sv 0) (sa_cons (s_int) (sa_nil))))) (sa_nil))) (sg 4 nd) (ss_cons (ss_expr (s_bm PySem.F.plainAttrs_list PySem.F.slot_list_append m_append (sv 3) (sa_cons (s_bm PySem.F.plainAttrs_list PySem.F.slot_list_pop m_popAt (sv 2) (sa_cons (s_call C__law_take hr F__law_take.m F__law_take.k F__law_take.b (sa_cons (sv 0) (sa_cons (s_callB b_len T.b_len (sa_cons (sv 2) (sa_nil))) (sa_nil)))) (sa_nil)) PySem.F.type_list_pop) (sa_nil)) PySem.F.type_list_append))
      (ss_nil)))
      (ss_cons (ss_asg (s_tup (sa_cons (s_call C__law_take hr F__law_take.m F__law_take.k F__law_take.b (sa_cons (sv 0) (sa_cons (s_int) (sa_nil)))) (sa_cons (s_call C__law_of hr F__law_of.m F__law_of.k F__law_of.b (sa_cons (sv 0) (sa_cons (s_lst (sa_cons (s_int) (sa_cons (s_int) (sa_cons (s_int) (sa_nil))))) (sa_nil)))) (sa_nil)))) (sg_tup rfl (sgs_cons (sg 5 nd) (sgs_cons (sg 6 nd) (sgs_nil)))))
      (ss_cons (ss_if (st_cmp o_gt (sv 5) (s_int)) (ss_cons (ss_set 6 nd (s_callB (b_min rfl) T.b_min (sa_cons (sv 6) (sa_cons (s_int) (sa_nil)))))
      (ss_nil)) (ss_nil))
      (ss_cons (ss_setLc 7 rfl nd (si_range1 rfl T.b_range (sa_cons (sv 5) (sa_nil))) (own := [("_law_turn", 4)]) (blkOk_by (N := N__law_rules) (sc := defScope s__law_rules) (by decide +kernel)) (fun _ _ _ _ _ => sg 4 nd) (fun _ _ _ _ _ => sts_nil) (fun _ _ _ _ _ => s_tup (sa_cons (s_call C__law_of hr F__law_of.m F__law_of.k F__law_of.b (sa_cons (sv 0) (sa_cons (sv 3) (sa_nil)))) (sa_cons (s_call C__law_condition hr F__law_condition.m F__law_condition.k F__law_condition.b (sa_cons (sv 0) (sa_cons (sv 1) (sa_cons (sv 6) (sa_nil))))) (sa_nil)))))
      (ss_cons (ss_ret (s_tup (sa_cons (s_callT b_tuple T.b_tuple (sa_cons (sv 7) (sa_nil))) (sa_cons (s_call C__law_of hr F__law_of.m F__law_of.k F__law_of.b (sa_cons (sv 0) (sa_cons (sv 3) (sa_nil)))) (sa_nil)))))
      (ss_nil)))))))
theorem ok__law_rules (T : Txt K mg) {f__law_of : Addr} {fd__law_of : FuncData} {sp__law_of : CSp} (F__law_of : FnF K mg "_law_of" s__law_of f__law_of fd__law_of ["_law_pot_here", "_law_some"]) (C__law_of : FnG P w K mg base L2.CX0 k f__law_of fd__law_of ["_law_pot_here", "_law_some"] sp__law_of) {f__law_condition : Addr} {fd__law_condition : FuncData} {sp__law_condition : CSp} (F__law_condition : FnF K mg "_law_condition" s__law_condition f__law_condition fd__law_condition ["_law_pot_here", "_law_moduli", "_law_deep"]) (C__law_condition : FnG P w K mg base L2.CX0 k f__law_condition fd__law_condition ["_law_pot_here", "_law_moduli", "_law_deep"] sp__law_condition) {f__law_take : Addr} {fd__law_take : FuncData} {sp__law_take : CSp} (F__law_take : FnF K mg "_law_take" s__law_take f__law_take fd__law_take ["_law_pot_here", "_law_upto"]) (C__law_take : FnG P w K mg base L2.CX0 k f__law_take fd__law_take ["_law_pot_here", "_law_upto"] sp__law_take) {f : Addr} {fd : FuncData} {sp : CSp} (F : FnF K mg "_law_rules" s__law_rules f fd ["_law_pot_here"]) (pl : PL N__law_rules ["_law_pot_here"] sp (t__law_rules sp__law_of sp__law_condition sp__law_take)) : FnG P w K mg base L2.CX0 (k + 1) f fd ["_law_pot_here"] sp :=
  fn_mk F.F sc__law_rules pl.mono pl.len (fun cdv A outer s H E hr => bd__law_rules T F__law_of C__law_of F__law_condition C__law_condition F__law_take C__law_take hr) pl.go
abbrev N__law_is : List Str := ["_law_condition_here", "_law_number", "_law_word", "_law_spot", "_law_told", "_law_part"]
theorem sc__law_is : FnScope N__law_is ["_law_condition_here", "_law_number"] (defScope s__law_is) := ⟨rfl, rfl, rfl, by decide +kernel, rfl, by decide +kernel, by decide +kernel⟩
def t__law_is (sp__law_is : CSp) : CS :=
  cSeq (cAsg (cOp cIx (cVar 0) (cC (.int 0))) (cgName 2))
      (cSeq (cIfS (cB (cOp cEq (cVar 2) (cC (.str "in")))) (cSeq (cAsg (cIf (cB (cOp cEq (cOp cIx (cVar 0) (cC (.int 1))) (cC (.int 0)))) (cVar 1) (cOp cMod (cVar 1) (cOp cIx (cVar 0) (cC (.int 1))))) (cgName 3))
      (cSeq (cRet (cChain cLe cLe (cOp cIx (cVar 0) (cC (.int 2))) (cVar 3) (cOp cIx (cVar 0) (cC (.int 3)))))
      (cNext))) (cNext))
      (cSeq (cIfS (cB (cOp cEq (cVar 2) (cC (.str "not")))) (cSeq (cRet (cNotV (cCall sp__law_is X0 (cCons (cOp cIx (cVar 0) (cC (.int 1))) (cCons (cVar 1) (cNil))))))
      (cNext)) (cNext))
      (cSeq (cAsg (cLc (cSeqI (cOp cIx (cVar 0) (cC (.int 1)))) (cgName 5) (cYes) (cCall sp__law_is X0 (cCons (cVar 5) (cCons (cVar 1) (cNil)))) [5]) (cgName 4))
      (cSeq (cRet (cIf (cB (cOp cEq (cVar 2) (cC (.str "all")))) (cOp cNotIn (cC (.bl false)) (cVar 4)) (cOp cIn (cC (.bl true)) (cVar 4))))
      (cNext)))))
theorem bd__law_is (T : Txt K mg) {f__law_is : Addr} {fd__law_is : FuncData} {sp__law_is : CSp} (F__law_is : FnF K mg "_law_is" s__law_is f__law_is fd__law_is ["_law_condition_here", "_law_number"]) (C__law_is : FnG P w K mg base L2.CX0 k f__law_is fd__law_is ["_law_condition_here", "_law_number"] sp__law_is) {f : Addr} {cdv : Value} {A : Around} {outer : List PySem.Env} {s : Shared} {H : Hp} {E : XK} (hr : RoomG k (A.deeper (envOfC "_law_is" (defScope s__law_is) s.heap.objs.size f cdv))) :
    SSs (cxOf L2.CX0 P w K mg base N__law_is "_law_is" (defScope s__law_is) f cdv A outer s H E).nox (defBody s__law_is) (t__law_is sp__law_is) := by
  have nd : N__law_is.Nodup := sc__law_is.nd
  exact ss_cons (ss_set 2 nd (s_ix x_ix (sv 0) (s_int)))
      (ss_cons (ss_if (st_cmp (o_eq hr.u4) (sv 2) (s_str)) (ss_cons (ss_set 3 nd (s_ifExp (st_cmp (o_eq hr.u4) (s_ix x_ix (sv 0) (s_int)) (s_int)) (sv 1) (s_op o_mod (sv 1) (s_ix x_ix (sv 0) (s_int)))))
      (ss_cons (ss_ret (s_chain o_le o_le (s_ix x_ix (sv 0) (s_int)) (sv 3) (s_ix x_ix (sv 0) (s_int))))
      (ss_nil))) (ss_nil))
      (ss_cons (ss_if (st_cmp (o_eq hr.u4) (sv 2) (s_str)) (ss_cons (ss_ret (s_not (s_call C__law_is hr F__law_is.m F__law_is.k F__law_is.b (sa_cons (s_ix x_ix (sv 0) (s_int)) (sa_cons (sv 1) (sa_nil))))))
      (ss_nil)) (ss_nil))
      (ss_cons (ss_setLc 4 rfl nd (si_seq (s_ix x_ix (sv 0) (s_int))) (own := [("_law_part", 5)]) (blkOk_by (N := N__law_is) (sc := defScope s__law_is) (by decide +kernel)) (fun _ _ _ _ _ => sg 5 nd) (fun _ _ _ _ _ => sts_nil) (fun _ _ _ _ _ => s_call C__law_is hr F__law_is.m F__law_is.k F__law_is.b (sa_cons (sv 5) (sa_cons (sv 1) (sa_nil)))))
      (ss_cons (ss_ret (s_ifExp (st_cmp (o_eq hr.u4) (sv 2) (s_str)) (s_cmp o_notIn (s_bl) (sv 4)) (s_cmp o_in (s_bl) (sv 4))))
      (ss_nil)))))
theorem ok__law_is (T : Txt K mg) {f__law_is : Addr} {fd__law_is : FuncData} {sp__law_is : CSp} (F__law_is : FnF K mg "_law_is" s__law_is f__law_is fd__law_is ["_law_condition_here", "_law_number"]) (C__law_is : FnG P w K mg base L2.CX0 k f__law_is fd__law_is ["_law_condition_here", "_law_number"] sp__law_is) {f : Addr} {fd : FuncData} {sp : CSp} (F : FnF K mg "_law_is" s__law_is f fd ["_law_condition_here", "_law_number"]) (pl : PL N__law_is ["_law_condition_here", "_law_number"] sp (t__law_is sp__law_is)) : FnG P w K mg base L2.CX0 (k + 1) f fd ["_law_condition_here", "_law_number"] sp :=
  fn_mk F.F sc__law_is pl.mono pl.len (fun cdv A outer s H E hr => bd__law_is T F__law_is C__law_is hr) pl.go
abbrev N__law_form : List Str := ["_law_rules_here", "_law_number", "_law_form_here", "_law_condition_here"]
theorem sc__law_form : FnScope N__law_form ["_law_rules_here", "_law_number"] (defScope s__law_form) := ⟨rfl, rfl, rfl, by decide +kernel, rfl, by decide +kernel, by decide +kernel⟩
def t__law_form (sp__law_is : CSp) : CS :=
  cSeq (cFor (cSeqI (cOp cIx (cVar 0) (cC (.int 0)))) (cgTup 2 (cgCons (cgName 2) (cgCons (cgName 3) (cgNil)))) (cSeq (cIfS (cB (cCall sp__law_is X0 (cCons (cVar 3) (cCons (cVar 1) (cNil))))) (cSeq (cRet (cVar 2))
      (cNext)) (cNext))
      (cNext)))
      (cSeq (cRet (cOp cIx (cVar 0) (cC (.int 1))))
      (cNext))
theorem bd__law_form (T : Txt K mg) {f__law_is : Addr} {fd__law_is : FuncData} {sp__law_is : CSp} (F__law_is : FnF K mg "_law_is" s__law_is f__law_is fd__law_is ["_law_condition_here", "_law_number"]) (C__law_is : FnG P w K mg base L2.CX0 k f__law_is fd__law_is ["_law_condition_here", "_law_number"] sp__law_is) {f : Addr} {cdv : Value} {A : Around} {outer : List PySem.Env} {s : Shared} {H : Hp} {E : XK} (hr : RoomG k (A.deeper (envOfC "_law_form" (defScope s__law_form) s.heap.objs.size f cdv))) :
    SSs (cxOf L2.CX0 P w K mg base N__law_form "_law_form" (defScope s__law_form) f cdv A outer s H E).nox (defBody s__law_form) (t__law_form sp__law_is) := by
  have nd : N__law_form.Nodup := sc__law_form.nd
  exact ss_cons (ss_for PassesOwn.never rfl (si_seq (s_ix x_ix (sv 0) (s_int))) (sg_tup rfl (sgs_cons (sg 2 nd) (sgs_cons (sg 3 nd) (sgs_nil)))) (ss_cons (ss_if (st_val (s_call C__law_is hr F__law_is.m F__law_is.k F__law_is.b (sa_cons (sv 3) (sa_cons (sv 1) (sa_nil))))) (ss_cons (ss_ret (sv 2))
      (ss_nil)) (ss_nil))
      (ss_nil)))
      (ss_cons (ss_ret (s_ix x_ix (sv 0) (s_int)))
      (ss_nil))
theorem ok__law_form (T : Txt K mg) {f__law_is : Addr} {fd__law_is : FuncData} {sp__law_is : CSp} (F__law_is : FnF K mg "_law_is" s__law_is f__law_is fd__law_is ["_law_condition_here", "_law_number"]) (C__law_is : FnG P w K mg base L2.CX0 k f__law_is fd__law_is ["_law_condition_here", "_law_number"] sp__law_is) {f : Addr} {fd : FuncData} {sp : CSp} (F : FnF K mg "_law_form" s__law_form f fd ["_law_rules_here", "_law_number"]) (pl : PL N__law_form ["_law_rules_here", "_law_number"] sp (t__law_form sp__law_is)) : FnG P w K mg base L2.CX0 (k + 1) f fd ["_law_rules_here", "_law_number"] sp :=
  fn_mk F.F sc__law_form pl.mono pl.len (fun cdv A outer s H E hr => bd__law_form T F__law_is C__law_is hr) pl.go
abbrev N__law_far : List Str := ["_law_pot_here", "_law_edges", "_law_low", "_law_wide", "_law_way"]
theorem sc__law_far : FnScope N__law_far ["_law_pot_here", "_law_edges"] (defScope s__law_far) := ⟨rfl, rfl, rfl, by decide +kernel, rfl, by decide +kernel, by decide +kernel⟩
def t__law_far (sp__law_take : CSp) : CS :=
  cSeq (cAsg (cVar 1) (cgTup 2 (cgCons (cgName 2) (cgCons (cgName 3) (cgNil)))))
      (cSeq (cAsg (cCall sp__law_take X0 (cCons (cVar 0) (cCons (cC (.int 6)) (cNil)))) (cgName 4))
      (cSeq (cIfS (cB (cOp cLt (cVar 4) (cC (.int 2)))) (cSeq (cRet (cCall sp__law_take X0 (cCons (cVar 0) (cCons (cOp cAdd (cOp cAdd (cVar 2) (cVar 3)) (cC (.int 3))) (cNil)))))
      (cNext)) (cNext))
      (cSeq (cIfS (cB (cOp cEq (cVar 4) (cC (.int 2)))) (cSeq (cRet (cOp cAdd (cCB cMax (cCons (cC (.int 0)) (cCons (cOp cSub (cVar 2) (cC (.int 1))) (cNil)))) (cCall sp__law_take X0 (cCons (cVar 0) (cCons (cC (.int 3)) (cNil))))))
      (cNext)) (cNext))
      (cSeq (cIfS (cB (cOp cEq (cVar 4) (cC (.int 3)))) (cSeq (cRet (cOp cSub (cOp cPow (cC (.int 10)) (cC (.int 18))) (cCall sp__law_take X0 (cCons (cVar 0) (cCons (cC (.int 1200)) (cNil))))))
      (cNext)) (cNext))
      (cSeq (cRet (cOp cAdd (cOp cAdd (cVar 2) (cOp cMul (cVar 3) (cCall sp__law_take X0 (cCons (cVar 0) (cCons (cOp cPow (cC (.int 10)) (cC (.int 12))) (cNil)))))) (cCall sp__law_take X0 (cCons (cVar 0) (cCons (cVar 3) (cNil))))))
      (cNext))))))
theorem bd__law_far (T : Txt K mg) {f__law_take : Addr} {fd__law_take : FuncData} {sp__law_take : CSp} (F__law_take : FnF K mg "_law_take" s__law_take f__law_take fd__law_take ["_law_pot_here", "_law_upto"]) (C__law_take : FnG P w K mg base L2.CX0 k f__law_take fd__law_take ["_law_pot_here", "_law_upto"] sp__law_take) {f : Addr} {cdv : Value} {A : Around} {outer : List PySem.Env} {s : Shared} {H : Hp} {E : XK} (hr : RoomG k (A.deeper (envOfC "_law_far" (defScope s__law_far) s.heap.objs.size f cdv))) :
    SSs (cxOf L2.CX0 P w K mg base N__law_far "_law_far" (defScope s__law_far) f cdv A outer s H E).nox (defBody s__law_far) (t__law_far sp__law_take) := by
  have nd : N__law_far.Nodup := sc__law_far.nd
  exact ss_cons (ss_asg (sv 1) (sg_tup rfl (sgs_cons (sg 2 nd) (sgs_cons (sg 3 nd) (sgs_nil)))))
      (ss_cons (ss_set 4 nd (s_call C__law_take hr F__law_take.m F__law_take.k F__law_take.b (sa_cons (sv 0) (sa_cons (s_int) (sa_nil)))))
      (ss_cons (ss_if (st_cmp o_lt (sv 4) (s_int)) (ss_cons (ss_ret (s_call C__law_take hr F__law_take.m F__law_take.k F__law_take.b (sa_cons (sv 0) (sa_cons (s_op o_add (s_op o_add (sv 2) (sv 3)) (s_int)) (sa_nil)))))
      (ss_nil)) (ss_nil))
      (ss_cons (ss_if (st_cmp (o_eq hr.u4) (sv 4) (s_int)) (ss_cons (ss_ret (s_op o_add (s_callB (b_max rfl) T.b_max (sa_cons (s_int) (sa_cons (s_op o_sub (sv 2) (s_int)) (sa_nil)))) (s_call C__law_take hr F__law_take.m F__law_take.k F__law_take.b (sa_cons (sv 0) (sa_cons (s_int) (sa_nil))))))
      (ss_nil)) (ss_nil))
      (ss_cons (ss_if (st_cmp (o_eq hr.u4) (sv 4) (s_int)) (ss_cons (ss_ret (s_op o_sub (s_op o_pow (s_int) (s_int)) (s_call C__law_take hr F__law_take.m F__law_take.k F__law_take.b (sa_cons (sv 0) (sa_cons (s_int) (sa_nil))))))
      (ss_nil)) (ss_nil))
      (ss_cons (ss_ret (s_op o_add (s_op o_add (sv 2) (s_op o_mul (sv 3) (s_call C__law_take hr F__law_take.m F__law_take.k F__law_take.b (sa_cons (sv 0) (sa_cons (s_op o_pow (s_int) (s_int)) (sa_nil)))))) (s_call C__law_take hr F__law_take.m F__law_take.k F__law_take.b (sa_cons (sv 0) (sa_cons (sv 3) (sa_nil))))))
      (ss_nil))))))
theorem ok__law_far (T : Txt K mg) {f__law_take : Addr} {fd__law_take : FuncData} {sp__law_take : CSp} (F__law_take : FnF K mg "_law_take" s__law_take f__law_take fd__law_take ["_law_pot_here", "_law_upto"]) (C__law_take : FnG P w K mg base L2.CX0 k f__law_take fd__law_take ["_law_pot_here", "_law_upto"] sp__law_take) {f : Addr} {fd : FuncData} {sp : CSp} (F : FnF K mg "_law_far" s__law_far f fd ["_law_pot_here", "_law_edges"]) (pl : PL N__law_far ["_law_pot_here", "_law_edges"] sp (t__law_far sp__law_take)) : FnG P w K mg base L2.CX0 (k + 1) f fd ["_law_pot_here", "_law_edges"] sp :=
  fn_mk F.F sc__law_far pl.mono pl.len (fun cdv A outer s H E hr => bd__law_far T F__law_take C__law_take hr) pl.go
abbrev N__law_right : List Str := ["_law_pot_here", "_law_drawn", "_law_low", "_law_wide", "_law_rows", "_law_far_here", "_law_some", "_law_spot", "_law_place", "_law_at", "_law_turn"]
theorem sc__law_right : FnScope N__law_right ["_law_pot_here", "_law_drawn"] (defScope s__law_right) := ⟨rfl, rfl, rfl, by decide +kernel, rfl, by decide +kernel, by decide +kernel⟩
def t__law_right (sp__law_form sp_form_of sp__law_far sp__law_take sp_table sp_period sp_bound : CSp) : CS :=
  cSeq (cAsg (cTup (cCons (cCall sp_bound X0 (cCons (cVar 1) (cNil))) (cCons (cCall sp_period X0 (cCons (cVar 1) (cNil))) (cCons (cCall sp_table X0 (cCons (cVar 1) (cNil))) (cNil))))) (cgTup 3 (cgCons (cgName 2) (cgCons (cgName 3) (cgCons (cgName 4) (cgNil))))))
      (cSeq (cIfS (cB (cOp cNe (cCB cLen (cCons (cVar 4) (cNil))) (cOp cAdd (cVar 2) (cVar 3)))) (cSeq (cRet (cC (.bl false)))
      (cNext)) (cNext))
      (cSeq (cAsg (cOp cAdd (cVar 2) (cOp cMul (cVar 3) (cOp cAdd (cC (.int 1)) (cCall sp__law_take X0 (cCons (cVar 0) (cCons (cOp cPow (cC (.int 10)) (cC (.int 14))) (cNil))))))) (cgName 5))
      (cSeq (cAsg (cOp cAdd (cLc (cRng1 (cCons (cCB cMin (cCons (cVar 3) (cCons (cC (.int 100)) (cNil)))) (cNil))) (cgName 9) (cYes) (cOp cAdd (cVar 5) (cVar 9)) [9]) (cLc (cRng1 (cCons (cC (.int 20)) (cNil))) (cgName 10) (cYes) (cCall sp__law_far X0 (cCons (cVar 0) (cCons (cTup (cCons (cVar 2) (cCons (cVar 3) (cNil)))) (cNil)))) [10])) (cgName 6))
      (cSeq (cAsg (cOp cAdd (cVar 6) (cLst (cCons (cOp cPow (cC (.int 10)) (cC (.int 18))) (cCons (cOp cSub (cOp cPow (cC (.int 10)) (cC (.int 18))) (cC (.int 1))) (cCons (cVar 2) (cCons (cCB cMax (cCons (cC (.int 0)) (cCons (cOp cSub (cVar 2) (cC (.int 1))) (cNil)))) (cNil))))))) (cgName 6))
      (cSeq (cFor (cSeqI (cVar 6)) (cgName 7) (cSeq (cAsg (cIf (cB (cOp cLt (cVar 7) (cVar 2))) (cVar 7) (cOp cAdd (cVar 2) (cOp cMod (cOp cSub (cVar 7) (cVar 2)) (cVar 3)))) (cgName 8))
      (cSeq (cIfS (cOr (cB (cOp cNe (cCall sp_form_of X0 (cCons (cVar 1) (cCons (cVar 7) (cNil)))) (cOp cIx (cVar 4) (cVar 8)))) (cB (cOp cNe (cOp cIx (cVar 4) (cVar 8)) (cCall sp__law_form X0 (cCons (cVar 1) (cCons (cVar 7) (cNil))))))) (cSeq (cRet (cC (.bl false)))
      (cNext)) (cNext))
      (cNext))))
      (cSeq (cRet (cC (.bl true)))
      (cNext)))))))
theorem bd__law_right (T : Txt K mg) {f__law_form : Addr} {fd__law_form : FuncData} {sp__law_form : CSp} (F__law_form : FnF K mg "_law_form" s__law_form f__law_form fd__law_form ["_law_rules_here", "_law_number"]) (C__law_form : FnG P w K mg base L2.CX0 k f__law_form fd__law_form ["_law_rules_here", "_law_number"] sp__law_form) {f_form_of : Addr} {fd_form_of : FuncData} {sp_form_of : CSp} (F_form_of : FnF K mg "form_of" s_form_of f_form_of fd_form_of ["rules", "number"]) (C_form_of : FnG P w K mg base L2.CX0 k f_form_of fd_form_of ["rules", "number"] sp_form_of) {f__law_far : Addr} {fd__law_far : FuncData} {sp__law_far : CSp} (F__law_far : FnF K mg "_law_far" s__law_far f__law_far fd__law_far ["_law_pot_here", "_law_edges"]) (C__law_far : FnG P w K mg base L2.CX0 k f__law_far fd__law_far ["_law_pot_here", "_law_edges"] sp__law_far) {f__law_take : Addr} {fd__law_take : FuncData} {sp__law_take : CSp} (F__law_take : FnF K mg "_law_take" s__law_take f__law_take fd__law_take ["_law_pot_here", "_law_upto"]) (C__law_take : FnG P w K mg base L2.CX0 k f__law_take fd__law_take ["_law_pot_here", "_law_upto"] sp__law_take) {f_table : Addr} {fd_table : FuncData} {sp_table : CSp} (F_table : FnF K mg "table" s_table f_table fd_table ["rules"]) (C_table : FnG P w K mg base L2.CX0 k f_table fd_table ["rules"] sp_table) {f_period : Addr} {fd_period : FuncData} {sp_period : CSp} (F_period : FnF K mg "period" s_period f_period fd_period ["rules"]) (C_period : FnG P w K mg base L2.CX0 k f_period fd_period ["rules"] sp_period) {f_bound : Addr} {fd_bound : FuncData} {sp_bound : CSp} (F_bound : FnF K mg "bound" s_bound f_bound fd_bound ["rules"]) (C_bound : FnG P w K mg base L2.CX0 k f_bound fd_bound ["rules"] sp_bound) {f : Addr} {cdv : Value} {A : Around} {outer : List PySem.Env} {s : Shared} {H : Hp} {E : XK} (hr : RoomG k (A.deeper (envOfC "_law_right" (defScope s__law_right) s.heap.objs.size f cdv))) :
    SSs (cxOf L2.CX0 P w K mg base N__law_right "_law_right" (defScope s__law_right) f cdv A outer s H E).nox (defBody s__law_right) (t__law_right sp__law_form sp_form_of sp__law_far sp__law_take sp_table sp_period sp_bound) := by
  have nd : N__law_right.Nodup := sc__law_right.nd
  exact ss_cons (ss_asg (s_tup (sa_cons (s_call C_bound hr F_bound.m F_bound.k F_bound.b (sa_cons (sv 1) (sa_nil))) (sa_cons (s_call C_period hr F_period.m F_period.k F_period.b (sa_cons (sv 1) (sa_nil))) (sa_cons (s_call C_table hr F_table.m F_table.k F_table.b (sa_cons (sv 1) (sa_nil))) (sa_nil))))) (sg_tup rfl (sgs_cons (sg 2 nd) (sgs_cons (sg 3 nd) (sgs_cons (sg 4 nd) (sgs_nil))))))
      (ss_cons (ss_if (st_cmp (o_ne hr.u4) (s_callB b_len T.b_len (sa_cons (sv 4) (sa_nil))) (s_op o_add (sv 2) (sv 3))) (ss_cons (ss_ret (s_bl))
      (ss_nil)) (ss_nil))
      (ss_cons (ss_set 5 nd (s_op o_add (sv 2) (s_op o_mul (sv 3) (s_op o_add (s_int) (s_call C__law_take hr F__law_take.m F__law_take.k F__law_take.b (sa_cons (sv 0) (sa_cons (s_op o_pow (s_int) (s_int)) (sa_nil))))))))
      (ss_cons (ss_set 6 nd (s_op o_add (s_lc rfl nd (si_range1 rfl T.b_range (sa_cons (s_callB (b_min rfl) T.b_min (sa_cons (sv 3) (sa_cons (s_int) (sa_nil)))) (sa_nil))) (own := [("_law_at", 9)]) (blkOk_by (N := N__law_right) (sc := defScope s__law_right) (by decide +kernel)) (fun _ _ _ _ _ => sg 9 nd) (fun _ _ _ _ _ => sts_nil) (fun _ _ _ _ _ => s_op o_add (sv 5) (sv 9))) (s_lc rfl nd (si_range1 rfl T.b_range (sa_cons (s_int) (sa_nil))) (own := [("_law_turn", 10)]) (blkOk_by (N := N__law_right) (sc := defScope s__law_right) (by decide +kernel)) (fun _ _ _ _ _ => sg 10 nd) (fun _ _ _ _ _ => sts_nil) (fun _ _ _ _ _ => s_call C__law_far hr F__law_far.m F__law_far.k F__law_far.b (sa_cons (sv 0) (sa_cons (s_tup (sa_cons (sv 2) (sa_cons (sv 3) (sa_nil)))) (sa_nil)))))))
      (ss_cons (ss_set 6 nd (s_op o_add (sv 6) (s_lst (sa_cons (s_op o_pow (s_int) (s_int)) (sa_cons (s_op o_sub (s_op o_pow (s_int) (s_int)) (s_int)) (sa_cons (sv 2) (sa_cons (s_callB (b_max rfl) T.b_max (sa_cons (s_int) (sa_cons (s_op o_sub (sv 2) (s_int)) (sa_nil)))) (sa_nil))))))))
      (ss_cons (ss_for PassesOwn.never rfl (si_seq (sv 6)) (sg 7 nd) (ss_cons (ss_set 8 nd (s_ifExp (st_cmp o_lt (sv 7) (sv 2)) (sv 7) (s_op o_add (sv 2) (s_op o_mod (s_op o_sub (sv 7) (sv 2)) (sv 3)))))
      (ss_cons (ss_if (SW.st (sw_or (st_cmp (o_ne hr.u4) (s_call C_form_of hr F_form_of.m F_form_of.k F_form_of.b (sa_cons (sv 1) (sa_cons (sv 7) (sa_nil)))) (s_ix x_ix (sv 4) (sv 8))) (sw_or1 (st_cmp (o_ne hr.u4) (s_ix x_ix (sv 4) (sv 8)) (s_call C__law_form hr F__law_form.m F__law_form.k F__law_form.b (sa_cons (sv 1) (sa_cons (sv 7) (sa_nil)))))))) (ss_cons (ss_ret (s_bl))
      (ss_nil)) (ss_nil))
      (ss_nil))))
      (ss_cons (ss_ret (s_bl))
      (ss_nil)))))))
theorem ok__law_right (T : Txt K mg) {f__law_form : Addr} {fd__law_form : FuncData} {sp__law_form : CSp} (F__law_form : FnF K mg "_law_form" s__law_form f__law_form fd__law_form ["_law_rules_here", "_law_number"]) (C__law_form : FnG P w K mg base L2.CX0 k f__law_form fd__law_form ["_law_rules_here", "_law_number"] sp__law_form) {f_form_of : Addr} {fd_form_of : FuncData} {sp_form_of : CSp} (F_form_of : FnF K mg "form_of" s_form_of f_form_of fd_form_of ["rules", "number"]) (C_form_of : FnG P w K mg base L2.CX0 k f_form_of fd_form_of ["rules", "number"] sp_form_of) {f__law_far : Addr} {fd__law_far : FuncData} {sp__law_far : CSp} (F__law_far : FnF K mg "_law_far" s__law_far f__law_far fd__law_far ["_law_pot_here", "_law_edges"]) (C__law_far : FnG P w K mg base L2.CX0 k f__law_far fd__law_far ["_law_pot_here", "_law_edges"] sp__law_far) {f__law_take : Addr} {fd__law_take : FuncData} {sp__law_take : CSp} (F__law_take : FnF K mg "_law_take" s__law_take f__law_take fd__law_take ["_law_pot_here", "_law_upto"]) (C__law_take : FnG P w K mg base L2.CX0 k f__law_take fd__law_take ["_law_pot_here", "_law_upto"] sp__law_take) {f_table : Addr} {fd_table : FuncData} {sp_table : CSp} (F_table : FnF K mg "table" s_table f_table fd_table ["rules"]) (C_table : FnG P w K mg base L2.CX0 k f_table fd_table ["rules"] sp_table) {f_period : Addr} {fd_period : FuncData} {sp_period : CSp} (F_period : FnF K mg "period" s_period f_period fd_period ["rules"]) (C_period : FnG P w K mg base L2.CX0 k f_period fd_period ["rules"] sp_period) {f_bound : Addr} {fd_bound : FuncData} {sp_bound : CSp} (F_bound : FnF K mg "bound" s_bound f_bound fd_bound ["rules"]) (C_bound : FnG P w K mg base L2.CX0 k f_bound fd_bound ["rules"] sp_bound) {f : Addr} {fd : FuncData} {sp : CSp} (F : FnF K mg "_law_right" s__law_right f fd ["_law_pot_here", "_law_drawn"]) (pl : PL N__law_right ["_law_pot_here", "_law_drawn"] sp (t__law_right sp__law_form sp_form_of sp__law_far sp__law_take sp_table sp_period sp_bound)) : FnG P w K mg base L2.CX0 (k + 1) f fd ["_law_pot_here", "_law_drawn"] sp :=
  fn_mk F.F sc__law_right pl.mono pl.len (fun cdv A outer s H E hr => bd__law_right T F__law_form C__law_form F_form_of C_form_of F__law_far C__law_far F__law_take C__law_take F_table C_table F_period C_period F_bound C_bound hr) pl.go
abbrev N_law : List Str := ["_law_script", "_law_k", "_law_pot_here", "_law_turn"]
theorem sc_law : FnScope N_law ["_law_script"] (defScope s_law) := ⟨rfl, rfl, rfl, by decide +kernel, rfl, by decide +kernel, by decide +kernel⟩
def t_law (sp__law_right sp__law_rules sp__law_pot : CSp) : CS :=
  cSeq (cFor (cRng1 (cCons (cCB cMax (cCons (cC (.int 1)) (cCons (cCB cMin (cCons (cC (.int 3)) (cCons (cCB cLen (cCons (cVar 0) (cNil))) (cNil)))) (cNil)))) (cNil))) (cgName 1) (cSeq (cAsg (cCall sp__law_pot X0 (cCons (cVar 0) (cCons (cVar 1) (cNil)))) (cgName 2))
      (cSeq (cIfS (cNot (cB (cCB cAll (cCons (cLc (cRng1 (cCons (cC (.int 6)) (cNil))) (cgName 3) (cYes) (cCall sp__law_right X0 (cCons (cVar 2) (cCons (cCall sp__law_rules X0 (cCons (cVar 2) (cNil))) (cNil)))) [3]) (cNil))))) (cSeq (cRet (cC (.bl false)))
      (cNext)) (cNext))
      (cNext))))
      (cSeq (cRet (cC (.bl true)))
      (cNext))
theorem bd_law (T : Txt K mg) {f__law_right : Addr} {fd__law_right : FuncData} {sp__law_right : CSp} (F__law_right : FnF K mg "_law_right" s__law_right f__law_right fd__law_right ["_law_pot_here", "_law_drawn"]) (C__law_right : FnG P w K mg base L2.CX0 k f__law_right fd__law_right ["_law_pot_here", "_law_drawn"] sp__law_right) {f__law_rules : Addr} {fd__law_rules : FuncData} {sp__law_rules : CSp} (F__law_rules : FnF K mg "_law_rules" s__law_rules f__law_rules fd__law_rules ["_law_pot_here"]) (C__law_rules : FnG P w K mg base L2.CX0 k f__law_rules fd__law_rules ["_law_pot_here"] sp__law_rules) {f__law_pot : Addr} {fd__law_pot : FuncData} {sp__law_pot : CSp} (F__law_pot : FnF K mg "_law_pot" s__law_pot f__law_pot fd__law_pot ["_law_script", "_law_k"]) (C__law_pot : FnG P w K mg base L2.CX0 k f__law_pot fd__law_pot ["_law_script", "_law_k"] sp__law_pot) {f : Addr} {cdv : Value} {A : Around} {outer : List PySem.Env} {s : Shared} {H : Hp} {E : XK} (hr : RoomG k (A.deeper (envOfC "law" (defScope s_law) s.heap.objs.size f cdv))) :
    SSs (cxOf L2.CX0 P w K mg base N_law "law" (defScope s_law) f cdv A outer s H E).nox (defBody s_law) (t_law sp__law_right sp__law_rules sp__law_pot) := by
  have nd : N_law.Nodup := sc_law.nd
  exact ss_cons (ss_for PassesOwn.never rfl (si_range1 rfl T.b_range (sa_cons (s_callB (b_max rfl) T.b_max (sa_cons (s_int) (sa_cons (s_callB (b_min rfl) T.b_min (sa_cons (s_int) (sa_cons (s_callB b_len T.b_len (sa_cons (sv 0) (sa_nil))) (sa_nil)))) (sa_nil)))) (sa_nil))) (sg 1 nd) (ss_cons (ss_set 2 nd (s_call C__law_pot hr F__law_pot.m F__law_pot.k F__law_pot.b (sa_cons (sv 0) (sa_cons (sv 1) (sa_nil)))))
      (ss_cons (ss_if (st_not (st_val (s_callB (b_all rfl) T.b_all (sa_cons (s_lc rfl nd (si_range1 rfl T.b_range (sa_cons (s_int) (sa_nil))) (own := [("_law_turn", 3)]) (blkOk_by (N := N_law) (sc := defScope s_law) (by decide +kernel)) (fun _ _ _ _ _ => sg 3 nd) (fun _ _ _ _ _ => sts_nil) (fun _ _ _ _ _ => s_call C__law_right hr F__law_right.m F__law_right.k F__law_right.b (sa_cons (sv 2) (sa_cons (s_call C__law_rules hr F__law_rules.m F__law_rules.k F__law_rules.b (sa_cons (sv 2) (sa_nil))) (sa_nil))))) (sa_nil))))) (ss_cons (ss_ret (s_bl))
      (ss_nil)) (ss_nil))
      (ss_nil))))
      (ss_cons (ss_ret (s_bl))
      (ss_nil))
theorem ok_law (T : Txt K mg) {f__law_right : Addr} {fd__law_right : FuncData} {sp__law_right : CSp} (F__law_right : FnF K mg "_law_right" s__law_right f__law_right fd__law_right ["_law_pot_here", "_law_drawn"]) (C__law_right : FnG P w K mg base L2.CX0 k f__law_right fd__law_right ["_law_pot_here", "_law_drawn"] sp__law_right) {f__law_rules : Addr} {fd__law_rules : FuncData} {sp__law_rules : CSp} (F__law_rules : FnF K mg "_law_rules" s__law_rules f__law_rules fd__law_rules ["_law_pot_here"]) (C__law_rules : FnG P w K mg base L2.CX0 k f__law_rules fd__law_rules ["_law_pot_here"] sp__law_rules) {f__law_pot : Addr} {fd__law_pot : FuncData} {sp__law_pot : CSp} (F__law_pot : FnF K mg "_law_pot" s__law_pot f__law_pot fd__law_pot ["_law_script", "_law_k"]) (C__law_pot : FnG P w K mg base L2.CX0 k f__law_pot fd__law_pot ["_law_script", "_law_k"] sp__law_pot) {f : Addr} {fd : FuncData} {sp : CSp} (F : FnF K mg "law" s_law f fd ["_law_script"]) (pl : PL N_law ["_law_script"] sp (t_law sp__law_right sp__law_rules sp__law_pot)) : FnG P w K mg base L2.CX0 (k + 1) f fd ["_law_script"] sp :=
  fn_mk F.F sc_law pl.mono pl.len (fun cdv A outer s H E hr => bd_law T F__law_right C__law_right F__law_rules C__law_rules F__law_pot C__law_pot hr) pl.go
end Lw

set_option Elab.async false
set_option linter.all false
set_option maxRecDepth 100000
set_option maxHeartbeats 2000000
namespace Lw
open PySem PySem.Spec PyProof.Rows L2 CL
local macro_rules | `(tactic| fail) => `(tactic| with_reducible first
  | refine y_seq ?_ | refine x_asg ?_ | refine x_op ?_ | refine x_var (by with_unfolding_all rfl) ?_ | refine x_c ?_ | refine x_name ?_ | refine x_ccons ?_ | refine x_cnil ?_ | refine x_ret ?_ | refine x_if ?_ | refine x_cB ?_ | refine x_kB ?_ 
  | refine x_i2 trivial ?_ | refine x_addI ?_ | refine x_eqS ?_ | refine x_eqI ?_ 
  | refine x_ixR (by first | assumption | exact Sto.set_same) (by with_unfolding_all rfl) ?_ | refine x_ixL (by with_unfolding_all rfl) ?_ | refine x_ixT (by with_unfolding_all rfl) ?_
  | refine x_cT ?_ | refine x_cF ?_ | refine x_cD (fun _ => ?_) (fun _ => ?_) | refine x_cN ?_ | refine x_ifE ?_
  | refine x_tup ?_ | refine x_lst ?_ | refine x_lstO ?_ | refine x_kTup (by with_unfolding_all exact Nat.le_of_ble_eq_true rfl) ?_ | refine x_kLst (by with_unfolding_all exact Nat.le_of_ble_eq_true rfl) ?_ | refine x_kLstO (by with_unfolding_all exact Nat.le_of_ble_eq_true rfl) (fun _ _ => ?_) | refine x_call ?_ | refine x_cb2 ?_ | refine x_ckw ?_ | refine x_lenL ?_ | refine x_lenT ?_ | refine x_lenS ?_
  | refine x_abs ?_ | refine x_intI ?_ | refine x_intB ?_ | refine x_max2 ?_ | refine x_min2 ?_ | refine x_tupleL ?_ | refine x_tupleT ?_ | refine x_next ?_ | refine x_drop ?_ | refine x_setK ?_ | refine x_kSet (by first | assumption | exact Sto.set_same) (by with_unfolding_all rfl) ?_
  | refine x_and ?_ | refine x_or ?_ | refine x_not ?_ | refine x_andV ?_ | refine x_orV ?_ | refine x_chain ?_ | refine x_un ?_ | refine x_neg ?_ | refine x_gtup (by with_unfolding_all rfl) ?_ | refine x_gcons ?_ | refine x_gnil ?_
  | refine x_yes ?_ | refine x_iteT ?_ | refine x_iteF ?_ | refine x_iteD (fun _ => ?_) (fun _ => ?_) | refine x_iteN ?_ | refine x_seqI ?_ | refine x_kSeqT ?_ | refine x_kSeqL ?_ | refine x_enumI ?_ | refine x_kEnumT ?_ | refine x_kEnumL ?_ | refine x_notV ?_ | refine x_rng1 ?_ | refine x_rng2 ?_ | refine x_kRng1 (by omega) ?_ | refine x_kRng2 (by omega) ?_ | refine x_lc ?_ | refine x_lc2 ?_ | refine x_lcO ?_ | refine x_for ?_ | refine x_bmK ?_ | refine x_kBM (by first | assumption | exact Sto.set_same) ?_ | refine x_append (by first | assumption | exact Sto.set_same) ?_ ?_ | refine x_extendL (by first | assumption | exact Sto.set_same) ?_ ?_ | refine x_popAt (by first | assumption | exact Sto.set_same) ?_ ?_ ?_ | refine x_maxD (asInts_map _) ?_ | refine x_minD (asInts_map _) ?_
  | refine x_i2 (by first | assumption | omega) ?_ | refine x_i2 ?_ ?_)
local macro_rules | `(tactic| ac_rfl) => `(tactic| with_reducible first
  | refine NB.v1 (by omega) | exact nb60 | exact nb10 | exact nb300 | exact p300 | refine mulW1 ?_ ?_ | refine cpw1 ?_ | refine divW1 ?_ (by omega)
  | refine NB.mod (by omega) ?_ | refine NB.mul1 ?_ ?_ | refine NB.add1 ?_ ?_ | refine NB.sub1 ?_ ?_ | refine NB.div (by omega) ?_ | refine NB.abs ?_ | refine NB.pow1 ?_ | assumption)
local macro_rules | `(tactic| trivial) => `(tactic| first | exact mkSp_mono | with_reducible first
  | exact mo_var | exact cInB_mono | refine mo_notV ?_ | refine mo_enumI ?_ | exact mo_c | refine cOp_mono ?_ ?_ ?_ | exact cI2_mono | exact cAdd_mono | exact cEqB_mono | exact cIsN_mono | exact cIx_mono | refine cB_mono ?_ | refine mo_un mo_neg ?_ | refine cAnd_mono ?_ ?_ | refine cOr_mono ?_ ?_ | refine mo_not ?_ | refine mo_andV ?_ ?_ | refine mo_orV ?_ ?_ | refine mo_if ?_ ?_ ?_ | refine mo_chain ?_ ?_ ?_ ?_ ?_
  | exact mo_nil | refine mo_cons ?_ ?_ | refine mo_tup ?_ | refine mo_lst ?_ | refine mo_lstO ?_ | refine mo_seqI ?_ | refine mo_rng1 ?_ | refine mo_rng2 ?_ | refine mo_lc ?_ ?_ ?_ ?_ | refine mo_lcO ?_ ?_ ?_ ?_ | refine mo_lc2 ?_ ?_ ?_ ?_ ?_ ?_ ?_ | exact cYes_mono | exact mo_gname | exact mo_gnil | refine mo_gcons ?_ ?_ | refine mo_gtup ?_
  | exact mo_next | refine mo_ret ?_ | exact mo_retN | refine mo_drop ?_ | refine mo_ifS ?_ ?_ ?_ | refine mo_for ?_ ?_ ?_ | exact mo_break | exact mo_cont | refine mo_aug ?_ ?_ | refine mo_setL ?_ ?_ ?_ | refine mo_par ?_ | refine cSeq_mono ?_ ?_ | refine cAsg_mono ?_ ?_ | refine cCB_mono ?_ ?_ | exact mo_len | exact mo_abs | exact mo_int | exact cMax_mono | exact cMin_mono | exact mo_sum | exact cBools_mono | exact mo_tuple | exact mo_repr
  | refine mo_ckw ?_ ?_ ?_ | exact cMaxD_mono | exact cMinD_mono | refine cBM_mono ?_ ?_ ?_ | exact mo_append | exact mo_extend | exact mo_popAt | refine mo_call ?_ ?_ | assumption)
theorem pl__law_take : PL N__law_take ["_law_pot_here", "_law_upto"] spTake t__law_take := by
  refine PL.mk2 (fun us S R ⟨p, u, b, e, _⟩ => by rw [e]; rfl) ?_
  rintro us S R Q ⟨p, u, b, rfl, ⟨o, s, n, e, o0, o1, s0, s1, n0, n1⟩, hb, hu, hu2, rfl⟩ q
  have hb' : n < 1000000000 := by unfold bMax at hb; omega
  show t__law_take _ [some (.ref p), some (.int u), none, none, none] S
  unfold t__law_take
  repeat' fail
  · refine divW_nb (NB.v (by omega)) hu (by decide)
  · refine hand_id (S := S) (q _ _ ⟨_, rfl, Int.emod_nonneg _ (by omega), Int.emod_lt_of_pos _ hu, Off.set, ?_⟩)
    refine ⟨o / u, s, n, Sto.set_same, Int.ediv_nonneg o0 (by omega), Int.lt_of_le_of_lt (Int.ediv_le_self u o0) o1, s0, s1, n0, by omega⟩
  · refine x_ixM (by omega) (by show _ < (5 : Int); omega) fun v hv => ?_
    obtain ⟨j, rfl, j0, j1⟩ : ∃ j : Int, v = .int j ∧ 0 < j ∧ j < 2 ^ 40 := by
      revert hv; revert v; simp
    repeat' fail
    all_goals (repeat' ac_rfl)
    refine hand_id (S := S) (q _ _ ⟨_, rfl, Int.emod_nonneg _ (by omega), Int.emod_lt_of_pos _ hu, Off.set, ?_⟩)
    exact ⟨o, s, n + 1, Sto.set_same, o0, o1, s0, s1, by omega, by omega⟩
theorem pl__law_pot : PL N__law_pot ["_law_script", "_law_k"] spPot t__law_pot := by
  refine PL.mk2 (fun us S R ⟨ns, k, e, _⟩ => by rw [e]; rfl) ?_
  rintro us S R Q ⟨ns, k, rfl, k0, k1, rfl⟩ q
  show t__law_pot _ [some (.scr (ns.map Cv.int)), some (.int k), none, none] S
  unfold t__law_pot
  have q' : ∀ (p : Addr) (o s : Int), S p = none → 0 ≤ o → o < 10 ^ 300 → 0 ≤ s → s < 2 ^ 61 → Q (.ref p) (S.set p (.lst [.int o, .int s, .int 0])) :=
    fun p o s hp h1 h2 h3 h4 => q _ _ ⟨p, rfl, hp, Off.set, o, s, 0, Sto.set_same, h1, h2, h3, h4, by omega, by omega⟩
  repeat' fail
  all_goals first | refine x_ixScr k0 (by simp at *; omega) fun c _ => ?_ | skip
  repeat' fail
  all_goals (repeat' ac_rfl)
  all_goals exact hand_id (S := S) (q' _ _ _ (by assumption) (pot_own p300 p300le).1 (pot_own p300 p300le).2 (by omega) (by omega))
theorem pl__law_of : PL N__law_of ["_law_pot_here", "_law_some"] spOf (t__law_of spTake) := by
  refine PL.mk2 (fun us S R ⟨p, w, xs, b, e, _⟩ => by rw [e]; rfl) ?_
  rintro us S R Q ⟨p, w, xs, b, rfl, hw, hd, hx, hl, hp, hb, rfl⟩ q
  show t__law_of _ _ [some (.ref p), some w] S
  have hpos : 0 < xs.length := List.length_pos_iff.mpr hx
  have hs : ∀ z, w ≠ .str z := fun z e => by rw [e] at hd; simp [deref] at hd
  unfold t__law_of
  repeat' fail
  refine x_lenD hs hd ?_
  repeat' fail
  refine x_take hp hb (by omega) (by omega) fun r S' r0 r1 o hp' => ?_
  have hd' : deref w S' = some (.lst xs) := by
    cases w with
    | ref a => simp only [deref] at hd ⊢; rw [o a (fun e => hw (by rw [e]))]; exact hd
    | _ => exact hd
  obtain ⟨v, hv, ev⟩ := atI_mem r0 r1
  refine x_ixD hs hd' ev ?_
  exact hand_id (S := S) (q _ _ ⟨hv, o, hp'⟩)
theorem pl_ins_of (d : Nat) : PL N_ins_of ["condition"] (spIns (d + 1)) (t_ins_of (spIns d)) := by
  refine PL.mk2 (fun us S R ⟨c, e, _⟩ => by rw [e]; rfl) ?_
  rintro us S R Q ⟨c, rfl, hd, hl, rfl⟩ q
  show t_ins_of _ _ [some (enc c), none, none] S
  unfold t_ins_of
  cases c with
  | rg m lo hi =>
    simp only [enc]
    repeat' fail
    · exact hand_id (S := S) (q _ _ ⟨rfl, rfl⟩)
    all_goals exact absurd rfl (by assumption)
  | no c =>
    simp only [enc]
    repeat' fail
    · exact absurd (by assumption : ("not" : Str) = "in") (by decide)
    · refine x_ins (by rw [dp] at hd; omega) (by simpa only [ins] using hl) ?_
      exact hand_id (S := S) (q _ _ ⟨by simp only [ins], rfl⟩)
    · exact absurd rfl (by assumption)
  | al b cs =>
    simp only [enc]
    have ne1 : ¬ ((if b = true then "all" else "any" : Str) = "in") := by cases b <;> decide
    have ne2 : ¬ ((if b = true then "all" else "any" : Str) = "not") := by cases b <;> decide
    repeat' fail
    · exact absurd (by assumption) ne1
    · exact absurd (by assumption) ne2
    · rw [encs_map]
      rw [ins, inss_map] at hl
      refine lc2_map (α := Cd) cs enc (fun c => (ins c).map eIn) trivial [] (by simpa [List.length_flatMap, Function.comp_def] using hl) (fun c hc acc R hlen h => ?_) ?_
      · repeat' fail
        refine x_ins (by have := dps_mem hc; rw [dp] at hd; omega) (by simpa using Nat.le_trans (Nat.le_add_left _ _) hlen) ?_
        refine x_kSeqL ?_
        exact lc_all (ins c) eIn eIn trivial acc (by simpa using hlen) (fun a _ R h => h) (fun _ _ _ _ _ f h => f _ _ h) h
      · refine hand_id (S := S) (q _ _ ⟨?_, rfl⟩)
        rw [ins, inss_map, List.map_flatMap]; rfl

theorem pl_all_ins (d : Nat) : PL N_all_ins ["rules"] (spAllIns d) (t_all_ins (spIns d)) := by
  refine PL.mk2 (fun us S R ⟨r, e, _⟩ => by rw [e]; rfl) ?_
  rintro us S R Q ⟨r, rfl, hd, hl, rfl⟩ q
  show t_all_ins _ _ [some (eR r), none, none, none] S
  unfold t_all_ins eR
  repeat' fail
  refine lc2_map r.rows eRow (fun x => (ins x.2).map eIn) trivial [] ?_ (fun x hx acc R hlen h => ?_) ?_
  · simpa [insR, List.length_flatMap, Function.comp_def] using hl
  · unfold eRow
    repeat' fail
    refine x_ins (hd x hx) (by simpa using Nat.le_trans (Nat.le_add_left _ _) hlen) ?_
    refine x_kSeqL ?_
    exact lc_all (ins x.2) eIn eIn trivial acc (by simpa using hlen) (fun a _ R h => h) (fun _ _ _ _ _ f h => f _ _ h) h
  · refine hand_id (S := S) (q _ _ ⟨?_, rfl⟩)
    rw [insR, List.map_flatMap]; rfl
theorem pl_bound (d : Nat) : PL N_bound ["rules"] (spBound d) (t_bound (spAllIns d)) := by
  refine PL.mk2 (fun us S R ⟨r, e, _⟩ => by rw [e]; rfl) ?_
  rintro us S R Q ⟨r, rfl, hd, hl, rfl⟩ q
  show t_bound _ _ [some (eR r), none, none, none, none] S
  unfold t_bound
  repeat' fail
  refine x_allIns hd hl ?_
  refine x_kSeqL ?_
  refine lc_map (insR r) eIn (fun x => if x.1 = 0 then some (.int (x.2.2 + 1)) else none) trivial [] (by simpa using hl) (fun a _ R R' h1 h2 => ?_) ?_
  · unfold eIn
    repeat' fail
    · exact h1 _ (if_pos (by assumption))
    · exact h2 (if_neg (by assumption))
  · have e : (insR r).filterMap (fun x => if x.1 = 0 then some (Cv.int (x.2.2 + 1)) else none) = ((insR r).filterMap fun x => if x.1 = 0 then some (x.2.2 + 1) else none).map Cv.int := by
      rw [List.map_filterMap]; congr 1; funext x; split <;> rfl
    rw [List.nil_append, e]
    repeat' fail
    refine hand_id (S := S) (q _ _ ⟨?_, rfl⟩)
    unfold bnd
    generalize List.filterMap _ _ = l
    cases l <;> rfl
theorem pl_period (d : Nat) : PL N_period ["rules"] (spPeriod d) (t_period (spAllIns d)) := by
  refine PL.mk2 (fun us S R ⟨r, e, _⟩ => by rw [e]; rfl) ?_
  rintro us S R Q ⟨r, rfl, hd, hl, rfl⟩ q
  show t_period _ _ [some (eR r), none, none, none, none] S
  unfold t_period
  repeat' fail
  refine x_allIns hd hl ?_
  refine x_kSeqL ?_
  refine lc_map (insR r) eIn (fun x => if 0 < x.1 then some (.int x.1) else none) trivial [] (by simpa using hl) (fun a _ R R' h1 h2 => ?_) ?_
  · unfold eIn
    repeat' fail
    · exact h1 _ (if_pos (by assumption))
    · exact h2 (if_neg (by assumption))
  · have e : (insR r).filterMap (fun x => if 0 < x.1 then some (Cv.int x.1) else none) = ((insR r).filterMap fun x => if 0 < x.1 then some x.1 else none).map Cv.int := by
      rw [List.map_filterMap]; congr 1; funext x; split <;> rfl
    rw [List.nil_append, e]
    repeat' fail
    refine hand_id (S := S) (q _ _ ⟨?_, rfl⟩)
    unfold prd
    generalize List.filterMap _ _ = l
    cases l <;> rfl
theorem pl__law_range : PL N__law_range ["_law_pot_here", "_law_moduli"] spRange (t__law_range spOf spTake) := by
  refine PL.mk2 (fun us S R ⟨p, ms, b, e, _⟩ => by rw [e]; rfl) ?_
  rintro us S R Q ⟨p, ms, b, rfl, ⟨m0, m1, m2⟩, hp, hb, rfl⟩ q
  show t__law_range _ _ _ [some (.ref p), some (.lst (ms.map Cv.int)), none, none, none] S
  unfold t__law_range
  repeat' fail
  refine x_ofL hp (by omega) (by simpa using m0) (by simp; omega) fun v S1 hv o1 hp1 => ?_
  obtain ⟨m, hm, rfl⟩ := List.mem_map.mp hv
  have mm := m2 m hm
  have ma : 0 ≤ m := by omega
  have mb : m ≤ 1000 := by omega
  have fin : ∀ (t : Int) (S2 : Sto), 0 ≤ t → t < 5000 → (0 < m → t = m - 1) → Off S S2 p → Pot S2 p (b + 2) → cSeq (cAsg (cCall spTake X0 (cCons (cVar 0) (cCons (cOp cAdd (cVar 3) (cC (.int 1))) (cNil)))) (cgName 4)) (cSeq (cRet (cTup (cCons (cC (.str "in")) (cCons (cVar 2) (cCons (cVar 4) (cCons (cCB cMin (cCons (cVar 3) (cCons (cOp cAdd (cVar 4) (cCall spOf X0 (cCons (cVar 0) (cCons (cLst (cCons (cC (.int 0)) (cCons (cC (.int 0)) (cCons (cC (.int 1)) (cCons (cC (.int 2)) (cCons (cCall spTake X0 (cCons (cVar 0) (cCons (cOp cAdd (cVar 3) (cC (.int 1))) (cNil)))) (cNil))))))) (cNil))))) (cNil)))) (cNil))))))) cNext)
      ⟨fun _ S' => Hand S .non S' Q, fun w S' => Hand S w S' Q, fun _ _ => False, fun _ _ => False⟩ [some (.ref p), some (.lst (ms.map Cv.int)), some (.int m), some (.int t), none] S2 := by
    intro t S2 t0 t1 tm o2 hp2
    repeat' fail
    refine x_take hp2 (by omega) (by omega) (by omega) fun l S3 l0 l1 o3 hp3 => ?_
    repeat' fail
    refine x_take hp3 (by omega) (by omega) (by omega) fun l' S4 l0' l1' o4 hp4 => ?_
    repeat' fail
    refine x_ofL hp4 (by omega) (by simp) (by simp) fun v5 S5 hv5 o5 hp5 => ?_
    obtain ⟨y, rfl, y0⟩ : ∃ j : Int, v5 = .int j ∧ 0 ≤ j := by
      revert hv5; revert v5; simp; omega
    repeat' fail
    refine hand_id (S := S) (q _ _ ⟨(m, l, min t (l + y)), rfl, ⟨ma, by show m < 5000; omega, l0, by show l < 5000; omega, by show 0 ≤ min t (l + y); omega, by show min t (l + y) < 5000; omega, mm, by show l ≤ min t (l + y); omega, fun z => by show min t (l + y) < m; have := tm z; omega⟩, ((((o2.trans o3).trans o4).trans o5)), hp5.mono (by omega)⟩)
  repeat' fail
  · exact fin (m - 1) S1 (by omega) (by omega) (fun _ => rfl) o1 (hp1.mono (by omega))
  · refine x_ofL hp1 (by omega) (by simp) (by simp) fun v2 S2 hv2 o2 hp2 => ?_
    obtain ⟨y, rfl, y0, y1⟩ : ∃ j : Int, v2 = .int j ∧ 0 ≤ j ∧ j < 5000 := by
      revert hv2; revert v2; simp
    refine x_name ?_
    exact fin y S2 y0 y1 (fun z => absurd z (by assumption)) (o1.trans o2) (hp2.mono (by omega))
theorem pl__law_condition (d : Nat) : PL N__law_condition ["_law_pot_here", "_law_moduli", "_law_deep"] (spCond (d + 1)) (t__law_condition spTake (spCond d) spRange) := by
  refine PL.mk2 (fun us S R ⟨p, ms, dd, b, e, _⟩ => by rw [e]; rfl) ?_
  rintro us S R Q ⟨p, ms, deep, b, rfl, hm, hd, _, hp, hb, rfl⟩ q
  show t__law_condition _ _ _ _ [some (.ref p), some (.lst (ms.map Cv.int)), some (.int deep), none, none, none] S
  have cg := cst_ge d
  have hd' : deep - 1 ≤ d := by omega
  rw [cst] at hb
  have rng : ∀ (S1 : Sto) (r : Rg), okRg r → Off S S1 p → Pot S1 p (b + 20) → Hand S (eIn r) S1 Q := fun S1 r hr o1 hp1 =>
    hand_id (q _ _ ⟨.rg r.1 r.2.1 r.2.2, rfl, ⟨Nat.zero_le _, by rw [cst]; simp [ins]; omega, by simpa [ins] using hr, Nat.zero_le _, by rw [cst]; show ((6 : Nat) : Int) ≤ _; omega⟩, o1, hp1.mono (by rw [cst]; omega)⟩)
  unfold t__law_condition
  repeat' fail
  · refine x_take hp (by omega) (by omega) (by omega) fun way S1 w0 w1 o1 hp1 => ?_
    repeat' fail
    · exact x_range hm hp1 (by omega) fun r S2 hr o2 hp2 => rng S2 r hr (o1.trans o2) (hp2.mono (by omega))
    · refine x_cond hm hd' (by omega) hp1 (by omega) fun c S2 hc o2 hp2 => ?_
      repeat' fail
      refine hand_id (S := S) (q _ _ ⟨.no c, rfl, ⟨by rw [dp]; have := hc.1; omega, by rw [cst, ins]; have := hc.2.1; omega, by rw [ins]; exact hc.2.2.1, by rw [wd]; exact hc.2.2.2.1, by rw [cst, enc]; show ((3 + 1 + (blk (enc c) + 1 + 0) : Nat) : Int) ≤ _; have := hc.2.2.2.2; push_cast; omega⟩, o1.trans o2, hp2.mono (by rw [cst]; omega)⟩)
    · refine x_take hp1 (by omega) (by omega) (by omega) fun n S2 n0 n1 o2 hp2 => ?_
      repeat' fail
      refine lc_pot (p := p) (fun y => ∃ c, y = enc c ∧ goodC d c) (cst d) (b + 2) 3 (by omega) mo_gname (by repeat' trivial) (by simp [iota]; omega) (by decide) (fun _ _ => True.intro) ?_ (hp2.mono (by omega)) ?_
      · intro x S3 b3 _ h3 h4 o3 hp3
        repeat' fail
        refine x_cond hm hd' (by omega) hp3 (by omega) fun c S4 hc o4 hp4 => ?_
        exact ⟨⟨c, rfl, hc⟩, o3.trans o4, hp4⟩
      · intro ys S3 hy hg o3 hp3
        obtain ⟨cs, rfl, hcs⟩ := list_of ys hg
        repeat' fail
        refine x_ixM (by omega) (by show _ < (2 : Int); omega) fun v hv => ?_
        obtain ⟨bb, rfl⟩ : ∃ bb : Bool, v = .str (if bb = true then "all" else "any") := by
          simp at hv
          rcases hv with e | e
          · exact ⟨true, e⟩
          · exact ⟨false, e⟩
        repeat' fail
        have hlen : cs.length ≤ 3 := by
          have : (cs.map enc).length = n.toNat + 1 := by rw [hy]; simp [iota]; omega
          rw [List.length_map] at this; omega
        refine hand_id (S := S) (q _ _ ⟨.al bb cs, by rw [enc, encs_map], ⟨?_, ?_, ?_, ?_, ?_⟩, (o1.trans o2).trans o3, hp3.mono (by rw [cst]; omega)⟩)
        · rw [dp]; have := dps_le (n := d) fun c hc => (hcs c hc).1; omega
        · rw [ins, cst]; have := inss_le cs (cst d) (by omega) fun c hc => (hcs c hc).2.1
          have : cst d * (cs.length : Int) ≤ cst d * 3 := Int.mul_le_mul_of_nonneg_left (by omega) (by omega)
          omega
        · rw [ins, inss_map]; intro r hr
          obtain ⟨c, hc, hr⟩ := List.mem_flatMap.mp hr
          exact (hcs c hc).2.2.1 r hr
        · rw [wd]; have := wds_le fun c hc => (hcs c hc).2.2.2.1; omega
        · rw [cst, enc, encs_map]; have := blks_le cs (cst d) (by omega) fun c hc => (hcs c hc).2.2.2.2
          have h3 : (cst d + 1) * (cs.length : Int) ≤ (cst d + 1) * 3 := Int.mul_le_mul_of_nonneg_left (by omega) (by omega)
          have h4 : blk (.str (if bb = true then "all" else "any")) = 3 := by cases bb <;> rfl
          show ((blk (.str (if bb = true then "all" else "any")) + 1 + (blks (cs.map enc) + 1 + 0) : Nat) : Int) ≤ _
          rw [h4]; push_cast; omega
  · exact x_range hm hp (by omega) fun r S2 hr o2 hp2 => rng S2 r hr o2 (hp2.mono (by omega))
  all_goals omega

end Lw

set_option Elab.async false
set_option linter.all false
set_option maxRecDepth 100000
set_option maxHeartbeats 2000000
namespace Lw
open PySem PySem.Spec PyProof.Rows L2 CL
local macro_rules | `(tactic| fail) => `(tactic| with_reducible first
  | refine y_seq ?_ | refine x_asg ?_ | refine x_op ?_ | refine x_var (by with_unfolding_all rfl) ?_ | refine x_c ?_ | refine x_name ?_ | refine x_ccons ?_ | refine x_cnil ?_ | refine x_ret ?_ | refine x_if ?_ | refine x_cB ?_ | refine x_kB ?_ 
  | refine x_i2 trivial ?_ | refine x_addI ?_ | refine x_eqS ?_ | refine x_eqI ?_ 
  | refine x_ixR (by first | assumption | exact Sto.set_same) (by with_unfolding_all rfl) ?_ | refine x_ixL (by with_unfolding_all rfl) ?_ | refine x_ixT (by with_unfolding_all rfl) ?_
  | refine x_cT ?_ | refine x_cF ?_ | refine x_cD (fun _ => ?_) (fun _ => ?_) | refine x_cN ?_ | refine x_ifE ?_
  | refine x_tup ?_ | refine x_lst ?_ | refine x_lstO ?_ | refine x_kTup (by with_unfolding_all exact Nat.le_of_ble_eq_true rfl) ?_ | refine x_kLst (by with_unfolding_all exact Nat.le_of_ble_eq_true rfl) ?_ | refine x_kLstO (by with_unfolding_all exact Nat.le_of_ble_eq_true rfl) (fun _ _ => ?_) | refine x_call ?_ | refine x_cb2 ?_ | refine x_ckw ?_ | refine x_lenL ?_ | refine x_lenT ?_ | refine x_lenS ?_
  | refine x_abs ?_ | refine x_intI ?_ | refine x_intB ?_ | refine x_max2 ?_ | refine x_min2 ?_ | refine x_tupleL ?_ | refine x_tupleT ?_ | refine x_next ?_ | refine x_drop ?_ | refine x_setK ?_ | refine x_kSet (by first | assumption | exact Sto.set_same) (by with_unfolding_all rfl) ?_
  | refine x_and ?_ | refine x_or ?_ | refine x_not ?_ | refine x_andV ?_ | refine x_orV ?_ | refine x_chain ?_ | refine x_un ?_ | refine x_neg ?_ | refine x_gtup (by with_unfolding_all rfl) ?_ | refine x_gcons ?_ | refine x_gnil ?_
  | refine x_yes ?_ | refine x_iteT ?_ | refine x_iteF ?_ | refine x_iteD (fun _ => ?_) (fun _ => ?_) | refine x_iteN ?_ | refine x_seqI ?_ | refine x_kSeqT ?_ | refine x_kSeqL ?_ | refine x_enumI ?_ | refine x_kEnumT ?_ | refine x_kEnumL ?_ | refine x_notV ?_ | refine x_rng1 ?_ | refine x_rng2 ?_ | refine x_kRng1 (by omega) ?_ | refine x_kRng2 (by omega) ?_ | refine x_lc ?_ | refine x_lc2 ?_ | refine x_lcO ?_ | refine x_for ?_ | refine x_bmK ?_ | refine x_kBM (by first | assumption | exact Sto.set_same) ?_ | refine x_append (by first | assumption | exact Sto.set_same) ?_ ?_ | refine x_extendL (by first | assumption | exact Sto.set_same) ?_ ?_ | refine x_popAt (by first | assumption | exact Sto.set_same) ?_ ?_ ?_ | refine x_maxD (asInts_map _) ?_ | refine x_minD (asInts_map _) ?_
  | refine x_i2 (by first | assumption | omega) ?_ | refine x_i2 ?_ ?_)
local macro_rules | `(tactic| ac_rfl) => `(tactic| with_reducible first
  | refine NB.v1 (by omega) | exact nb60 | exact nb10 | exact nb300 | exact p300 | refine mulW1 ?_ ?_ | refine cpw1 ?_ | refine divW1 ?_ (by omega)
  | refine NB.mod (by omega) ?_ | refine NB.mul1 ?_ ?_ | refine NB.add1 ?_ ?_ | refine NB.sub1 ?_ ?_ | refine NB.div (by omega) ?_ | refine NB.abs ?_ | refine NB.pow1 ?_ | assumption)
local macro_rules | `(tactic| trivial) => `(tactic| first | exact mkSp_mono | with_reducible first
  | exact mo_var | exact cInB_mono | refine mo_notV ?_ | refine mo_enumI ?_ | exact mo_c | refine cOp_mono ?_ ?_ ?_ | exact cI2_mono | exact cAdd_mono | exact cEqB_mono | exact cIsN_mono | exact cIx_mono | refine cB_mono ?_ | refine mo_un mo_neg ?_ | refine cAnd_mono ?_ ?_ | refine cOr_mono ?_ ?_ | refine mo_not ?_ | refine mo_andV ?_ ?_ | refine mo_orV ?_ ?_ | refine mo_if ?_ ?_ ?_ | refine mo_chain ?_ ?_ ?_ ?_ ?_
  | exact mo_nil | refine mo_cons ?_ ?_ | refine mo_tup ?_ | refine mo_lst ?_ | refine mo_lstO ?_ | refine mo_seqI ?_ | refine mo_rng1 ?_ | refine mo_rng2 ?_ | refine mo_lc ?_ ?_ ?_ ?_ | refine mo_lcO ?_ ?_ ?_ ?_ | refine mo_lc2 ?_ ?_ ?_ ?_ ?_ ?_ ?_ | exact cYes_mono | exact mo_gname | exact mo_gnil | refine mo_gcons ?_ ?_ | refine mo_gtup ?_
  | exact mo_next | refine mo_ret ?_ | exact mo_retN | refine mo_drop ?_ | refine mo_ifS ?_ ?_ ?_ | refine mo_for ?_ ?_ ?_ | exact mo_break | exact mo_cont | refine mo_aug ?_ ?_ | refine mo_setL ?_ ?_ ?_ | refine mo_par ?_ | refine cSeq_mono ?_ ?_ | refine cAsg_mono ?_ ?_ | refine cCB_mono ?_ ?_ | exact mo_len | exact mo_abs | exact mo_int | exact cMax_mono | exact cMin_mono | exact mo_sum | exact cBools_mono | exact mo_tuple | exact mo_repr
  | refine mo_ckw ?_ ?_ ?_ | exact cMaxD_mono | exact cMinD_mono | refine cBM_mono ?_ ?_ ?_ | exact mo_append | exact mo_extend | exact mo_popAt | refine mo_call ?_ ?_ | assumption)
theorem pl_holds (d : Nat) : PL N_holds ["condition", "number"] (spHolds (d + 1)) (t_holds (spHolds d)) := by
  refine PL.mk2 (fun us S R ⟨c, n, e, _⟩ => by rw [e]; rfl) ?_
  rintro us S R Q ⟨c, n, rfl, hd, hw, hm, rfl⟩ q
  show t_holds _ _ [some (enc c), some (.int n), none, none, none, none, none] S
  unfold t_holds
  have fin : ∀ b, b = hold n c → Hand S (.bl b) S Q := fun b e => hand_id (q _ _ ⟨by rw [e], rfl⟩)
  cases c with
  | rg m lo hi =>
    simp only [enc]
    repeat' fail
    all_goals first
      | exact absurd rfl (by assumption)
      | exact fin _ (by simp [hold, *])
  | no c =>
    simp only [enc]
    repeat' fail
    · exact absurd (by assumption : ("not" : Str) = "in") (by decide)
    · refine x_holds (by rw [dp] at hd; omega) (by rw [wd] at hw; exact hw) (by simpa only [ins] using hm) ?_
      repeat' fail
      exact fin _ rfl
    all_goals exact absurd rfl (by assumption)
  | al b cs =>
    have ne1 : ¬ ((if b = true then "all" else "any" : Str) = "in") := by cases b <;> decide
    have ne2 : ¬ ((if b = true then "all" else "any" : Str) = "not") := by cases b <;> decide
    simp only [enc, encs_map]
    have hl : cs.length ≤ 100000 := by rw [wd] at hw; omega
    have sub : ∀ c ∈ cs, dp c < d ∧ wd c ≤ 100000 ∧ ∀ r ∈ ins c, 0 ≤ r.1 := fun c hc => by
      have h1 := dps_mem hc
      have h2 := wds_mem hc
      rw [dp] at hd
      rw [wd] at hw
      exact ⟨by omega, by omega, fun r hr => hm r (by rw [ins, inss_map]; exact List.mem_flatMap.mpr ⟨c, hc, hr⟩)⟩
    have em : ∀ l : List Cd, l.map (fun c => Cv.bl (hold n c)) = (l.map (hold n)).map Cv.bl := fun l => by rw [List.map_map]; rfl
    repeat' fail
    · exact absurd (by assumption) ne1
    · exact absurd (by assumption) ne2
    · refine lc_all cs enc (fun c => .bl (hold n c)) True.intro [] (by simp; omega) (fun c hc R h => ?_) mo_gname ?_
      · repeat' fail
        obtain ⟨h1, h2, h3⟩ := sub c hc
        exact x_holds h1 h2 h3 h
      · rw [List.nil_append, em]
        repeat' fail
        refine x_allL (asBools_map _) ?_
        repeat' fail
        refine fin _ ?_
        have eb : b = true := by cases b with | true => rfl | false => exact absurd (by assumption : ("any" : Str) = "all") (by decide)
        rw [hold, if_pos eb, holdA_map]
    · refine lc_all cs enc (fun c => .bl (hold n c)) True.intro [] (by simp; omega) (fun c hc R h => ?_) mo_gname ?_
      · repeat' fail
        obtain ⟨h1, h2, h3⟩ := sub c hc
        exact x_holds h1 h2 h3 h
      · rw [List.nil_append, em]
        repeat' fail
        refine x_anyL (asBools_map _) ?_
        repeat' fail
        refine fin _ ?_
        have eb : b = false := by cases b with | false => rfl | true => exact absurd rfl (by assumption)
        rw [hold, if_neg (by simp [eb]), holdO_map]
theorem pl__law_is (d : Nat) : PL N__law_is ["_law_condition_here", "_law_number"] (spHolds (d + 1)) (t__law_is (spHolds d)) := by
  refine PL.mk2 (fun us S R ⟨c, n, e, _⟩ => by rw [e]; rfl) ?_
  rintro us S R Q ⟨c, n, rfl, hd, hw, hm, rfl⟩ q
  show t__law_is _ _ [some (enc c), some (.int n), none, none, none, none] S
  unfold t__law_is
  have fin : ∀ b, b = hold n c → Hand S (.bl b) S Q := fun b e => hand_id (q _ _ ⟨by rw [e], rfl⟩)
  cases c with
  | rg m lo hi =>
    simp only [enc]
    have m0 : 0 ≤ m := hm (m, lo, hi) (by simp [ins])
    repeat' fail
    all_goals first
      | exact absurd rfl (by assumption)
      | omega
      | (refine fin _ ?_
         have hmm : (0 < m) ↔ ¬ m = 0 := by omega
         simp [hold, *])
  | no c =>
    simp only [enc]
    repeat' fail
    · exact absurd (by assumption : ("not" : Str) = "in") (by decide)
    · refine x_holds (by rw [dp] at hd; omega) (by rw [wd] at hw; exact hw) (by simpa only [ins] using hm) ?_
      repeat' fail
      exact fin _ rfl
    · exact absurd rfl (by assumption)
  | al b cs =>
    have ne1 : ¬ ((if b = true then "all" else "any" : Str) = "in") := by cases b <;> decide
    have ne2 : ¬ ((if b = true then "all" else "any" : Str) = "not") := by cases b <;> decide
    simp only [enc, encs_map]
    have hl : cs.length ≤ 100000 := by rw [wd] at hw; omega
    have sub : ∀ c ∈ cs, dp c < d ∧ wd c ≤ 100000 ∧ ∀ r ∈ ins c, 0 ≤ r.1 := fun c hc => by
      have h1 := dps_mem hc
      have h2 := wds_mem hc
      rw [dp] at hd
      rw [wd] at hw
      exact ⟨by omega, by omega, fun r hr => hm r (by rw [ins, inss_map]; exact List.mem_flatMap.mpr ⟨c, hc, hr⟩)⟩
    have em : ∀ l : List Cd, l.map (fun c => Cv.bl (hold n c)) = (l.map (hold n)).map Cv.bl := fun l => by rw [List.map_map]; rfl
    have fl : ∀ l : List Bool, (l.map Cv.bl).all flatC = true := fun l => by simp [flatC]
    have ta : ∀ l : List Bool, ((l.map Cv.bl).any fun y => ceq y (.bl true)) = l.any fun b => b := fun l => by
      rw [List.any_map]; congr 1; funext b; cases b <;> rfl
    have fa : ∀ l : List Bool, (!(l.map Cv.bl).any fun y => ceq y (.bl false)) = l.all fun b => b := fun l => by
      induction l with
      | nil => rfl
      | cons b l ih => rw [List.map_cons, List.any_cons, List.all_cons, ← ih]; cases b <;> simp [ceq]
    repeat' fail
    · exact absurd (by assumption) ne1
    · exact absurd (by assumption) ne2
    · refine lc_all cs enc (fun c => .bl (hold n c)) True.intro [] (by simp; omega) (fun c hc R h => ?_) mo_gname ?_
      · repeat' fail
        obtain ⟨h1, h2, h3⟩ := sub c hc
        exact x_holds h1 h2 h3 h
      · rw [List.nil_append, em]
        repeat' fail
        · refine x_inL rfl (fl _) ?_
          refine fin _ ?_
          have eb : b = true := by cases b with | true => rfl | false => exact absurd (by assumption : ("any" : Str) = "all") (by decide)
          rw [if_pos rfl, fa, hold, if_pos eb, holdA_map]
        · refine x_inL rfl (fl _) ?_
          refine fin _ ?_
          have eb : b = false := by cases b with | false => rfl | true => exact absurd rfl (by assumption)
          rw [if_neg (by decide), ta, hold, if_neg (by simp [eb]), holdO_map]
theorem pl__law_rules : PL N__law_rules ["_law_pot_here"] spRules (t__law_rules spOf (spCond 3) spTake) := by
  refine PL.mk2 (fun us S R ⟨p, b, e, _⟩ => by rw [e]; rfl) ?_
  rintro us S R Q ⟨p, b, rfl, hp, hb, rfl⟩ q
  show t__law_rules _ _ _ _ [some (.ref p), none, none, none, none, none, none, none] S
  have ec : cst 3 = 6400 := by decide
  unfold t__law_rules
  repeat' fail
  refine x_ofL hp (by omega) (by simp) (by simp) fun v S1 hv o1 hp1 => ?_
  obtain ⟨ms, rfl, hm⟩ : ∃ ms : List Int, v = .lst (ms.map Cv.int) ∧ okMs ms := by
    simp only [List.mem_cons, List.not_mem_nil, or_false] at hv
    rcases hv with rfl | rfl | rfl | rfl | rfl | rfl
    · exact ⟨[0], rfl, by simp [okMs]⟩
    · exact ⟨[0, 10], rfl, by simp [okMs]⟩
    · exact ⟨[0, 0, 10], rfl, by simp [okMs]⟩
    · exact ⟨[0, 10, 100], rfl, by simp [okMs]⟩
    · exact ⟨[10, 100], rfl, by simp [okMs]⟩
    · exact ⟨[0, 10, 10, 10, 100, 1000], rfl, by simp [okMs]⟩
  repeat' fail
  rename_i pl hpl ps hps
  have nlp : pl ≠ p := hp1.ne hpl
  have nsl : ps ≠ pl := fun z => by subst z; rw [Sto.set_same] at hps; cases hps
  have hps1 : S1 ps = none := by rw [Sto.set_ne nsl] at hps; exact hps
  have nsp : ps ≠ p := hp1.ne hps1
  refine x_take ((hp1.set nlp).set nsp) (by omega) (by omega) (by omega) fun n S2 n0 n1 o2 hp2 => ?_
  repeat' fail
  have k2 : Keep S1 S2 p := ((Keep.new hpl).wr hps1).trans o2.keep
  have e2l : S2 pl = some (.lst (forms8.map Cv.str)) := by rw [o2 pl nlp, Sto.set_ne nsl.symm, Sto.set_same]; rfl
  have e2s : S2 ps = some (.lst []) := by rw [o2 ps nsp, Sto.set_same]
  have hS1 : ∀ S', Keep S1 S' p → Keep S S' p := fun S' k => o1.keep.trans k
  refine forL_inv (fun xs ws S3 => ∃ ls ss t, ws = [some (.ref p), some (.lst (ms.map Cv.int)), some (.ref pl), some (.ref ps), t, none, none, none] ∧ S3 pl = some (.lst ((ls : List Str).map Cv.str)) ∧ S3 ps = some (.lst ((ss : List Str).map Cv.str)) ∧ (∀ x ∈ ls, x ∈ forms8) ∧ (∀ x ∈ ss, x ∈ forms8) ∧ ls.length = 3 + xs.length + (5 - (n.toNat + 2)) ∧ ss.length + xs.length = n.toNat + 2 ∧ Keep S1 S3 p ∧ Pot S3 p (b + 2 + ss.length)) (fun _ _ _ _ => True.intro) ?_ ?_ mo_gname (by repeat' trivial) _ _ _
    ⟨forms8, [], none, rfl, e2l, e2s, fun _ h => h, fun _ h => (by cases h), by simp [iota]; omega, by simp [iota]; omega, k2, hp2.mono (by simp; omega)⟩
  · rintro ws S3 ⟨ls, ss, t, rfl, el, es, hls, hss, _, hn, k3, hp3⟩
    have hn' : ss.length = n.toNat + 2 := by simpa using hn
    repeat' fail
    refine x_take hp3 (by omega) (by omega) (by omega) fun rows S4 r0 r1 o4 hp4 => ?_
    repeat' fail
    refine x_ofL hp4 (by omega) (by simp) (by simp) fun v5 S5 hv5 o5 hp5 => ?_
    obtain ⟨deep, rfl, d0, d1⟩ : ∃ j : Int, v5 = .int j ∧ 0 ≤ j ∧ j ≤ 3 := by
      revert hv5; revert v5; simp
    have es5 : S5 ps = some (.lst (ss.map Cv.str)) := by rw [o5 ps nsp, o4 ps nsp]; exact es
    have k5 : Keep S1 S5 p := (k3.trans o4.keep).trans o5.keep
    have ssne : ss.map Cv.str ≠ [] := by
      intro z
      have h : ss.length = 0 := by simpa using congrArg List.length z
      omega
    have hps5 : Cv.ref ps ≠ .ref p := fun z => nsp (by injection z)
    have fin : ∀ deep : Int, deep ≤ 3 → lcL (fun _ => True) (cgName 4) cYes (cTup (cCons (cCall spOf X0 (cCons (cVar 0) (cCons (cVar 3) (cNil)))) (cCons (cCall (spCond 3) X0 (cCons (cVar 0) (cCons (cVar 1) (cCons (cVar 6) (cNil))))) (cNil))))
        (cwipe [some (.ref p), some (.lst (ms.map Cv.int)), some (.ref pl), some (.ref ps), t, some (.int rows), some (.int deep), none] [4])
        (fun ys S2 => cgName 7 (.lst ys) [some (.ref p), some (.lst (ms.map Cv.int)), some (.ref pl), some (.ref ps), t, some (.int rows), some (.int deep), none] S2
          (cSeq (cRet (cTup (cCons (cCB cTupleOf (cCons (cVar 7) (cNil))) (cCons (cCall spOf X0 (cCons (cVar 0) (cCons (cVar 3) (cNil)))) (cNil))))) cNext ⟨fun _ S' => Hand S .non S' Q, fun w S' => Hand S w S' Q, fun _ _ => False, fun _ _ => False⟩)) (iota 0 rows.toNat) [] S5 := by
      intro deep hd
      refine lc_pot (p := p) (fun y => ∃ x : Str × Cd, y = eRow x ∧ (x.1 ∈ forms8 ∧ goodD x.2)) 6401 (b + 100) 7 (by decide) mo_gname (by repeat' trivial) (by simp [iota]; omega) (by decide) (fun _ _ => True.intro) ?_ (hp5.mono (by omega)) ?_
      · intro x S6 b6 _ h3 h4 o6 hp6
        repeat' fail
        refine x_of hp6 (by omega) hps5 (by simp only [deref, o6 ps nsp, es5]) ssne (by simp; omega) fun v7 S7 hv7 o7 hp7 => ?_
        obtain ⟨f, hf, rfl⟩ := List.mem_map.mp hv7
        repeat' fail
        refine x_cond hm hd (by decide) hp7 (by omega) fun c S8 hc o8 hp8 => ?_
        repeat' fail
        exact ⟨⟨(f, c), rfl, hss f hf, hc.D⟩, (o6.trans o7).trans o8, hp8.mono (by omega)⟩
      · intro ys S6 hy hg o6 hp6
        obtain ⟨rws, rfl, hrws⟩ := list_of' eRow ys hg
        repeat' fail
        refine x_of hp6 (by omega) hps5 (by simp only [deref, o6 ps nsp, es5]) ssne (by simp; omega) fun v7 S7 hv7 o7 hp7 => ?_
        obtain ⟨f, hf, rfl⟩ := List.mem_map.mp hv7
        repeat' fail
        refine hand_pot (by intro a z; cases z) (hS1 _ ((k5.trans o6.keep).trans o7.keep)) hp7 fun S9 o9 hp9 => q _ _ ⟨⟨rws, f⟩, rfl, ⟨?_, hss f hf, fun x hx => hrws x hx⟩, o9, hp9.mono (by omega)⟩
        have : (rws.map eRow).length = rows.toNat := by rw [hy]; simp [iota]
        rw [List.length_map] at this
        show rws.length ≤ 20
        omega
    repeat' fail
    · exact fin (min deep 2) (by omega)
    · exact fin deep d1
  · rintro x r ws S3 ⟨ls, ss, t, rfl, el, es, hls, hss, hn2, hn, k3, hp3⟩
    have hn' : ss.length + (r.length + 1) = n.toNat + 2 := by simpa using hn
    have hn2' : ls.length = 3 + (r.length + 1) + (5 - (n.toNat + 2)) := by simpa using hn2
    repeat' fail
    refine x_lenD (by intro z h; cases h) (by simp only [deref, el]; rfl) ?_
    repeat' fail
    refine x_take hp3 (by omega) (by simp; omega) (by simp; omega) fun i S4 i0 i1 o4 hp4 => ?_
    have el4 : S4 pl = some (.lst (ls.map Cv.str)) := by rw [o4 pl nlp]; exact el
    have es4 : S4 ps = some (.lst (ss.map Cv.str)) := by rw [o4 ps nsp]; exact es
    have i1' : i < ls.length := by simpa using i1
    repeat' fail
    · exact i0
    · exact ⟨i1, by omega⟩
    · intro w kk hw hk
      rw [List.length_map] at hk
      obtain ⟨f, hf, rfl⟩ : ∃ f, f ∈ forms8 ∧ w = Cv.str f := by
        rw [List.getElem?_map] at hw
        cases e : ls[kk]? with
        | none => rw [e] at hw; cases hw
        | some f => rw [e] at hw; cases hw; exact ⟨f, hls f (List.mem_of_getElem? e), rfl⟩
      have es6 : (S4.set pl (.lst ((ls.map Cv.str).eraseIdx kk))) ps = some (.lst (ss.map Cv.str)) := by rw [Sto.set_ne nsl]; exact es4
      repeat' fail
      · rw [List.length_map]; exact Nat.lt_of_lt_of_le (show ss.length < 100 by omega) (by decide)
      · refine ⟨ls.eraseIdx kk, ss ++ [f], _, rfl, ?_, ?_, ?_, ?_, ?_, ?_, ?_, ?_⟩
        · rw [Sto.set_ne nsl.symm, Sto.set_same, eraseIdx_map]
        · rw [Sto.set_same]; simp
        · intro y hy; exact hls y (List.mem_of_mem_eraseIdx hy)
        · intro y hy
          rcases List.mem_append.mp hy with h | h
          · exact hss y h
          · rw [List.mem_singleton.mp h]; exact hf
        · rw [List.length_eraseIdx_of_lt hk]; omega
        · simp; omega
        · exact ((k3.trans o4.keep).wr hpl).wr hps1
        · refine Pot.set (Pot.set ?_ nlp) nsp
          exact hp4.mono (by simp; omega)

end Lw

set_option Elab.async false
set_option linter.all false
set_option maxRecDepth 100000
set_option maxHeartbeats 2000000
namespace Lw
open PySem PySem.Spec PyProof.Rows L2 CL
local macro_rules | `(tactic| fail) => `(tactic| with_reducible first
  | refine y_seq ?_ | refine x_asg ?_ | refine x_op ?_ | refine x_var (by with_unfolding_all rfl) ?_ | refine x_c ?_ | refine x_name ?_ | refine x_ccons ?_ | refine x_cnil ?_ | refine x_ret ?_ | refine x_if ?_ | refine x_cB ?_ | refine x_kB ?_ 
  | refine x_i2 trivial ?_ | refine x_addI ?_ | refine x_eqS ?_ | refine x_eqI ?_ 
  | refine x_ixR (by first | assumption | exact Sto.set_same) (by with_unfolding_all rfl) ?_ | refine x_ixL (by with_unfolding_all rfl) ?_ | refine x_ixT (by with_unfolding_all rfl) ?_
  | refine x_cT ?_ | refine x_cF ?_ | refine x_cD (fun _ => ?_) (fun _ => ?_) | refine x_cN ?_ | refine x_ifE ?_
  | refine x_tup ?_ | refine x_lst ?_ | refine x_lstO ?_ | refine x_kTup (by with_unfolding_all exact Nat.le_of_ble_eq_true rfl) ?_ | refine x_kLst (by with_unfolding_all exact Nat.le_of_ble_eq_true rfl) ?_ | refine x_kLstO (by with_unfolding_all exact Nat.le_of_ble_eq_true rfl) (fun _ _ => ?_) | refine x_call ?_ | refine x_cb2 ?_ | refine x_ckw ?_ | refine x_lenL ?_ | refine x_lenT ?_ | refine x_lenS ?_
  | refine x_abs ?_ | refine x_intI ?_ | refine x_intB ?_ | refine x_max2 ?_ | refine x_min2 ?_ | refine x_tupleL ?_ | refine x_tupleT ?_ | refine x_next ?_ | refine x_drop ?_ | refine x_setK ?_ | refine x_kSet (by first | assumption | exact Sto.set_same) (by with_unfolding_all rfl) ?_
  | refine x_and ?_ | refine x_or ?_ | refine x_not ?_ | refine x_andV ?_ | refine x_orV ?_ | refine x_chain ?_ | refine x_un ?_ | refine x_neg ?_ | refine x_gtup (by with_unfolding_all rfl) ?_ | refine x_gcons ?_ | refine x_gnil ?_
  | refine x_yes ?_ | refine x_iteT ?_ | refine x_iteF ?_ | refine x_iteD (fun _ => ?_) (fun _ => ?_) | refine x_iteN ?_ | refine x_seqI ?_ | refine x_kSeqT ?_ | refine x_kSeqL ?_ | refine x_enumI ?_ | refine x_kEnumT ?_ | refine x_kEnumL ?_ | refine x_notV ?_ | refine x_rng1 ?_ | refine x_rng2 ?_ | refine x_kRng1 (by omega) ?_ | refine x_kRng2 (by omega) ?_ | refine x_lc ?_ | refine x_lc2 ?_ | refine x_lcO ?_ | refine x_for ?_ | refine x_bmK ?_ | refine x_kBM (by first | assumption | exact Sto.set_same) ?_ | refine x_append (by first | assumption | exact Sto.set_same) ?_ ?_ | refine x_extendL (by first | assumption | exact Sto.set_same) ?_ ?_ | refine x_popAt (by first | assumption | exact Sto.set_same) ?_ ?_ ?_ | refine x_maxD (asInts_map _) ?_ | refine x_minD (asInts_map _) ?_
  | refine x_i2 (by first | assumption | omega) ?_ | refine x_i2 ?_ ?_)
local macro_rules | `(tactic| ac_rfl) => `(tactic| with_reducible first
  | refine NB.v1 (by omega) | exact nb60 | exact nb10 | exact nb300 | exact p300 | refine mulW1 ?_ ?_ | refine cpw1 ?_ | refine divW1 ?_ (by omega)
  | refine NB.mod (by omega) ?_ | refine NB.mul1 ?_ ?_ | refine NB.add1 ?_ ?_ | refine NB.sub1 ?_ ?_ | refine NB.div (by omega) ?_ | refine NB.abs ?_ | refine NB.pow1 ?_ | assumption)
local macro_rules | `(tactic| trivial) => `(tactic| first | exact mkSp_mono | with_reducible first
  | exact mo_var | exact cInB_mono | refine mo_notV ?_ | refine mo_enumI ?_ | exact mo_c | refine cOp_mono ?_ ?_ ?_ | exact cI2_mono | exact cAdd_mono | exact cEqB_mono | exact cIsN_mono | exact cIx_mono | refine cB_mono ?_ | refine mo_un mo_neg ?_ | refine cAnd_mono ?_ ?_ | refine cOr_mono ?_ ?_ | refine mo_not ?_ | refine mo_andV ?_ ?_ | refine mo_orV ?_ ?_ | refine mo_if ?_ ?_ ?_ | refine mo_chain ?_ ?_ ?_ ?_ ?_
  | exact mo_nil | refine mo_cons ?_ ?_ | refine mo_tup ?_ | refine mo_lst ?_ | refine mo_lstO ?_ | refine mo_seqI ?_ | refine mo_rng1 ?_ | refine mo_rng2 ?_ | refine mo_lc ?_ ?_ ?_ ?_ | refine mo_lcO ?_ ?_ ?_ ?_ | refine mo_lc2 ?_ ?_ ?_ ?_ ?_ ?_ ?_ | exact cYes_mono | exact mo_gname | exact mo_gnil | refine mo_gcons ?_ ?_ | refine mo_gtup ?_
  | exact mo_next | refine mo_ret ?_ | exact mo_retN | refine mo_drop ?_ | refine mo_ifS ?_ ?_ ?_ | refine mo_for ?_ ?_ ?_ | exact mo_break | exact mo_cont | refine mo_aug ?_ ?_ | refine mo_setL ?_ ?_ ?_ | refine mo_par ?_ | refine cSeq_mono ?_ ?_ | refine cAsg_mono ?_ ?_ | refine cCB_mono ?_ ?_ | exact mo_len | exact mo_abs | exact mo_int | exact cMax_mono | exact cMin_mono | exact mo_sum | exact cBools_mono | exact mo_tuple | exact mo_repr
  | refine mo_ckw ?_ ?_ ?_ | exact cMaxD_mono | exact cMinD_mono | refine cBM_mono ?_ ?_ ?_ | exact mo_append | exact mo_extend | exact mo_popAt | refine mo_call ?_ ?_ | assumption)
def rowF (n : Int) : Nat → List (Str × Cd) → Cv
  | _, [] => .non
  | i, x :: r => if hold n x.2 = true then .int (i : Nat) else rowF n (i + 1) r
def formF (n : Int) (last : Str) : List (Str × Cd) → Str
  | [] => last
  | x :: r => if hold n x.2 = true then x.1 else formF n last r
theorem rowF_cases (n : Int) (last : Str) : ∀ (i : Nat) (l : List (Str × Cd)), (rowF n i l = .non ∧ formF n last l = last) ∨ ∃ k x, rowF n i l = .int ((i + k : Nat) : Int) ∧ l[k]? = some x ∧ formF n last l = x.1
  | _, [] => .inl ⟨rfl, rfl⟩
  | i, x :: r => by
    by_cases h : hold n x.2 = true
    · exact .inr ⟨0, x, by rw [rowF, if_pos h]; rfl, rfl, by rw [formF, if_pos h]⟩
    · rcases rowF_cases n last (i + 1) r with ⟨a, b⟩ | ⟨k, y, a, b, c⟩
      · exact .inl ⟨by rw [rowF, if_neg h]; exact a, by rw [formF, if_neg h]; exact b⟩
      · exact .inr ⟨k + 1, y, by rw [rowF, if_neg h, a, show i + 1 + k = i + (k + 1) by omega], b, by rw [formF, if_neg h]; exact c⟩
def okRows (d : Nat) (r : Rl) : Prop := ∀ x ∈ r.rows, dp x.2 < d ∧ wd x.2 ≤ 100000 ∧ ∀ g ∈ ins x.2, 0 ≤ g.1
def spRow (d : Nat) : CSp := mkSp fun us S R => ∃ r n, us = [eR r, .int n] ∧ okRows d r ∧ R = fun w S' => w = rowF n 0 r.rows ∧ S' = S
def spForm (d : Nat) : CSp := mkSp fun us S R => ∃ r n, us = [eR r, .int n] ∧ okRows d r ∧ R = fun w S' => w = .str (formF n r.last r.rows) ∧ S' = S
theorem x_row {S : Sto} {Q : Cv → Sto → Prop} {E : Ex → Sto → Prop} {d : Nat} {r : Rl} {n : Int} (h1 : okRows d r) (h : Q (rowF n 0 r.rows) S) : spRow d [eR r, .int n] S Q E := ⟨_, ⟨r, n, rfl, h1, rfl⟩, fun _ _ ⟨e1, e2⟩ => by rw [e1, e2]; exact h⟩
theorem x_form {S : Sto} {Q : Cv → Sto → Prop} {E : Ex → Sto → Prop} {d : Nat} {r : Rl} {n : Int} (h1 : okRows d r) (h : Q (.str (formF n r.last r.rows)) S) : spForm d [eR r, .int n] S Q E := ⟨_, ⟨r, n, rfl, h1, rfl⟩, fun _ _ ⟨e1, e2⟩ => by rw [e1, e2]; exact h⟩
theorem pl_row_of (d : Nat) : PL N_row_of ["rules", "number"] (spRow d) (t_row_of (spHolds d)) := by
  refine PL.mk2 (fun us S R ⟨c, n, e, _⟩ => by rw [e]; rfl) ?_
  rintro us S R Q ⟨r, n, rfl, hok, rfl⟩ q
  show t_row_of _ _ [some (eR r), some (.int n), none, none, none] S
  unfold t_row_of
  simp only [eR]
  repeat' fail
  refine forL_inv (fun xs ws S1 => ∃ i todo t2 t3 t4, xs = pairsFrom i (todo.map eRow) ∧ (∀ x ∈ todo, x ∈ r.rows) ∧ rowF n i todo = rowF n 0 r.rows ∧ ws = [some (.tup [.tup (r.rows.map eRow), .str r.last]), some (.int n), t2, t3, t4] ∧ S1 = S) (fun _ _ _ _ => True.intro) ?_ ?_ (by repeat' trivial) (by repeat' trivial) _ _ _ ⟨0, r.rows, none, none, none, rfl, fun _ h => h, rfl, rfl, rfl⟩
  · rintro ws S1 ⟨i, todo, t2, t3, t4, e1, _, e2, rfl, rfl⟩
    have e3 : todo = [] := by cases todo with | nil => rfl | cons => simp [pairsFrom] at e1
    subst e3
    repeat' fail
    exact hand_id (S := S1) (q _ _ ⟨by rw [← e2]; rfl, rfl⟩)
  · rintro x xr ws S1 ⟨i, todo, t2, t3, t4, e1, hm, e2, rfl, rfl⟩
    cases todo with
    | nil => simp [pairsFrom] at e1
    | cons c todo =>
      simp only [List.map_cons, pairsFrom, List.cons.injEq] at e1
      obtain ⟨rfl, rfl⟩ := e1
      obtain ⟨h1, h2, h3⟩ := hok c (hm c List.mem_cons_self)
      simp only [eRow]
      repeat' fail
      refine x_holds h1 h2 h3 ?_
      repeat' fail
      refine x_cb (fun h => ?_) fun h => ?_
      · repeat' fail
        exact hand_id (S := S1) (q _ _ ⟨by rw [← e2, rowF, if_pos h], rfl⟩)
      · repeat' fail
        exact ⟨i + 1, todo, _, _, _, rfl, fun z hz => hm z (List.mem_cons_of_mem _ hz), by rw [← e2, rowF, if_neg (by simp [h])], rfl, rfl⟩
theorem x_isN0 {S : Sto} {Q : Cv → Sto → Prop} {f : Bool → Bool} (h : Q (.bl (f true)) S) : cIsN f .non .non S Q := h
theorem x_isNi {S : Sto} {Q : Cv → Sto → Prop} {f : Bool → Bool} {i : Int} (h : Q (.bl (f false)) S) : cIsN f (.int i) .non S Q := h
theorem atI_nat {α : Type} {l : List α} {k : Nat} {x : α} (h : l[k]? = some x) : atI l ((k : Nat) : Int) = some x := by
  have hk := (List.getElem?_eq_some_iff.mp h).1
  unfold atI ixN
  rw [if_pos (by omega), if_pos (by omega)]
  exact h
theorem pl_form_of (d : Nat) : PL N_form_of ["rules", "number"] (spForm d) (t_form_of (spRow d)) := by
  refine PL.mk2 (fun us S R ⟨c, n, e, _⟩ => by rw [e]; rfl) ?_
  rintro us S R Q ⟨r, n, rfl, hok, rfl⟩ q
  show t_form_of _ _ [some (eR r), some (.int n), none] S
  unfold t_form_of
  repeat' fail
  refine x_row hok ?_
  simp only [eR]
  rcases rowF_cases n r.last 0 r.rows with ⟨a, b⟩ | ⟨k, x, a, b, c⟩
  · rw [a]
    repeat' fail
    refine x_isN0 ?_
    repeat' fail
    exact hand_id (S := S) (q _ _ ⟨by rw [b], rfl⟩)
  · rw [a, Nat.zero_add]
    repeat' fail
    refine x_isNi ?_
    repeat' fail
    refine x_ixT (w := eRow x) (atI_nat (by rw [List.getElem?_map, b]; rfl)) ?_
    simp only [eRow]
    repeat' fail
    exact hand_id (S := S) (q _ _ ⟨by rw [c], rfl⟩)
def spFar : CSp := mkSp fun us S R => ∃ p lo wd b, us = [.ref p, .tup [.int lo, .int wd]] ∧ 0 ≤ lo ∧ lo ≤ 1000000 ∧ 1 ≤ wd ∧ wd ≤ 1000000 ∧ Pot S p b ∧ b + 10 < bMax ∧ R = fun w S' => ∃ n : Int, w = .int n ∧ 0 ≤ n ∧ Off S S' p ∧ Pot S' p (b + 10)
theorem x_far {S : Sto} {p : Addr} {lo wd b : Int} {Q : Cv → Sto → Prop} {E : Ex → Sto → Prop} (h1 : 0 ≤ lo) (h2 : lo ≤ 1000000) (h3 : 1 ≤ wd) (h4 : wd ≤ 1000000) (hp : Pot S p b) (hb : b + 10 < bMax) (h : ∀ (n : Int) S', 0 ≤ n → Off S S' p → Pot S' p (b + 10) → Q (.int n) S') : spFar [.ref p, .tup [.int lo, .int wd]] S Q E :=
  ⟨_, ⟨p, lo, wd, b, rfl, h1, h2, h3, h4, hp, hb, rfl⟩, fun w S' ⟨n, e, n0, o, q⟩ => by rw [e]; exact h n S' n0 o q⟩
theorem pl__law_far : PL N__law_far ["_law_pot_here", "_law_edges"] spFar (t__law_far spTake) := by
  refine PL.mk2 (fun us S R ⟨p, _, _, _, e, _⟩ => by rw [e]; rfl) ?_
  rintro us S R Q ⟨p, lo, wd, b, rfl, h1, h2, h3, h4, hp, hb, rfl⟩ q
  show t__law_far _ _ [some (.ref p), some (.tup [.int lo, .int wd]), none, none, none] S
  have fin : ∀ (n : Int) (S1 : Sto), 0 ≤ n → Off S S1 p → Pot S1 p (b + 4) → Hand S (.int n) S1 Q := fun n S1 n0 o hp => hand_id (q _ _ ⟨n, rfl, n0, o, hp.mono (by omega)⟩)
  unfold t__law_far
  repeat' fail
  refine x_take hp (by omega) (by omega) (by omega) fun way S1 w0 w1 o1 hp1 => ?_
  repeat' fail
  · refine x_take hp1 (by omega) (by omega) (by omega) fun v S2 v0 v1 o2 hp2 => fin v S2 v0 (o1.trans o2) (hp2.mono (by omega))
  · refine x_take hp1 (by omega) (by omega) (by omega) fun v S2 v0 v1 o2 hp2 => ?_
    repeat' fail
    exact fin _ S2 (by omega) (o1.trans o2) (hp2.mono (by omega))
  · exact cpw_of 64 (by decide)
  · refine x_take hp1 (by omega) (by omega) (by omega) fun v S2 v0 v1 o2 hp2 => ?_
    repeat' fail
    exact fin _ S2 (by show (0 : Int) ≤ 10 ^ 18 - v; omega) (o1.trans o2) (hp2.mono (by omega))
  · exact cpw_of 64 (by decide)
  · refine x_take hp1 (by omega) (by decide) (by decide) fun v S2 v0 v1 o2 hp2 => ?_
    have v2 : v < 10 ^ 12 := v1
    repeat' fail
    · repeat' ac_rfl
    · refine x_take hp2 (by omega) (by omega) (by omega) fun u S3 u0 u1 o3 hp3 => ?_
      repeat' fail
      have := Int.mul_nonneg (show 0 ≤ wd by omega) v0
      exact fin _ S3 (by omega) ((o1.trans o2).trans o3) (hp3.mono (by omega))
/-! ### bounds and periods of several rules; the table -/
def okJ (d : Nat) (rs : List Rl) : Prop := rs ≠ [] ∧ rs.length ≤ 1000 ∧ ∀ r ∈ rs, (∀ x ∈ r.rows, dp x.2 < d) ∧ (insR r).length ≤ 1000000
def bndJ (rs : List Rl) : Int := lmax 0 (rs.map fun r => bnd (insR r))
def prdJ (rs : List Rl) : Int := lmax 0 (rs.map fun r => prd (insR r))
def spJ (F : List Rl → Int) (d : Nat) : CSp := mkSp fun us S R => ∃ rs w, us = [w] ∧ (w = .tup (rs.map eR) ∨ w = .lst (rs.map eR)) ∧ okJ d rs ∧ R = fun w S' => w = .int (F rs) ∧ S' = S
theorem x_jT {F : List Rl → Int} {S : Sto} {Q : Cv → Sto → Prop} {E : Ex → Sto → Prop} {d : Nat} (rs : List Rl) (h1 : okJ d rs) (h : Q (.int (F rs)) S) : spJ F d [.tup (rs.map eR)] S Q E := ⟨_, ⟨rs, _, rfl, .inl rfl, h1, rfl⟩, fun _ _ ⟨e1, e2⟩ => by rw [e1, e2]; exact h⟩
theorem x_jL {F : List Rl → Int} {S : Sto} {Q : Cv → Sto → Prop} {E : Ex → Sto → Prop} {d : Nat} (rs : List Rl) (h1 : okJ d rs) (h : Q (.int (F rs)) S) : spJ F d [.lst (rs.map eR)] S Q E := ⟨_, ⟨rs, _, rfl, .inr rfl, h1, rfl⟩, fun _ _ ⟨e1, e2⟩ => by rw [e1, e2]; exact h⟩
theorem pl_joint_bound (d : Nat) : PL N_joint_bound ["some"] (spJ bndJ d) (t_joint_bound (spBound d)) := by
  refine PL.mk2 (fun us S R ⟨_, _, e, _⟩ => by rw [e]; rfl) ?_
  rintro us S R Q ⟨rs, w, rfl, hw, ⟨h1, h2, h3⟩, rfl⟩ q
  show t_joint_bound _ _ [some w, none] S
  have fin : ∀ ws2 : CL.Env, ws2.length = 2 → lcL (fun _ => True) (cgName 1) cYes (cCall (spBound d) X0 (cCons (cVar 1) (cNil))) ws2 (fun ys S2 => cMax [.lst ys] S2 fun w S' => Hand S w S' Q) (rs.map eR) [] S := by
    intro ws2 hl
    refine lc_all rs eR (fun r => .int (bnd (insR r))) True.intro [] (by simp; omega) (fun r hr R h => ?_) mo_gname ?_
    · refine x_name (x_call (x_ccons (x_var (w := eR r) (by simp [hl]) (x_cnil ?_))))
      exact x_bound (h3 r hr).1 (h3 r hr).2 h
    · have em : rs.map (fun r => Cv.int (bnd (insR r))) = (rs.map fun r => bnd (insR r)).map Cv.int := by rw [List.map_map]; rfl
      rw [List.nil_append, em]
      refine x_maxL (asInts_map _) (by simpa using h1) ?_
      exact hand_id (S := S) (q _ _ ⟨rfl, rfl⟩)
  unfold t_joint_bound
  rcases hw with rfl | rfl
  · repeat' fail
    exact fin _ rfl
  · repeat' fail
    exact fin _ rfl
theorem pl_joint_period (d : Nat) : PL N_joint_period ["some"] (spJ prdJ d) (t_joint_period (spPeriod d)) := by
  refine PL.mk2 (fun us S R ⟨_, _, e, _⟩ => by rw [e]; rfl) ?_
  rintro us S R Q ⟨rs, w, rfl, hw, ⟨h1, h2, h3⟩, rfl⟩ q
  show t_joint_period _ _ [some w, none] S
  have fin : ∀ ws2 : CL.Env, ws2.length = 2 → lcL (fun _ => True) (cgName 1) cYes (cCall (spPeriod d) X0 (cCons (cVar 1) (cNil))) ws2 (fun ys S2 => cMax [.lst ys] S2 fun w S' => Hand S w S' Q) (rs.map eR) [] S := by
    intro ws2 hl
    refine lc_all rs eR (fun r => .int (prd (insR r))) True.intro [] (by simp; omega) (fun r hr R h => ?_) mo_gname ?_
    · refine x_name (x_call (x_ccons (x_var (w := eR r) (by simp [hl]) (x_cnil ?_))))
      exact x_period (h3 r hr).1 (h3 r hr).2 h
    · have em : rs.map (fun r => Cv.int (prd (insR r))) = (rs.map fun r => prd (insR r)).map Cv.int := by rw [List.map_map]; rfl
      rw [List.nil_append, em]
      refine x_maxL (asInts_map _) (by simpa using h1) ?_
      exact hand_id (S := S) (q _ _ ⟨rfl, rfl⟩)
  unfold t_joint_period
  rcases hw with rfl | rfl
  · repeat' fail
    exact fin _ rfl
  · repeat' fail
    exact fin _ rfl
def reachJ (rs : List Rl) : Int := bndJ rs + prdJ rs
theorem pl_reach (d : Nat) : PL N_reach ["some"] (spJ reachJ d) (t_reach (spJ bndJ d) (spJ prdJ d)) := by
  refine PL.mk2 (fun us S R ⟨_, _, e, _⟩ => by rw [e]; rfl) ?_
  rintro us S R Q ⟨rs, w, rfl, hw, ok, rfl⟩ q
  show t_reach _ _ _ [some w] S
  unfold t_reach
  rcases hw with rfl | rfl
  · repeat' fail
    refine x_jT rs ok ?_
    repeat' fail
    refine x_jT rs ok ?_
    repeat' fail
    exact hand_id (S := S) (q _ _ ⟨rfl, rfl⟩)
  · repeat' fail
    refine x_jL rs ok ?_
    repeat' fail
    refine x_jL rs ok ?_
    repeat' fail
    exact hand_id (S := S) (q _ _ ⟨rfl, rfl⟩)
def formsTo (r : Rl) (n : Nat) : List Cv := (List.range n).map fun i => .str (formF ((0 : Int) + (i : Nat)) r.last r.rows)
def spBelow (d : Nat) : CSp := mkSp fun us S R => ∃ r n, us = [eR r, .int n] ∧ okRows d r ∧ 0 ≤ n ∧ n ≤ 1000000 ∧ R = fun w S' => w = .tup (formsTo r n.toNat) ∧ S' = S
theorem x_below {S : Sto} {Q : Cv → Sto → Prop} {E : Ex → Sto → Prop} {d : Nat} {r : Rl} {n : Int} (h1 : okRows d r) (h0 : 0 ≤ n) (hn : n ≤ 1000000) (h : Q (.tup (formsTo r n.toNat)) S) : spBelow d [eR r, .int n] S Q E := ⟨_, ⟨r, n, rfl, h1, h0, hn, rfl⟩, fun _ _ ⟨e1, e2⟩ => by rw [e1, e2]; exact h⟩
theorem pl_forms_below (d : Nat) : PL N_forms_below ["rules", "stop"] (spBelow d) (t_forms_below (spForm d)) := by
  refine PL.mk2 (fun us S R ⟨_, _, e, _⟩ => by rw [e]; rfl) ?_
  rintro us S R Q ⟨r, n, rfl, hok, h0, hn, rfl⟩ q
  show t_forms_below _ _ [some (eR r), some (.int n), none] S
  unfold t_forms_below
  repeat' fail
  refine lc_all (List.range n.toNat) (fun (i : Nat) => .int ((0 : Int) + i)) (fun i => .str (formF ((0 : Int) + (i : Nat)) r.last r.rows)) True.intro [] (by simp; omega) (fun i _ R h => ?_) mo_gname ?_
  · repeat' fail
    exact x_form hok h
  · rw [List.nil_append]
    repeat' fail
    exact hand_id (S := S) (q _ _ ⟨rfl, rfl⟩)
def spTable (d : Nat) : CSp := mkSp fun us S R => ∃ r, us = [eR r] ∧ okRows d r ∧ (insR r).length ≤ 1000000 ∧ (∀ x ∈ insR r, okRg x) ∧ R = fun w S' => w = .tup (formsTo r (bnd (insR r) + prd (insR r)).toNat) ∧ S' = S
theorem x_table {S : Sto} {Q : Cv → Sto → Prop} {E : Ex → Sto → Prop} {d : Nat} {r : Rl} (h1 : okRows d r) (h2 : (insR r).length ≤ 1000000) (h3 : ∀ x ∈ insR r, okRg x) (h : Q (.tup (formsTo r (bnd (insR r) + prd (insR r)).toNat)) S) : spTable d [eR r] S Q E := ⟨_, ⟨r, rfl, h1, h2, h3, rfl⟩, fun _ _ ⟨e1, e2⟩ => by rw [e1, e2]; exact h⟩
theorem bnd_le2 (l : List Rg) (ok : ∀ r ∈ l, okRg r) : prd l ≤ 1000 := by
  rw [← prd_edge l ok]
  have key := lmax_mem (d := 0) (ns := 1 :: l.map fun r => r.1) (by simp)
  generalize lmax 0 (1 :: l.map fun r => r.1) = z at key ⊢
  rcases List.mem_cons.mp key with e | e
  · omega
  · obtain ⟨r, hr, e⟩ := List.mem_map.mp e
    have := (ok r hr).2.2.2.2.2.2.1
    omega
theorem bnd_lt (l : List Rg) (ok : ∀ r ∈ l, okRg r) : bnd l ≤ 1000000 := (bnd_le l ok).2
theorem pl_table (d : Nat) : PL N_table ["rules"] (spTable d) (t_table (spBelow d) (spJ reachJ d)) := by
  refine PL.mk2 (fun us S R ⟨_, e, _⟩ => by rw [e]; rfl) ?_
  rintro us S R Q ⟨r, rfl, hok, hl, hr, rfl⟩ q
  show t_table _ _ _ [some (eR r)] S
  have e1 : reachJ [r] = bnd (insR r) + prd (insR r) := by
    have a : ∀ z : Int, lmax 0 [z] = z := fun z => rfl
    show lmax 0 [bnd (insR r)] + lmax 0 [prd (insR r)] = _
    rw [a, a]
  have b1 := bnd_le _ hr
  have b2 := prd_le _ hr
  have b3 := bnd_le2 _ hr
  unfold t_table
  repeat' fail
  refine x_jT [r] ⟨by simp, by simp, fun x hx => ?_⟩ ?_
  · rw [List.mem_singleton.mp hx]; exact ⟨fun y hy => (hok y hy).1, hl⟩
  · rw [e1]
    repeat' fail
    refine x_below hok (by omega) (by have := bnd_le5 _ hr; omega) ?_
    repeat' fail
    exact hand_id (S := S) (q _ _ ⟨rfl, rfl⟩)
theorem pl__law_form (d : Nat) : PL N__law_form ["_law_rules_here", "_law_number"] (spForm d) (t__law_form (spHolds d)) := by
  refine PL.mk2 (fun us S R ⟨c, n, e, _⟩ => by rw [e]; rfl) ?_
  rintro us S R Q ⟨r, n, rfl, hok, rfl⟩ q
  show t__law_form _ _ [some (eR r), some (.int n), none, none] S
  unfold t__law_form
  simp only [eR]
  repeat' fail
  refine forL_inv (fun xs ws S1 => ∃ todo t2 t3, xs = todo.map eRow ∧ (∀ x ∈ todo, x ∈ r.rows) ∧ formF n r.last todo = formF n r.last r.rows ∧ ws = [some (.tup [.tup (r.rows.map eRow), .str r.last]), some (.int n), t2, t3] ∧ S1 = S) (fun _ _ _ _ => True.intro) ?_ ?_ (by repeat' trivial) (by repeat' trivial) _ _ _ ⟨r.rows, none, none, rfl, fun _ h => h, rfl, rfl, rfl⟩
  · rintro ws S1 ⟨todo, t2, t3, e1, _, e2, rfl, rfl⟩
    have e3 : todo = [] := by cases todo with | nil => rfl | cons => simp at e1
    subst e3
    repeat' fail
    exact hand_id (S := S1) (q _ _ ⟨by rw [← e2]; rfl, rfl⟩)
  · rintro x xr ws S1 ⟨todo, t2, t3, e1, hm, e2, rfl, rfl⟩
    cases todo with
    | nil => simp at e1
    | cons c todo =>
      simp only [List.map_cons, List.cons.injEq] at e1
      obtain ⟨rfl, rfl⟩ := e1
      obtain ⟨h1, h2, h3⟩ := hok c (hm c List.mem_cons_self)
      simp only [eRow]
      repeat' fail
      refine x_holds h1 h2 h3 ?_
      repeat' fail
      refine x_cb (fun h => ?_) fun h => ?_
      · repeat' fail
        exact hand_id (S := S1) (q _ _ ⟨by rw [← e2, formF, if_pos h], rfl⟩)
      · repeat' fail
        exact ⟨todo, _, _, rfl, fun z hz => hm z (List.mem_cons_of_mem _ hz), by rw [← e2, formF, if_neg (by simp [h])], rfl, rfl⟩
theorem formF_congr {n z : Int} {last : Str} : ∀ {l : List (Str × Cd)}, (∀ x ∈ l, hold n x.2 = hold z x.2) → formF n last l = formF z last l
  | [], _ => rfl
  | x :: r, h => by
    rw [formF, formF, h x List.mem_cons_self, formF_congr fun y hy => h y (List.mem_cons_of_mem _ hy)]
/-- the form of a number past the bound is the table's -/
theorem form_round {r : Rl} (hr : goodR r) {n : Int} (h : bnd (insR r) ≤ n) : formF n r.last r.rows = formF (bnd (insR r) + (n - bnd (insR r)) % prd (insR r)) r.last r.rows := by
  have b2 := prd_le _ hr.ok
  refine formF_congr fun x hx => ?_
  have hz := Int.emod_nonneg (n - bnd (insR r)) (show prd (insR r) ≠ 0 by omega)
  refine hold_round (low := bnd (insR r)) (wide := prd (insR r)) (k := (n - bnd (insR r)) / prd (insR r)) h (by omega) ?_ x.2 fun g hg => ?_
  · have := Int.emod_add_mul_ediv (n - bnd (insR r)) (prd (insR r))
    omega
  · have hm : g ∈ insR r := List.mem_flatMap.mpr ⟨x, hx, hg⟩
    exact ⟨bnd_ge _ hr.ok g hm, (hr.ok g hm).1, prd_dvd _ hr.ok g hm⟩
theorem formsTo_at {r : Rl} {n : Nat} {i : Int} (h0 : 0 ≤ i) (h1 : i < n) : atI (formsTo r n) i = some (.str (formF i r.last r.rows)) := by
  have e : i = ((i.toNat : Nat) : Int) := by omega
  rw [e]
  refine atI_nat ?_
  unfold formsTo
  rw [List.getElem?_map, List.getElem?_range (by omega), Option.map_some, Int.zero_add]
theorem goodR_rows {r : Rl} (h : goodR r) : okRows 6 r := fun x hx => by
  obtain ⟨_, b⟩ := h.2.2 x hx
  exact ⟨by have := b.1; omega, by have := b.2.2.2.1; omega, fun g hg => (b.2.2.1 g hg).1⟩
def spRight : CSp := mkSp fun us S R => ∃ p r b, us = [.ref p, eR r] ∧ goodR r ∧ Pot S p b ∧ b + 1000 < bMax ∧ R = fun w S' => w = .bl true ∧ Off S S' p ∧ Pot S' p (b + 1000)
theorem x_right {S : Sto} {p : Addr} {r : Rl} {b : Int} {Q : Cv → Sto → Prop} {E : Ex → Sto → Prop} (hr : goodR r) (hp : Pot S p b) (hb : b + 1000 < bMax) (h : ∀ S', Off S S' p → Pot S' p (b + 1000) → Q (.bl true) S') : spRight [.ref p, eR r] S Q E :=
  ⟨_, ⟨p, r, b, rfl, hr, hp, hb, rfl⟩, fun w S' ⟨e, o, q⟩ => by rw [e]; exact h S' o q⟩
theorem pl__law_right : PL N__law_right ["_law_pot_here", "_law_drawn"] spRight (t__law_right (spForm 6) (spForm 6) spFar spTake (spTable 6) (spPeriod 6) (spBound 6)) := by
  refine PL.mk2 (fun us S R ⟨p, r, b, e, _⟩ => by rw [e]; rfl) ?_
  rintro us S R Q ⟨p, r, b, rfl, hr, hp, hb, rfl⟩ q
  show t__law_right _ _ _ _ _ _ _ _ [some (.ref p), some (eR r), none, none, none, none, none, none, none, none, none] S
  have b1 := bnd_le _ hr.ok
  have b2 := prd_le _ hr.ok
  have b5 := bnd_le5 _ hr.ok
  have hrow := goodR_rows hr
  have round := fun n h => form_round hr (n := n) h
  have at_ := fun i h0 h1 => formsTo_at (r := r) (n := (bnd (insR r) + prd (insR r)).toNat) (i := i) h0 h1
  have lenF : (formsTo r (bnd (insR r) + prd (insR r)).toNat).length = (bnd (insR r) + prd (insR r)).toNat := by simp [formsTo]
  unfold t__law_right
  repeat' fail
  refine x_bound hr.dp hr.ins ?_
  repeat' fail
  refine x_period hr.dp hr.ins ?_
  repeat' fail
  refine x_table hrow hr.ins hr.ok ?_
  generalize hlo : bnd (insR r) = lo at *
  generalize hwd : prd (insR r) = wd at *
  generalize formsTo r (lo + wd).toNat = rows at *
  repeat' fail
  · rename_i hne
    exact cpw_of 64 (by decide)
  · refine x_take hp (by omega) (by decide) (by decide) fun v S1 v0 v1 o1 hp1 => ?_
    have v2 : v < 10 ^ 14 := v1
    have w0 := Int.mul_nonneg (show 0 ≤ wd by omega) (show 0 ≤ 1 + v by omega)
    repeat' fail
    · repeat' ac_rfl
    generalize hfar : lo + wd * (1 + v) = far
    have far0 : 0 ≤ far := by omega
    refine lc_all (List.range (min wd 100).toNat) (fun (i : Nat) => .int ((0 : Int) + i)) (fun i => .int (far + ((0 : Int) + (i : Nat)))) True.intro [] (by simp; omega) (fun i _ R h => ?_) mo_gname ?_
    · repeat' fail
      exact h
    · rw [List.nil_append]
      repeat' fail
      refine lc_pot (p := p) (fun y => ∃ n : Int, y = .int n ∧ 0 ≤ n) 10 (b + 1) 20 (by decide) mo_gname (by repeat' trivial) (by decide) (by decide) (fun _ _ => True.intro) ?_ hp1 ?_
      · intro x S3 b3 _ h3 h4 o3 hp3
        repeat' fail
        exact x_far b1.1 b1.2 b2.1 b2.2 hp3 (by omega) fun n S4 n0 o4 hp4 => ⟨⟨n, rfl, n0⟩, o3.trans o4, hp4⟩
      · intro ys S3 hy hg o3 hp3
        obtain ⟨ns, rfl, hns⟩ := list_of' Cv.int ys hg
        have ln : ns.length = 20 := by rw [List.length_map] at hy; rw [hy]; rfl
        have e1 : (List.range (min wd 100).toNat).map (fun i => Cv.int (far + ((0 : Int) + (i : Nat)))) = ((List.range (min wd 100).toNat).map fun i => far + ((0 : Int) + (i : Nat))).map Cv.int := by rw [List.map_map]; rfl
        rw [e1]
        generalize hms : (List.range (min wd 100).toNat).map (fun i => far + ((0 : Int) + (i : Nat))) = ms
        have lm : ms.length ≤ 100 := by rw [← hms]; simp; omega
        have pm : ∀ z ∈ ms, 0 ≤ z := by
          rw [← hms]; intro z hz
          obtain ⟨i, _, rfl⟩ := List.mem_map.mp hz
          omega
        repeat' fail
        refine x_addL (by simp [ln]; exact Nat.le_trans (show _ ≤ 1000 by omega) (by decide)) ?_
        rw [← List.map_append]
        repeat' fail
        · exact cpw_of 64 (by decide)
        · exact cpw_of 64 (by decide)
        refine x_addL (by simp [ln]; exact Nat.le_trans (show _ ≤ 1000 by omega) (by decide)) ?_
        have e2 : (ms ++ ns).map Cv.int ++ [Cv.int (10 ^ Int.toNat 18), Cv.int (10 ^ Int.toNat 18 - 1), Cv.int lo, Cv.int (max 0 (lo - 1))] = (ms ++ ns ++ [10 ^ Int.toNat 18, 10 ^ Int.toNat 18 - 1, lo, max 0 (lo - 1)]).map Cv.int := by rw [List.map_append (l₁ := ms ++ ns)]; rfl
        rw [e2]
        have pall : ∀ z ∈ ms ++ ns ++ [10 ^ Int.toNat 18, 10 ^ Int.toNat 18 - 1, lo, max 0 (lo - 1)], (0 : Int) ≤ z := by
          intro z hz
          rcases List.mem_append.mp hz with h | h
          · rcases List.mem_append.mp h with h | h
            · exact pm z h
            · exact hns z h
          · simp only [List.mem_cons, List.not_mem_nil, or_false] at h
            rcases h with h | h | h | h
            · rw [h]; decide
            · rw [h]; decide
            · rw [h]; exact b1.1
            · rw [h]; omega
        generalize ms ++ ns ++ [10 ^ Int.toNat 18, 10 ^ Int.toNat 18 - 1, lo, max 0 (lo - 1)] = spots at pall
        repeat' fail
        refine forL_inv (fun xs ws S4 => (∀ x ∈ xs, ∃ z : Int, x = .int z ∧ 0 ≤ z) ∧ (∃ t7 t8 t9 t10, ws = [some (.ref p), some (eR r), some (.int lo), some (.int wd), some (.tup rows), some (.int far), some (.lst (spots.map Cv.int)), t7, t8, t9, t10]) ∧ S4 = S3) (fun _ _ _ _ => True.intro) ?_ ?_ mo_gname (by repeat' trivial) _ _ _
          ⟨fun x hx => ?_, ⟨_, _, _, _, rfl⟩, rfl⟩
        · rintro ws S4 ⟨_, ⟨t7, t8, t9, t10, rfl⟩, rfl⟩
          repeat' fail
          exact hand_id (S := S) (q _ _ ⟨rfl, o1.trans o3, hp3.mono (by omega)⟩)
        · rintro x xr ws S4 ⟨hx, ⟨t7, t8, t9, t10, rfl⟩, rfl⟩
          obtain ⟨z, rfl, z0⟩ := hx x List.mem_cons_self
          have keep : ∀ ws2, (∃ t7 t8 t9 t10, ws2 = [some (.ref p), some (eR r), some (.int lo), some (.int wd), some (.tup rows), some (.int far), some (.lst (spots.map Cv.int)), t7, t8, t9, t10]) → (∀ x ∈ xr, ∃ z : Int, x = .int z ∧ 0 ≤ z) ∧ (∃ t7 t8 t9 t10, ws2 = [some (.ref p), some (eR r), some (.int lo), some (.int wd), some (.tup rows), some (.int far), some (.lst (spots.map Cv.int)), t7, t8, t9, t10]) ∧ S4 = S4 :=
            fun ws2 h => ⟨fun x h2 => hx x (List.mem_cons_of_mem _ h2), h, rfl⟩
          repeat' fail
          · have hat := at_ z z0 (by omega)
            refine x_form hrow ?_
            repeat' fail
            refine x_ixT hat ?_
            repeat' fail
            · refine x_ixT hat ?_
              repeat' fail
              refine x_form hrow ?_
              repeat' fail
              · exact keep _ ⟨_, _, _, _, rfl⟩
              · exact absurd rfl (by assumption)
            · exact absurd rfl (by assumption)
          · have m0 := Int.emod_nonneg (z - lo) (show wd ≠ 0 by omega)
            have m1 := Int.emod_lt_of_pos (z - lo) (show 0 < wd by omega)
            have hat := at_ (lo + (z - lo) % wd) (by omega) (by omega)
            rw [← round z (by omega)] at hat
            refine x_form hrow ?_
            repeat' fail
            refine x_ixT hat ?_
            repeat' fail
            · refine x_ixT hat ?_
              repeat' fail
              refine x_form hrow ?_
              repeat' fail
              · exact keep _ ⟨_, _, _, _, rfl⟩
              · exact absurd rfl (by assumption)
            · exact absurd rfl (by assumption)
        · obtain ⟨z, hz, rfl⟩ := List.mem_map.mp hx
          exact ⟨z, rfl, pall z hz⟩
  · rename_i hne
    exact absurd (by rw [lenF]; omega) hne
def spLaw : CSp := mkSp fun us S R => ∃ ns : List Int, us = [.scr (ns.map Cv.int)] ∧ R = fun w S' => w = .bl true
theorem pl_law : PL N_law ["_law_script"] spLaw (t_law spRight spRules spPot) := by
  refine PL.mk2 (fun us S R ⟨ns, e, _⟩ => by rw [e]; rfl) ?_
  rintro us S R Q ⟨ns, rfl, rfl⟩ q
  show t_law _ _ _ _ [some (.scr (ns.map Cv.int)), none, none, none] S
  unfold t_law
  repeat' fail
  refine forL_inv (fun xs ws S1 => (∀ x ∈ xs, ∃ k : Int, x = .int k ∧ 0 ≤ k ∧ k < 1000) ∧ ∃ t1 t2 t3, ws = [some (.scr (ns.map Cv.int)), t1, t2, t3]) (fun _ _ _ _ => True.intro) ?_ ?_ mo_gname (by repeat' trivial) _ _ _ ⟨?_, _, _, _, rfl⟩
  · rintro ws S1 ⟨_, t1, t2, t3, rfl⟩
    repeat' fail
    exact hand_id (S := S) (q _ _ rfl)
  · rintro x xr ws S1 ⟨hx, t1, t2, t3, rfl⟩
    obtain ⟨k, rfl, k0, k1⟩ := hx x List.mem_cons_self
    repeat' fail
    refine x_pot k0 (by omega) fun p S2 np o2 hp2 => ?_
    repeat' fail
    refine lc_pot (p := p) (fun y => ∃ b : Bool, y = .bl b ∧ b = true) 101000 0 6 (by decide) mo_gname (by repeat' trivial) (by decide) (by decide) (fun _ _ => True.intro) ?_ hp2 ?_
    · intro x S4 b4 hx4 h3 h4 o4 hp4
      repeat' fail
      refine x_rules hp4 (by unfold bMax; omega) fun r S5 hr o5 hp5 => ?_
      repeat' fail
      exact x_right hr hp5 (by unfold bMax; omega) fun S6 o6 hp6 => ⟨⟨true, rfl, rfl⟩, (o4.trans o5).trans o6, hp6.mono (by omega)⟩
    · intro zs S4 hz hg4 o4 hp4
      obtain ⟨bs, rfl, hbs⟩ := list_of' Cv.bl zs hg4
      repeat' fail
      refine x_allL (asBools_map _) ?_
      have et : (bs.all fun b => b) = true := by rw [List.all_eq_true]; exact hbs
      rw [et]
      repeat' fail
      exact ⟨fun x hx2 => hx x (List.mem_cons_of_mem _ hx2), _, _, _, rfl⟩
  · intro x hx
    obtain ⟨i, hi, rfl⟩ := List.mem_map.mp hx
    have hi := List.mem_range.mp hi
    exact ⟨_, rfl, by omega, by omega⟩

end Lw

set_option Elab.async false
set_option linter.all false
set_option maxRecDepth 100000
set_option maxHeartbeats 1000000
namespace Lw
open PySem PySem.Spec PyProof.Rows L2 CL
theorem law_sp : ∀ _ : World, LawSp 63 spLaw := fun _ ns _ _ => x_mk _ ⟨ns, rfl, rfl⟩ fun _ _ h => h
theorem fnf {K : Fg} {h : Heap} {mg : Str → Option Value} {x : Str} {st : Stmt} {f : Addr} {fd : FuncData} {ps : List Str} (X : K.In h) (G : h.Ns mainGlobals mg) (a : PySem.W.nsIn K mainGlobals x = some (some (.ref f))) (F : Fun K x x st f fd) (b : Binds K fd ps []) (k : PySem.W.keepIn K (.ref f) = true) : FnF K mg x st f fd ps := ⟨F, b, PySem.W.mg_of X G a, k⟩
theorem all_mk {l : PySem.W.OpenLaw} {w : World} {K : Fg} {h : Heap} {mg : Str → Option Value} {fa : Addr} (X : K.In h) (G : h.Ns mainGlobals mg) (hfa : mg "law" = some (.ref fa))
    {f__law_is : Addr} {od__law_is an__law_is : Option Addr} {sl__law_is : Array (Option Value)} {oc__law_is kV__law_is dc__law_is pm__law_is cd__law_is ct__law_is : Value} (a__law_is : PySem.W.nsIn K mainGlobals "_law_is" = some (some (.ref f__law_is)))
    (l__law_is : K.lookup f__law_is = some ⟨oc__law_is, od__law_is, .func (PySem.W.fnOf "_law_is" "_law_is" (defArgs s__law_is) (defBody s__law_is) (defScope s__law_is) .none kV__law_is dc__law_is pm__law_is an__law_is cd__law_is ct__law_is), sl__law_is⟩) (c__law_is : PySem.W.codeIn K cd__law_is "_law_is" = true) (k__law_is : PySem.W.keepIn K (.ref f__law_is) = true)
    {f__law_form : Addr} {od__law_form an__law_form : Option Addr} {sl__law_form : Array (Option Value)} {oc__law_form kV__law_form dc__law_form pm__law_form cd__law_form ct__law_form : Value} (a__law_form : PySem.W.nsIn K mainGlobals "_law_form" = some (some (.ref f__law_form)))
    (l__law_form : K.lookup f__law_form = some ⟨oc__law_form, od__law_form, .func (PySem.W.fnOf "_law_form" "_law_form" (defArgs s__law_form) (defBody s__law_form) (defScope s__law_form) .none kV__law_form dc__law_form pm__law_form an__law_form cd__law_form ct__law_form), sl__law_form⟩) (c__law_form : PySem.W.codeIn K cd__law_form "_law_form" = true) (k__law_form : PySem.W.keepIn K (.ref f__law_form) = true)
    {f_holds : Addr} {od_holds an_holds : Option Addr} {sl_holds : Array (Option Value)} {oc_holds kV_holds dc_holds pm_holds cd_holds ct_holds : Value} (a_holds : PySem.W.nsIn K mainGlobals "holds" = some (some (.ref f_holds)))
    (l_holds : K.lookup f_holds = some ⟨oc_holds, od_holds, .func (PySem.W.fnOf "holds" "holds" (defArgs s_holds) (defBody s_holds) (defScope s_holds) .none kV_holds dc_holds pm_holds an_holds cd_holds ct_holds), sl_holds⟩) (c_holds : PySem.W.codeIn K cd_holds "holds" = true) (k_holds : PySem.W.keepIn K (.ref f_holds) = true)
    {f_row_of : Addr} {od_row_of an_row_of : Option Addr} {sl_row_of : Array (Option Value)} {oc_row_of kV_row_of dc_row_of pm_row_of cd_row_of ct_row_of : Value} (a_row_of : PySem.W.nsIn K mainGlobals "row_of" = some (some (.ref f_row_of)))
    (l_row_of : K.lookup f_row_of = some ⟨oc_row_of, od_row_of, .func (PySem.W.fnOf "row_of" "row_of" (defArgs s_row_of) (defBody s_row_of) (defScope s_row_of) .none kV_row_of dc_row_of pm_row_of an_row_of cd_row_of ct_row_of), sl_row_of⟩) (c_row_of : PySem.W.codeIn K cd_row_of "row_of" = true) (k_row_of : PySem.W.keepIn K (.ref f_row_of) = true)
    {f_form_of : Addr} {od_form_of an_form_of : Option Addr} {sl_form_of : Array (Option Value)} {oc_form_of kV_form_of dc_form_of pm_form_of cd_form_of ct_form_of : Value} (a_form_of : PySem.W.nsIn K mainGlobals "form_of" = some (some (.ref f_form_of)))
    (l_form_of : K.lookup f_form_of = some ⟨oc_form_of, od_form_of, .func (PySem.W.fnOf "form_of" "form_of" (defArgs s_form_of) (defBody s_form_of) (defScope s_form_of) .none kV_form_of dc_form_of pm_form_of an_form_of cd_form_of ct_form_of), sl_form_of⟩) (c_form_of : PySem.W.codeIn K cd_form_of "form_of" = true) (k_form_of : PySem.W.keepIn K (.ref f_form_of) = true)
    {f__law_take : Addr} {od__law_take an__law_take : Option Addr} {sl__law_take : Array (Option Value)} {oc__law_take kV__law_take dc__law_take pm__law_take cd__law_take ct__law_take : Value} (a__law_take : PySem.W.nsIn K mainGlobals "_law_take" = some (some (.ref f__law_take)))
    (l__law_take : K.lookup f__law_take = some ⟨oc__law_take, od__law_take, .func (PySem.W.fnOf "_law_take" "_law_take" (defArgs s__law_take) (defBody s__law_take) (defScope s__law_take) .none kV__law_take dc__law_take pm__law_take an__law_take cd__law_take ct__law_take), sl__law_take⟩) (c__law_take : PySem.W.codeIn K cd__law_take "_law_take" = true) (k__law_take : PySem.W.keepIn K (.ref f__law_take) = true)
    {f__law_far : Addr} {od__law_far an__law_far : Option Addr} {sl__law_far : Array (Option Value)} {oc__law_far kV__law_far dc__law_far pm__law_far cd__law_far ct__law_far : Value} (a__law_far : PySem.W.nsIn K mainGlobals "_law_far" = some (some (.ref f__law_far)))
    (l__law_far : K.lookup f__law_far = some ⟨oc__law_far, od__law_far, .func (PySem.W.fnOf "_law_far" "_law_far" (defArgs s__law_far) (defBody s__law_far) (defScope s__law_far) .none kV__law_far dc__law_far pm__law_far an__law_far cd__law_far ct__law_far), sl__law_far⟩) (c__law_far : PySem.W.codeIn K cd__law_far "_law_far" = true) (k__law_far : PySem.W.keepIn K (.ref f__law_far) = true)
    {f_forms_below : Addr} {od_forms_below an_forms_below : Option Addr} {sl_forms_below : Array (Option Value)} {oc_forms_below kV_forms_below dc_forms_below pm_forms_below cd_forms_below ct_forms_below : Value} (a_forms_below : PySem.W.nsIn K mainGlobals "forms_below" = some (some (.ref f_forms_below)))
    (l_forms_below : K.lookup f_forms_below = some ⟨oc_forms_below, od_forms_below, .func (PySem.W.fnOf "forms_below" "forms_below" (defArgs s_forms_below) (defBody s_forms_below) (defScope s_forms_below) .none kV_forms_below dc_forms_below pm_forms_below an_forms_below cd_forms_below ct_forms_below), sl_forms_below⟩) (c_forms_below : PySem.W.codeIn K cd_forms_below "forms_below" = true) (k_forms_below : PySem.W.keepIn K (.ref f_forms_below) = true)
    {f_ins_of : Addr} {od_ins_of an_ins_of : Option Addr} {sl_ins_of : Array (Option Value)} {oc_ins_of kV_ins_of dc_ins_of pm_ins_of cd_ins_of ct_ins_of : Value} (a_ins_of : PySem.W.nsIn K mainGlobals "ins_of" = some (some (.ref f_ins_of)))
    (l_ins_of : K.lookup f_ins_of = some ⟨oc_ins_of, od_ins_of, .func (PySem.W.fnOf "ins_of" "ins_of" (defArgs s_ins_of) (defBody s_ins_of) (defScope s_ins_of) .none kV_ins_of dc_ins_of pm_ins_of an_ins_of cd_ins_of ct_ins_of), sl_ins_of⟩) (c_ins_of : PySem.W.codeIn K cd_ins_of "ins_of" = true) (k_ins_of : PySem.W.keepIn K (.ref f_ins_of) = true)
    {f_all_ins : Addr} {od_all_ins an_all_ins : Option Addr} {sl_all_ins : Array (Option Value)} {oc_all_ins kV_all_ins dc_all_ins pm_all_ins cd_all_ins ct_all_ins : Value} (a_all_ins : PySem.W.nsIn K mainGlobals "all_ins" = some (some (.ref f_all_ins)))
    (l_all_ins : K.lookup f_all_ins = some ⟨oc_all_ins, od_all_ins, .func (PySem.W.fnOf "all_ins" "all_ins" (defArgs s_all_ins) (defBody s_all_ins) (defScope s_all_ins) .none kV_all_ins dc_all_ins pm_all_ins an_all_ins cd_all_ins ct_all_ins), sl_all_ins⟩) (c_all_ins : PySem.W.codeIn K cd_all_ins "all_ins" = true) (k_all_ins : PySem.W.keepIn K (.ref f_all_ins) = true)
    {f_bound : Addr} {od_bound an_bound : Option Addr} {sl_bound : Array (Option Value)} {oc_bound kV_bound dc_bound pm_bound cd_bound ct_bound : Value} (a_bound : PySem.W.nsIn K mainGlobals "bound" = some (some (.ref f_bound)))
    (l_bound : K.lookup f_bound = some ⟨oc_bound, od_bound, .func (PySem.W.fnOf "bound" "bound" (defArgs s_bound) (defBody s_bound) (defScope s_bound) .none kV_bound dc_bound pm_bound an_bound cd_bound ct_bound), sl_bound⟩) (c_bound : PySem.W.codeIn K cd_bound "bound" = true) (k_bound : PySem.W.keepIn K (.ref f_bound) = true)
    {f_joint_bound : Addr} {od_joint_bound an_joint_bound : Option Addr} {sl_joint_bound : Array (Option Value)} {oc_joint_bound kV_joint_bound dc_joint_bound pm_joint_bound cd_joint_bound ct_joint_bound : Value} (a_joint_bound : PySem.W.nsIn K mainGlobals "joint_bound" = some (some (.ref f_joint_bound)))
    (l_joint_bound : K.lookup f_joint_bound = some ⟨oc_joint_bound, od_joint_bound, .func (PySem.W.fnOf "joint_bound" "joint_bound" (defArgs s_joint_bound) (defBody s_joint_bound) (defScope s_joint_bound) .none kV_joint_bound dc_joint_bound pm_joint_bound an_joint_bound cd_joint_bound ct_joint_bound), sl_joint_bound⟩) (c_joint_bound : PySem.W.codeIn K cd_joint_bound "joint_bound" = true) (k_joint_bound : PySem.W.keepIn K (.ref f_joint_bound) = true)
    {f_period : Addr} {od_period an_period : Option Addr} {sl_period : Array (Option Value)} {oc_period kV_period dc_period pm_period cd_period ct_period : Value} (a_period : PySem.W.nsIn K mainGlobals "period" = some (some (.ref f_period)))
    (l_period : K.lookup f_period = some ⟨oc_period, od_period, .func (PySem.W.fnOf "period" "period" (defArgs s_period) (defBody s_period) (defScope s_period) .none kV_period dc_period pm_period an_period cd_period ct_period), sl_period⟩) (c_period : PySem.W.codeIn K cd_period "period" = true) (k_period : PySem.W.keepIn K (.ref f_period) = true)
    {f_joint_period : Addr} {od_joint_period an_joint_period : Option Addr} {sl_joint_period : Array (Option Value)} {oc_joint_period kV_joint_period dc_joint_period pm_joint_period cd_joint_period ct_joint_period : Value} (a_joint_period : PySem.W.nsIn K mainGlobals "joint_period" = some (some (.ref f_joint_period)))
    (l_joint_period : K.lookup f_joint_period = some ⟨oc_joint_period, od_joint_period, .func (PySem.W.fnOf "joint_period" "joint_period" (defArgs s_joint_period) (defBody s_joint_period) (defScope s_joint_period) .none kV_joint_period dc_joint_period pm_joint_period an_joint_period cd_joint_period ct_joint_period), sl_joint_period⟩) (c_joint_period : PySem.W.codeIn K cd_joint_period "joint_period" = true) (k_joint_period : PySem.W.keepIn K (.ref f_joint_period) = true)
    {f_reach : Addr} {od_reach an_reach : Option Addr} {sl_reach : Array (Option Value)} {oc_reach kV_reach dc_reach pm_reach cd_reach ct_reach : Value} (a_reach : PySem.W.nsIn K mainGlobals "reach" = some (some (.ref f_reach)))
    (l_reach : K.lookup f_reach = some ⟨oc_reach, od_reach, .func (PySem.W.fnOf "reach" "reach" (defArgs s_reach) (defBody s_reach) (defScope s_reach) .none kV_reach dc_reach pm_reach an_reach cd_reach ct_reach), sl_reach⟩) (c_reach : PySem.W.codeIn K cd_reach "reach" = true) (k_reach : PySem.W.keepIn K (.ref f_reach) = true)
    {f_table : Addr} {od_table an_table : Option Addr} {sl_table : Array (Option Value)} {oc_table kV_table dc_table pm_table cd_table ct_table : Value} (a_table : PySem.W.nsIn K mainGlobals "table" = some (some (.ref f_table)))
    (l_table : K.lookup f_table = some ⟨oc_table, od_table, .func (PySem.W.fnOf "table" "table" (defArgs s_table) (defBody s_table) (defScope s_table) .none kV_table dc_table pm_table an_table cd_table ct_table), sl_table⟩) (c_table : PySem.W.codeIn K cd_table "table" = true) (k_table : PySem.W.keepIn K (.ref f_table) = true)
    {f__law_right : Addr} {od__law_right an__law_right : Option Addr} {sl__law_right : Array (Option Value)} {oc__law_right kV__law_right dc__law_right pm__law_right cd__law_right ct__law_right : Value} (a__law_right : PySem.W.nsIn K mainGlobals "_law_right" = some (some (.ref f__law_right)))
    (l__law_right : K.lookup f__law_right = some ⟨oc__law_right, od__law_right, .func (PySem.W.fnOf "_law_right" "_law_right" (defArgs s__law_right) (defBody s__law_right) (defScope s__law_right) .none kV__law_right dc__law_right pm__law_right an__law_right cd__law_right ct__law_right), sl__law_right⟩) (c__law_right : PySem.W.codeIn K cd__law_right "_law_right" = true) (k__law_right : PySem.W.keepIn K (.ref f__law_right) = true)
    {f__law_of : Addr} {od__law_of an__law_of : Option Addr} {sl__law_of : Array (Option Value)} {oc__law_of kV__law_of dc__law_of pm__law_of cd__law_of ct__law_of : Value} (a__law_of : PySem.W.nsIn K mainGlobals "_law_of" = some (some (.ref f__law_of)))
    (l__law_of : K.lookup f__law_of = some ⟨oc__law_of, od__law_of, .func (PySem.W.fnOf "_law_of" "_law_of" (defArgs s__law_of) (defBody s__law_of) (defScope s__law_of) .none kV__law_of dc__law_of pm__law_of an__law_of cd__law_of ct__law_of), sl__law_of⟩) (c__law_of : PySem.W.codeIn K cd__law_of "_law_of" = true) (k__law_of : PySem.W.keepIn K (.ref f__law_of) = true)
    {f__law_range : Addr} {od__law_range an__law_range : Option Addr} {sl__law_range : Array (Option Value)} {oc__law_range kV__law_range dc__law_range pm__law_range cd__law_range ct__law_range : Value} (a__law_range : PySem.W.nsIn K mainGlobals "_law_range" = some (some (.ref f__law_range)))
    (l__law_range : K.lookup f__law_range = some ⟨oc__law_range, od__law_range, .func (PySem.W.fnOf "_law_range" "_law_range" (defArgs s__law_range) (defBody s__law_range) (defScope s__law_range) .none kV__law_range dc__law_range pm__law_range an__law_range cd__law_range ct__law_range), sl__law_range⟩) (c__law_range : PySem.W.codeIn K cd__law_range "_law_range" = true) (k__law_range : PySem.W.keepIn K (.ref f__law_range) = true)
    {f__law_condition : Addr} {od__law_condition an__law_condition : Option Addr} {sl__law_condition : Array (Option Value)} {oc__law_condition kV__law_condition dc__law_condition pm__law_condition cd__law_condition ct__law_condition : Value} (a__law_condition : PySem.W.nsIn K mainGlobals "_law_condition" = some (some (.ref f__law_condition)))
    (l__law_condition : K.lookup f__law_condition = some ⟨oc__law_condition, od__law_condition, .func (PySem.W.fnOf "_law_condition" "_law_condition" (defArgs s__law_condition) (defBody s__law_condition) (defScope s__law_condition) .none kV__law_condition dc__law_condition pm__law_condition an__law_condition cd__law_condition ct__law_condition), sl__law_condition⟩) (c__law_condition : PySem.W.codeIn K cd__law_condition "_law_condition" = true) (k__law_condition : PySem.W.keepIn K (.ref f__law_condition) = true)
    {f__law_rules : Addr} {od__law_rules an__law_rules : Option Addr} {sl__law_rules : Array (Option Value)} {oc__law_rules kV__law_rules dc__law_rules pm__law_rules cd__law_rules ct__law_rules : Value} (a__law_rules : PySem.W.nsIn K mainGlobals "_law_rules" = some (some (.ref f__law_rules)))
    (l__law_rules : K.lookup f__law_rules = some ⟨oc__law_rules, od__law_rules, .func (PySem.W.fnOf "_law_rules" "_law_rules" (defArgs s__law_rules) (defBody s__law_rules) (defScope s__law_rules) .none kV__law_rules dc__law_rules pm__law_rules an__law_rules cd__law_rules ct__law_rules), sl__law_rules⟩) (c__law_rules : PySem.W.codeIn K cd__law_rules "_law_rules" = true) (k__law_rules : PySem.W.keepIn K (.ref f__law_rules) = true)
    {f__law_pot : Addr} {od__law_pot an__law_pot : Option Addr} {sl__law_pot : Array (Option Value)} {oc__law_pot kV__law_pot dc__law_pot pm__law_pot cd__law_pot ct__law_pot : Value} (a__law_pot : PySem.W.nsIn K mainGlobals "_law_pot" = some (some (.ref f__law_pot)))
    (l__law_pot : K.lookup f__law_pot = some ⟨oc__law_pot, od__law_pot, .func (PySem.W.fnOf "_law_pot" "_law_pot" (defArgs s__law_pot) (defBody s__law_pot) (defScope s__law_pot) .none kV__law_pot dc__law_pot pm__law_pot an__law_pot cd__law_pot ct__law_pot), sl__law_pot⟩) (c__law_pot : PySem.W.codeIn K cd__law_pot "_law_pot" = true) (k__law_pot : PySem.W.keepIn K (.ref f__law_pot) = true)
    {f_law : Addr} {od_law an_law : Option Addr} {sl_law : Array (Option Value)} {oc_law kV_law dc_law pm_law cd_law ct_law : Value} (a_law : PySem.W.nsIn K mainGlobals "law" = some (some (.ref f_law)))
    (l_law : K.lookup f_law = some ⟨oc_law, od_law, .func (PySem.W.fnOf "law" "law" (defArgs s_law) (defBody s_law) (defScope s_law) .none kV_law dc_law pm_law an_law cd_law ct_law), sl_law⟩) (c_law : PySem.W.codeIn K cd_law "law" = true) (k_law : PySem.W.keepIn K (.ref f_law) = true)
    (b_abs : PySem.W.nsIn K mainGlobals "abs" = some none)
    (b_all : PySem.W.nsIn K mainGlobals "all" = some none)
    (b_any : PySem.W.nsIn K mainGlobals "any" = some none)
    (b_enumerate : PySem.W.nsIn K mainGlobals "enumerate" = some none)
    (b_int : PySem.W.nsIn K mainGlobals "int" = some none)
    (b_len : PySem.W.nsIn K mainGlobals "len" = some none)
    (b_max : PySem.W.nsIn K mainGlobals "max" = some none)
    (b_min : PySem.W.nsIn K mainGlobals "min" = some none)
    (b_range : PySem.W.nsIn K mainGlobals "range" = some none)
    (b_tuple : PySem.W.nsIn K mainGlobals "tuple" = some none)
    {t_ALL : Tok} (n_ALL : PySem.W.nsIn K mainGlobals "ALL" = some (some (.str "all" t_ALL)))
    {t_IN : Tok} (n_IN : PySem.W.nsIn K mainGlobals "IN" = some (some (.str "in" t_IN)))
    {t_NOT : Tok} (n_NOT : PySem.W.nsIn K mainGlobals "NOT" = some (some (.str "not" t_NOT)))
    : ∃ fd : FuncData, (∀ (s : Shared) (v : Value), BindsTo s fd ⟨[v], []⟩ [("_law_script", v)]) ∧ ∀ base : Heap, K.In base → base.Ns mainGlobals mg → FnG l.prog w K mg base L2.CX0 13 fa fd ["_law_script"] spLaw := by
  have e := hfa.symm.trans (PySem.W.mg_of X G a_law)
  cases e
  have T : Txt K mg := { b_abs := PySem.W.mg_none_of X G b_abs, b_all := PySem.W.mg_none_of X G b_all, b_any := PySem.W.mg_none_of X G b_any, b_enumerate := PySem.W.mg_none_of X G b_enumerate, b_int := PySem.W.mg_none_of X G b_int, b_len := PySem.W.mg_none_of X G b_len, b_max := PySem.W.mg_none_of X G b_max, b_min := PySem.W.mg_none_of X G b_min, b_range := PySem.W.mg_none_of X G b_range, b_tuple := PySem.W.mg_none_of X G b_tuple, c_ALL := ⟨_, PySem.W.mg_of X G n_ALL⟩, c_IN := ⟨_, PySem.W.mg_of X G n_IN⟩, c_NOT := ⟨_, PySem.W.mg_of X G n_NOT⟩, yes := True.intro }
  have U__law_is := fun_mk (st := s__law_is) l__law_is c__law_is k__law_is
  have F__law_is := fnf (ps := ["_law_condition_here", "_law_number"]) X G a__law_is U__law_is (U__law_is.binds fun _ _ _ _ _ _ us hl => match us, hl with | [_, _], _ => rfl) k__law_is
  have U__law_form := fun_mk (st := s__law_form) l__law_form c__law_form k__law_form
  have F__law_form := fnf (ps := ["_law_rules_here", "_law_number"]) X G a__law_form U__law_form (U__law_form.binds fun _ _ _ _ _ _ us hl => match us, hl with | [_, _], _ => rfl) k__law_form
  have U_holds := fun_mk (st := s_holds) l_holds c_holds k_holds
  have F_holds := fnf (ps := ["condition", "number"]) X G a_holds U_holds (U_holds.binds fun _ _ _ _ _ _ us hl => match us, hl with | [_, _], _ => rfl) k_holds
  have U_row_of := fun_mk (st := s_row_of) l_row_of c_row_of k_row_of
  have F_row_of := fnf (ps := ["rules", "number"]) X G a_row_of U_row_of (U_row_of.binds fun _ _ _ _ _ _ us hl => match us, hl with | [_, _], _ => rfl) k_row_of
  have U_form_of := fun_mk (st := s_form_of) l_form_of c_form_of k_form_of
  have F_form_of := fnf (ps := ["rules", "number"]) X G a_form_of U_form_of (U_form_of.binds fun _ _ _ _ _ _ us hl => match us, hl with | [_, _], _ => rfl) k_form_of
  have U__law_take := fun_mk (st := s__law_take) l__law_take c__law_take k__law_take
  have F__law_take := fnf (ps := ["_law_pot_here", "_law_upto"]) X G a__law_take U__law_take (U__law_take.binds fun _ _ _ _ _ _ us hl => match us, hl with | [_, _], _ => rfl) k__law_take
  have U__law_far := fun_mk (st := s__law_far) l__law_far c__law_far k__law_far
  have F__law_far := fnf (ps := ["_law_pot_here", "_law_edges"]) X G a__law_far U__law_far (U__law_far.binds fun _ _ _ _ _ _ us hl => match us, hl with | [_, _], _ => rfl) k__law_far
  have U_forms_below := fun_mk (st := s_forms_below) l_forms_below c_forms_below k_forms_below
  have F_forms_below := fnf (ps := ["rules", "stop"]) X G a_forms_below U_forms_below (U_forms_below.binds fun _ _ _ _ _ _ us hl => match us, hl with | [_, _], _ => rfl) k_forms_below
  have U_ins_of := fun_mk (st := s_ins_of) l_ins_of c_ins_of k_ins_of
  have F_ins_of := fnf (ps := ["condition"]) X G a_ins_of U_ins_of (U_ins_of.binds fun _ _ _ _ _ _ us hl => match us, hl with | [_], _ => rfl) k_ins_of
  have U_all_ins := fun_mk (st := s_all_ins) l_all_ins c_all_ins k_all_ins
  have F_all_ins := fnf (ps := ["rules"]) X G a_all_ins U_all_ins (U_all_ins.binds fun _ _ _ _ _ _ us hl => match us, hl with | [_], _ => rfl) k_all_ins
  have U_bound := fun_mk (st := s_bound) l_bound c_bound k_bound
  have F_bound := fnf (ps := ["rules"]) X G a_bound U_bound (U_bound.binds fun _ _ _ _ _ _ us hl => match us, hl with | [_], _ => rfl) k_bound
  have U_joint_bound := fun_mk (st := s_joint_bound) l_joint_bound c_joint_bound k_joint_bound
  have F_joint_bound := fnf (ps := ["some"]) X G a_joint_bound U_joint_bound (U_joint_bound.binds fun _ _ _ _ _ _ us hl => match us, hl with | [_], _ => rfl) k_joint_bound
  have U_period := fun_mk (st := s_period) l_period c_period k_period
  have F_period := fnf (ps := ["rules"]) X G a_period U_period (U_period.binds fun _ _ _ _ _ _ us hl => match us, hl with | [_], _ => rfl) k_period
  have U_joint_period := fun_mk (st := s_joint_period) l_joint_period c_joint_period k_joint_period
  have F_joint_period := fnf (ps := ["some"]) X G a_joint_period U_joint_period (U_joint_period.binds fun _ _ _ _ _ _ us hl => match us, hl with | [_], _ => rfl) k_joint_period
  have U_reach := fun_mk (st := s_reach) l_reach c_reach k_reach
  have F_reach := fnf (ps := ["some"]) X G a_reach U_reach (U_reach.binds fun _ _ _ _ _ _ us hl => match us, hl with | [_], _ => rfl) k_reach
  have U_table := fun_mk (st := s_table) l_table c_table k_table
  have F_table := fnf (ps := ["rules"]) X G a_table U_table (U_table.binds fun _ _ _ _ _ _ us hl => match us, hl with | [_], _ => rfl) k_table
  have U__law_right := fun_mk (st := s__law_right) l__law_right c__law_right k__law_right
  have F__law_right := fnf (ps := ["_law_pot_here", "_law_drawn"]) X G a__law_right U__law_right (U__law_right.binds fun _ _ _ _ _ _ us hl => match us, hl with | [_, _], _ => rfl) k__law_right
  have U__law_of := fun_mk (st := s__law_of) l__law_of c__law_of k__law_of
  have F__law_of := fnf (ps := ["_law_pot_here", "_law_some"]) X G a__law_of U__law_of (U__law_of.binds fun _ _ _ _ _ _ us hl => match us, hl with | [_, _], _ => rfl) k__law_of
  have U__law_range := fun_mk (st := s__law_range) l__law_range c__law_range k__law_range
  have F__law_range := fnf (ps := ["_law_pot_here", "_law_moduli"]) X G a__law_range U__law_range (U__law_range.binds fun _ _ _ _ _ _ us hl => match us, hl with | [_, _], _ => rfl) k__law_range
  have U__law_condition := fun_mk (st := s__law_condition) l__law_condition c__law_condition k__law_condition
  have F__law_condition := fnf (ps := ["_law_pot_here", "_law_moduli", "_law_deep"]) X G a__law_condition U__law_condition (U__law_condition.binds fun _ _ _ _ _ _ us hl => match us, hl with | [_, _, _], _ => rfl) k__law_condition
  have U__law_rules := fun_mk (st := s__law_rules) l__law_rules c__law_rules k__law_rules
  have F__law_rules := fnf (ps := ["_law_pot_here"]) X G a__law_rules U__law_rules (U__law_rules.binds fun _ _ _ _ _ _ us hl => match us, hl with | [_], _ => rfl) k__law_rules
  have U__law_pot := fun_mk (st := s__law_pot) l__law_pot c__law_pot k__law_pot
  have F__law_pot := fnf (ps := ["_law_script", "_law_k"]) X G a__law_pot U__law_pot (U__law_pot.binds fun _ _ _ _ _ _ us hl => match us, hl with | [_, _], _ => rfl) k__law_pot
  have U_law := fun_mk (st := s_law) l_law c_law k_law
  have F_law := fnf (ps := ["_law_script"]) X G a_law U_law (U_law.binds fun _ _ _ _ _ _ us hl => match us, hl with | [_], _ => rfl) k_law
  refine ⟨PySem.W.fnOf "law" "law" (defArgs s_law) (defBody s_law) (defScope s_law) .none kV_law dc_law pm_law an_law cd_law ct_law, fun s v => .of_eq rfl, fun base _ _ => ?_⟩
  have R__law_is : ∀ d : Nat, FnG l.prog w K mg base L2.CX0 (0 + d) f__law_is _ ["_law_condition_here", "_law_number"] (spHolds d) := fun d => by
    induction d with
    | zero => exact spHolds_zero
    | succ d ih => exact ok__law_is T F__law_is ih F__law_is (pl__law_is d)
  have C__law_is := R__law_is 6
  have C__law_form : FnG l.prog w K mg base L2.CX0 7 f__law_form _ ["_law_rules_here", "_law_number"] (spForm 6) := ok__law_form T F__law_is (C__law_is.mono_k (by decide)) F__law_form (pl__law_form 6)
  have R_holds : ∀ d : Nat, FnG l.prog w K mg base L2.CX0 (0 + d) f_holds _ ["condition", "number"] (spHolds d) := fun d => by
    induction d with
    | zero => exact spHolds_zero
    | succ d ih => exact ok_holds T F_holds ih F_holds (pl_holds d)
  have C_holds := R_holds 6
  have C_row_of : FnG l.prog w K mg base L2.CX0 7 f_row_of _ ["rules", "number"] (spRow 6) := ok_row_of T F_holds (C_holds.mono_k (by decide)) F_row_of (pl_row_of 6)
  have C_form_of : FnG l.prog w K mg base L2.CX0 8 f_form_of _ ["rules", "number"] (spForm 6) := ok_form_of T F_row_of (C_row_of.mono_k (by decide)) F_form_of (pl_form_of 6)
  have C__law_take : FnG l.prog w K mg base L2.CX0 1 f__law_take _ ["_law_pot_here", "_law_upto"] (spTake) := ok__law_take T  F__law_take (pl__law_take)
  have C__law_far : FnG l.prog w K mg base L2.CX0 2 f__law_far _ ["_law_pot_here", "_law_edges"] (spFar) := ok__law_far T F__law_take (C__law_take.mono_k (by decide)) F__law_far (pl__law_far)
  have C_forms_below : FnG l.prog w K mg base L2.CX0 9 f_forms_below _ ["rules", "stop"] (spBelow 6) := ok_forms_below T F_form_of (C_form_of.mono_k (by decide)) F_forms_below (pl_forms_below 6)
  have R_ins_of : ∀ d : Nat, FnG l.prog w K mg base L2.CX0 (0 + d) f_ins_of _ ["condition"] (spIns d) := fun d => by
    induction d with
    | zero => exact spIns_zero
    | succ d ih => exact ok_ins_of T F_ins_of ih F_ins_of (pl_ins_of d)
  have C_ins_of := R_ins_of 6
  have C_all_ins : FnG l.prog w K mg base L2.CX0 7 f_all_ins _ ["rules"] (spAllIns 6) := ok_all_ins T F_ins_of (C_ins_of.mono_k (by decide)) F_all_ins (pl_all_ins 6)
  have C_bound : FnG l.prog w K mg base L2.CX0 8 f_bound _ ["rules"] (spBound 6) := ok_bound T F_all_ins (C_all_ins.mono_k (by decide)) F_bound (pl_bound 6)
  have C_joint_bound : FnG l.prog w K mg base L2.CX0 9 f_joint_bound _ ["some"] (spJ bndJ 6) := ok_joint_bound T F_bound (C_bound.mono_k (by decide)) F_joint_bound (pl_joint_bound 6)
  have C_period : FnG l.prog w K mg base L2.CX0 8 f_period _ ["rules"] (spPeriod 6) := ok_period T F_all_ins (C_all_ins.mono_k (by decide)) F_period (pl_period 6)
  have C_joint_period : FnG l.prog w K mg base L2.CX0 9 f_joint_period _ ["some"] (spJ prdJ 6) := ok_joint_period T F_period (C_period.mono_k (by decide)) F_joint_period (pl_joint_period 6)
  have C_reach : FnG l.prog w K mg base L2.CX0 10 f_reach _ ["some"] (spJ reachJ 6) := ok_reach T F_joint_bound (C_joint_bound.mono_k (by decide)) F_joint_period (C_joint_period.mono_k (by decide)) F_reach (pl_reach 6)
  have C_table : FnG l.prog w K mg base L2.CX0 11 f_table _ ["rules"] (spTable 6) := ok_table T F_forms_below (C_forms_below.mono_k (by decide)) F_reach (C_reach.mono_k (by decide)) F_table (pl_table 6)
  have C__law_right : FnG l.prog w K mg base L2.CX0 12 f__law_right _ ["_law_pot_here", "_law_drawn"] (spRight) := ok__law_right T F__law_form (C__law_form.mono_k (by decide)) F_form_of (C_form_of.mono_k (by decide)) F__law_far (C__law_far.mono_k (by decide)) F__law_take (C__law_take.mono_k (by decide)) F_table (C_table.mono_k (by decide)) F_period (C_period.mono_k (by decide)) F_bound (C_bound.mono_k (by decide)) F__law_right (pl__law_right)
  have C__law_of : FnG l.prog w K mg base L2.CX0 2 f__law_of _ ["_law_pot_here", "_law_some"] (spOf) := ok__law_of T F__law_take (C__law_take.mono_k (by decide)) F__law_of (pl__law_of)
  have C__law_range : FnG l.prog w K mg base L2.CX0 3 f__law_range _ ["_law_pot_here", "_law_moduli"] (spRange) := ok__law_range T F__law_of (C__law_of.mono_k (by decide)) F__law_take (C__law_take.mono_k (by decide)) F__law_range (pl__law_range)
  have R__law_condition : ∀ d : Nat, FnG l.prog w K mg base L2.CX0 (3 + d) f__law_condition _ ["_law_pot_here", "_law_moduli", "_law_deep"] (spCond d) := fun d => by
    induction d with
    | zero => exact spCond_zero
    | succ d ih => exact ok__law_condition T F__law_take (C__law_take.mono_k (by omega)) F__law_condition ih F__law_range (C__law_range.mono_k (by omega)) F__law_condition (pl__law_condition d)
  have C__law_condition := R__law_condition 3
  have C__law_rules : FnG l.prog w K mg base L2.CX0 7 f__law_rules _ ["_law_pot_here"] (spRules) := ok__law_rules T F__law_of (C__law_of.mono_k (by decide)) F__law_condition (C__law_condition.mono_k (by decide)) F__law_take (C__law_take.mono_k (by decide)) F__law_rules (pl__law_rules)
  have C__law_pot : FnG l.prog w K mg base L2.CX0 1 f__law_pot _ ["_law_script", "_law_k"] (spPot) := ok__law_pot T  F__law_pot (pl__law_pot)
  have C_law : FnG l.prog w K mg base L2.CX0 13 fa _ ["_law_script"] (spLaw) := ok_law T F__law_right (C__law_right.mono_k (by decide)) F__law_rules (C__law_rules.mono_k (by decide)) F__law_pot (C__law_pot.mono_k (by decide)) F_law (pl_law)
  exact C_law
end Lw
open PySem PySem.W PyProof.Rows in
set_option maxRecDepth 100000 in
set_option maxHeartbeats 0 in
theorem PySem.Challenge.cw_pluralforms_k11_whole_forms_of_great_num_holds : PySem.Challenge.rw_pluralforms_k11_whole_forms_of_great_num.Holds := by
  w_on; o_law; k_head; (case hw => w_witness2)
  k_fill
  refine CL.law_end (l := PySem.Challenge.rw_pluralforms_k11_whole_forms_of_great_num) (n := 63) (k := 13) (x := "_law_script") (sp := fun _ => Lw.spLaw) rfl (by decide) rfl (CL.room_caller (by decide)) (fun w h Y => PySem.W.kIn_of Y) ?F Lw.law_sp
  case F =>
    intro w mg fa h KX G hmg
    refine' Lw.all_mk KX G hmg ?a__law_is ?l__law_is ?c__law_is ?k__law_is ?a__law_form ?l__law_form ?c__law_form ?k__law_form ?a_holds ?l_holds ?c_holds ?k_holds ?a_row_of ?l_row_of ?c_row_of ?k_row_of ?a_form_of ?l_form_of ?c_form_of ?k_form_of ?a__law_take ?l__law_take ?c__law_take ?k__law_take ?a__law_far ?l__law_far ?c__law_far ?k__law_far ?a_forms_below ?l_forms_below ?c_forms_below ?k_forms_below ?a_ins_of ?l_ins_of ?c_ins_of ?k_ins_of ?a_all_ins ?l_all_ins ?c_all_ins ?k_all_ins ?a_bound ?l_bound ?c_bound ?k_bound ?a_joint_bound ?l_joint_bound ?c_joint_bound ?k_joint_bound ?a_period ?l_period ?c_period ?k_period ?a_joint_period ?l_joint_period ?c_joint_period ?k_joint_period ?a_reach ?l_reach ?c_reach ?k_reach ?a_table ?l_table ?c_table ?k_table ?a__law_right ?l__law_right ?c__law_right ?k__law_right ?a__law_of ?l__law_of ?c__law_of ?k__law_of ?a__law_range ?l__law_range ?c__law_range ?k__law_range ?a__law_condition ?l__law_condition ?c__law_condition ?k__law_condition ?a__law_rules ?l__law_rules ?c__law_rules ?k__law_rules ?a__law_pot ?l__law_pot ?c__law_pot ?k__law_pot ?a_law ?l_law ?c_law ?k_law ?b_abs ?b_all ?b_any ?b_enumerate ?b_int ?b_len ?b_max ?b_min ?b_range ?b_tuple ?n_ALL ?n_IN ?n_NOT
    (case a__law_is => k_is)
    (case l__law_is => k_is)
    (case c__law_is => k_is)
    (case k__law_is => k_is)
    (case a__law_form => k_is)
    (case l__law_form => k_is)
    (case c__law_form => k_is)
    (case k__law_form => k_is)
    (case a_holds => k_is)
    (case l_holds => k_is)
    (case c_holds => k_is)
    (case k_holds => k_is)
    (case a_row_of => k_is)
    (case l_row_of => k_is)
    (case c_row_of => k_is)
    (case k_row_of => k_is)
    (case a_form_of => k_is)
    (case l_form_of => k_is)
    (case c_form_of => k_is)
    (case k_form_of => k_is)
    (case a__law_take => k_is)
    (case l__law_take => k_is)
    (case c__law_take => k_is)
    (case k__law_take => k_is)
    (case a__law_far => k_is)
    (case l__law_far => k_is)
    (case c__law_far => k_is)
    (case k__law_far => k_is)
    (case a_forms_below => k_is)
    (case l_forms_below => k_is)
    (case c_forms_below => k_is)
    (case k_forms_below => k_is)
    (case a_ins_of => k_is)
    (case l_ins_of => k_is)
    (case c_ins_of => k_is)
    (case k_ins_of => k_is)
    (case a_all_ins => k_is)
    (case l_all_ins => k_is)
    (case c_all_ins => k_is)
    (case k_all_ins => k_is)
    (case a_bound => k_is)
    (case l_bound => k_is)
    (case c_bound => k_is)
    (case k_bound => k_is)
    (case a_joint_bound => k_is)
    (case l_joint_bound => k_is)
    (case c_joint_bound => k_is)
    (case k_joint_bound => k_is)
    (case a_period => k_is)
    (case l_period => k_is)
    (case c_period => k_is)
    (case k_period => k_is)
    (case a_joint_period => k_is)
    (case l_joint_period => k_is)
    (case c_joint_period => k_is)
    (case k_joint_period => k_is)
    (case a_reach => k_is)
    (case l_reach => k_is)
    (case c_reach => k_is)
    (case k_reach => k_is)
    (case a_table => k_is)
    (case l_table => k_is)
    (case c_table => k_is)
    (case k_table => k_is)
    (case a__law_right => k_is)
    (case l__law_right => k_is)
    (case c__law_right => k_is)
    (case k__law_right => k_is)
    (case a__law_of => k_is)
    (case l__law_of => k_is)
    (case c__law_of => k_is)
    (case k__law_of => k_is)
    (case a__law_range => k_is)
    (case l__law_range => k_is)
    (case c__law_range => k_is)
    (case k__law_range => k_is)
    (case a__law_condition => k_is)
    (case l__law_condition => k_is)
    (case c__law_condition => k_is)
    (case k__law_condition => k_is)
    (case a__law_rules => k_is)
    (case l__law_rules => k_is)
    (case c__law_rules => k_is)
    (case k__law_rules => k_is)
    (case a__law_pot => k_is)
    (case l__law_pot => k_is)
    (case c__law_pot => k_is)
    (case k__law_pot => k_is)
    (case a_law => k_is)
    (case l_law => k_is)
    (case c_law => k_is)
    (case k_law => k_is)
    (case b_abs => k_is)
    (case b_all => k_is)
    (case b_any => k_is)
    (case b_enumerate => k_is)
    (case b_int => k_is)
    (case b_len => k_is)
    (case b_max => k_is)
    (case b_min => k_is)
    (case b_range => k_is)
    (case b_tuple => k_is)
    (case n_ALL => k_is)
    (case n_IN => k_is)
    (case n_NOT => k_is)
#print axioms PySem.Challenge.cw_pluralforms_k11_whole_forms_of_great_num_holds
