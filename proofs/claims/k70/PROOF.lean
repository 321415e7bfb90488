import PyProof.Rows.All
import Wide.All
import OpenK.AllK
import Wide.FinOn
import KE.KStateDown
import HandS.ForMost
import HandS.Exc
import HandS.TryOnly
import HandS.CallSlots
import HandS.Defaults
import HandS.HeadHook1
import HandS.HeadHook2
import PyProof.StrOps2
import HandS.ExcOwn
import HandS.IsInst
import HandS.RaiseMore
import HandS.FStr
import HandS.Conv
import HandS.Rev
import HandS.RevTup
import HandS.Style
import HandS.Flow
import HandS.Dict
import Flt.Ops
import KE.KRevSl
import KE.KDictList
import HandS.Small
import PyProof.Rows.StrIntSpec
import HandS.Property
import HandS.Codes
import HandS.Text
import HandS.More
import HandS.HeadNt
import HandS.HeadEnd
import HandS.Ends
import HandS.Head0
import HandS.Head1
import HandS.Head2
import PySem.Challenge.RW_keptjoined_k70_record_sums
set_option Elab.async false
set_option linter.all false
set_option maxRecDepth 100000
set_option maxHeartbeats 4000000
/-! Pure readings: data D without a heap; what represents a datum (Rep); cells that are frozen or owned. -/
namespace Pu
open PySem PySem.Spec PyProof.Rows L2
inductive D where
  | non | bl (b : Bool) | int (i : Int) | str (x : Str)
  | lst (xs : List D) | tup (xs : List D)
  | dic (ks : List Key) (vs : List D)
  | obj (c : Str) (fs : List Str) (vs : List D)
  | sto
  | ptr (a : Addr)
/-- the drawn store: its list, the list of the script's numbers in it, these numbers -/
structure Sto where
  s : Addr
  c : Addr
  ns : List Int
def IsS (so : Option Sto) (a : Addr) : Prop := ∃ S, so = some S ∧ S.s = a
/-- the part of the written text: a tuple there -/
def KTup (K : PySem.W.Frag) (a : Addr) (xs : List V) : Prop :=
  ∃ (o : Obj) (its : Array Value) (n : Nat), K.lookup a = some o ∧ o.cls = .type "tuple" ∧ o.data = .seq its n ∧ its.size ≤ sizeLine ∧ Vals xs its.toList
mutual
def Rep (K : PySem.W.Frag) (so : Option Sto) (A : Addr → Prop) (H : Hp) : D → V → Prop
  | .non, v => v = .non
  | .bl b, v => v = .bl b
  | .int i, v => v = .int i
  | .str x, v => v = .str x
  | .lst xs, v => ∃ a us, v = .ref a ∧ ¬ A a ∧ H a = some (.lst us) ∧ Reps K so A H xs us
  | .tup xs, v => ∃ a us, v = .ref a ∧ ((¬ A a ∧ H a = some (.tup us)) ∨ KTup K a us) ∧ Reps K so A H xs us
  | .dic ks vs, v => ∃ a us, v = .ref a ∧ ¬ A a ∧ H a = some (.dK us) ∧ us.map (·.1) = ks ∧ Reps K so A H vs (us.map (·.2))
  | .obj c fs vs, v => ∃ a dx us, v = .ref a ∧ ¬ A a ∧ H a = some (.ins (He.ga K c) dx us) ∧ us.map (·.1) = fs ∧ Reps K so A H vs (us.map (·.2))
  | .sto, v => ∃ S, so = some S ∧ v = .ref S.s
  | .ptr a, v => v = .ref a
def Reps (K : PySem.W.Frag) (so : Option Sto) (A : Addr → Prop) (H : Hp) : List D → List V → Prop
  | [], us => us = []
  | d :: ds, us => ∃ u r, us = u :: r ∧ Rep K so A H d u ∧ Reps K so A H ds r
end
/-- what may be told of a heap that comes behind: all but the store stands -/
def Ext (so : Option Sto) (H H' : Hp) : Prop := ∀ a o, ¬ IsS so a → H a = some o → H' a = some o
theorem Ext.refl (so : Option Sto) (H : Hp) : Ext so H H := fun _ _ _ h => h
theorem Ext.trans {so : Option Sto} {H H1 H2 : Hp} (a : Ext so H H1) (b : Ext so H1 H2) : Ext so H H2 := fun x o n h => b x o n (a x o n h)
theorem Ext.new {so : Option Sto} {H : Hp} {p : Addr} {o : HO} (h : H p = none) : Ext so H (upd H p o) := fun a u _ e => by
  rw [upd_ne (ne_of_none e h)]
  exact e
theorem neA {A : Addr → Prop} {a p : Addr} (hp : A p) (na : ¬ A a) : a ≠ p := fun z => na (by rw [z]; exact hp)
section
variable {K : PySem.W.Frag} {so : Option Sto} {A A' : Addr → Prop} {H H' : Hp}
/-- what stands and is kept away from nobody stands behind, too -/
def Kp (A A' : Addr → Prop) (H H' : Hp) : Prop := ∀ a o, H a = some o → ¬ A a → H' a = some o ∧ ¬ A' a
mutual
theorem Rep.kp (e : Kp A A' H H') : ∀ (d : D) (v : V), Rep K so A H d v → Rep K so A' H' d v
  | .non, _, h => h
  | .bl _, _, h => h
  | .int _, _, h => h
  | .str _, _, h => h
  | .lst xs, v, h => by
    unfold Rep at h ⊢
    obtain ⟨a, us, ev, na, ha, r⟩ := h
    exact ⟨a, us, ev, (e a _ ha na).2, (e a _ ha na).1, Reps.kp e xs us r⟩
  | .tup xs, v, h => by
    unfold Rep at h ⊢
    obtain ⟨a, us, ev, ha, r⟩ := h
    refine ⟨a, us, ev, ?_, Reps.kp e xs us r⟩
    rcases ha with ⟨na, ha⟩ | ha
    · exact .inl ⟨(e a _ ha na).2, (e a _ ha na).1⟩
    · exact .inr ha
  | .dic ks vs, v, h => by
    unfold Rep at h ⊢
    obtain ⟨a, us, ev, na, ha, ek, r⟩ := h
    exact ⟨a, us, ev, (e a _ ha na).2, (e a _ ha na).1, ek, Reps.kp e vs _ r⟩
  | .obj c fs vs, v, h => by
    unfold Rep at h ⊢
    obtain ⟨a, dx, us, ev, na, ha, ek, r⟩ := h
    exact ⟨a, dx, us, ev, (e a _ ha na).2, (e a _ ha na).1, ek, Reps.kp e vs _ r⟩
  | .sto, _, h => h
  | .ptr _, _, h => h
theorem Reps.kp (e : Kp A A' H H') : ∀ (ds : List D) (vs : List V), Reps K so A H ds vs → Reps K so A' H' ds vs
  | [], _, h => h
  | d :: ds, us, h => by
    unfold Reps at h ⊢
    obtain ⟨u, r, eu, h1, h2⟩ := h
    exact ⟨u, r, eu, Rep.kp e d u h1, Reps.kp e ds r h2⟩
end
theorem Kp.refl : Kp A A H H := fun _ _ h n => ⟨h, n⟩
theorem Kp.trans {A'' : Addr → Prop} {H'' : Hp} (a : Kp A A' H H') (b : Kp A' A'' H' H'') : Kp A A'' H H'' := fun x o h n => b x o (a x o h n).1 (a x o h n).2
theorem Kp.weak (h : ∀ a, A' a → A a) : Kp A A' H H := fun a o e n => ⟨e, fun z => n (h a z)⟩
theorem Kp.away {p : Addr} (hp : H p = none) : Kp A (fun a => A a ∨ a = p) H H := fun a o e n => ⟨e, fun z => z.elim n (ne_of_none e hp)⟩
theorem Kp.unseen {p : Addr} {o : HO} (hp : A p) : Kp A A H (upd H p o) := fun a u e n => ⟨by rw [upd_ne (neA hp n)]; exact e, n⟩
theorem Kp.new {p : Addr} {o : HO} (hp : H p = none) : Kp A A H (upd H p o) := fun a u e n => ⟨by rw [upd_ne (ne_of_none e hp)]; exact e, n⟩
theorem Reps.length : ∀ {ds : List D} {us : List V}, Reps K so A H ds us → us.length = ds.length
  | [], us, h => by unfold Reps at h; rw [h]; rfl
  | d :: ds, us, h => by
    unfold Reps at h
    obtain ⟨u, r, rfl, _, h2⟩ := h
    rw [List.length_cons, List.length_cons, Reps.length h2]
theorem Reps.get : ∀ {ds : List D} {us : List V} {i : Nat} {d : D}, Reps K so A H ds us → ds[i]? = some d → ∃ u, us[i]? = some u ∧ Rep K so A H d u
  | [], _, i, d, _, e => by simp at e
  | d :: ds, us, i, d', h, e => by
    unfold Reps at h
    obtain ⟨u, r, rfl, h1, h2⟩ := h
    cases i with
    | zero =>
      have e : d = d' := by simpa using e
      subst e
      exact ⟨u, rfl, h1⟩
    | succ i => exact Reps.get (i := i) h2 (by simpa using e)
theorem Reps.get' : ∀ {ds : List D} {us : List V} {i : Nat} {u : V}, Reps K so A H ds us → us[i]? = some u → ∃ d, ds[i]? = some d ∧ Rep K so A H d u
  | [], _, i, d, h, e => by
    unfold Reps at h
    rw [h] at e
    simp at e
  | d :: ds, us, i, d', h, e => by
    unfold Reps at h
    obtain ⟨u, r, rfl, h1, h2⟩ := h
    cases i with
    | zero =>
      have e : u = d' := by simpa using e
      subst e
      exact ⟨d, rfl, h1⟩
    | succ i => exact Reps.get' (i := i) h2 (by simpa using e)
theorem Reps.append : ∀ {ds es : List D} {us vs : List V}, Reps K so A H ds us → Reps K so A H es vs → Reps K so A H (ds ++ es) (us ++ vs)
  | [], es, us, vs, h, k => by
    unfold Reps at h
    rw [h]
    exact k
  | d :: ds, es, us, vs, h, k => by
    unfold Reps at h
    obtain ⟨u, r, rfl, h1, h2⟩ := h
    show Reps K so A H (d :: (ds ++ es)) (u :: (r ++ vs))
    unfold Reps
    exact ⟨u, r ++ vs, rfl, h1, Reps.append h2 k⟩
theorem Reps.drop : ∀ {ds : List D} {us : List V} (n : Nat), Reps K so A H ds us → Reps K so A H (ds.drop n) (us.drop n)
  | _, _, 0, h => h
  | [], us, n + 1, h => by
    unfold Reps at h
    rw [h]
    unfold Reps
    rfl
  | d :: ds, us, n + 1, h => by
    unfold Reps at h
    obtain ⟨u, r, rfl, h1, h2⟩ := h
    exact Reps.drop n h2
theorem Reps.take : ∀ {ds : List D} {us : List V} (n : Nat), Reps K so A H ds us → Reps K so A H (ds.take n) (us.take n)
  | _, _, 0, h => by
    show Reps K so A H [] []
    unfold Reps
    rfl
  | [], us, n + 1, h => by
    unfold Reps at h
    rw [h]
    unfold Reps
    rfl
  | d :: ds, us, n + 1, h => by
    unfold Reps at h
    obtain ⟨u, r, rfl, h1, h2⟩ := h
    show Reps K so A H (d :: ds.take n) (u :: r.take n)
    unfold Reps
    exact ⟨u, r.take n, rfl, h1, Reps.take n h2⟩
theorem Reps.one {d : D} {v : V} (h : Rep K so A H d v) : Reps K so A H [d] [v] := by
  unfold Reps
  exact ⟨v, [], rfl, h, by unfold Reps; rfl⟩
theorem Reps.nil : Reps K so A H [] [] := by
  unfold Reps
  rfl
theorem Reps.cons {d : D} {v : V} {ds : List D} {vs : List V} (h : Rep K so A H d v) (k : Reps K so A H ds vs) : Reps K so A H (d :: ds) (v :: vs) := by
  unfold Reps
  exact ⟨v, vs, rfl, h, k⟩
theorem Reps.set : ∀ {ds : List D} {us : List V} (i : Nat) {d : D} {u : V}, Reps K so A H ds us → Rep K so A H d u → Reps K so A H (ds.set i d) (us.set i u)
  | [], us, i, _, _, h, _ => by
    unfold Reps at h
    rw [h]
    unfold Reps
    rfl
  | d :: ds, us, 0, d', u', h, k => by
    unfold Reps at h
    obtain ⟨u, r, rfl, h1, h2⟩ := h
    exact Reps.cons k h2
  | d :: ds, us, i + 1, d', u', h, k => by
    unfold Reps at h
    obtain ⟨u, r, rfl, h1, h2⟩ := h
    exact Reps.cons h1 (Reps.set i h2 k)
end
end Pu
set_option Elab.async false
set_option linter.all false
set_option maxRecDepth 100000
set_option maxHeartbeats 4000000
set_option autoImplicit false
/-! The judgements: an expression, a statement by its pure reading. -/
namespace Pu
open PySem PySem.Spec PyProof.Rows L2
inductive Cell where
  | no | fro (d : D) | own (d : D)
/-- objects that may be shared and change: by their places -/
abbrev PHp := Addr → Option D
def pset (h : PHp) (a : Addr) (d : D) : PHp := fun b => if b = a then some d else h b
theorem pset_same {h : PHp} {a : Addr} {d : D} : pset h a d a = some d := by unfold pset; rw [if_pos rfl]
theorem pset_ne {h : PHp} {a b : Addr} {d : D} (n : b ≠ a) : pset h a d b = h b := by unfold pset; rw [if_neg n]
structure Gm where
  so : Option Sto
  M : Addr → Prop
  H0 : Hp
  /-- what stood at the entry: some object stands there for ever -/
  L : Addr → Prop := fun _ => False
  /-- data that stand behind the slots (a loop's source) -/
  fz : List (D × V) := []
def Gm.A (g : Gm) (O : Addr → Prop) : Addr → Prop := fun a => g.M a ∨ O a
def StOk (so : Option Sto) (A : Addr → Prop) (H : Hp) : Prop := ∀ S, so = some S →
  (∃ pl dg st tk : Int, H S.s = some (.lst [.ref S.c, .int pl, .int dg, .int st, .int tk]) ∧ 0 ≤ pl) ∧ ¬ A S.c ∧ H S.c = some (.lst (S.ns.map V.int))
def Own (K : PySem.W.Frag) (so : Option Sto) (A : Addr → Prop) (H : Hp) (d : D) (p : Addr) : Prop := match d with
  | .lst xs => ∃ us, H p = some (.lst us) ∧ Reps K so A H xs us
  | .dic ks vs => ∃ us, H p = some (.dK us) ∧ us.map (·.1) = ks ∧ Reps K so A H vs (us.map (·.2))
  | .obj c fs vs => ∃ dx us, H p = some (.ins (He.ga K c) dx us) ∧ us.map (·.1) = fs ∧ Reps K so A H vs (us.map (·.2))
  | _ => False
section
variable {K : PySem.W.Frag} {so : Option Sto} {A A' : Addr → Prop} {H H' : Hp} {d : D} {p : Addr}
/-- an owned object whose place stands as it is -/
theorem Own.kp (e : Kp A A' H H') (ep : ∀ o, H p = some o → H' p = some o) (h : Own K so A H d p) : Own K so A' H' d p := by
  cases d with
  | lst xs => obtain ⟨us, h1, r⟩ := h; exact ⟨us, ep _ h1, Reps.kp e _ _ r⟩
  | dic ks vs => obtain ⟨us, h1, h2, r⟩ := h; exact ⟨us, ep _ h1, h2, Reps.kp e _ _ r⟩
  | obj c fs vs => obtain ⟨dx, us, h1, h2, r⟩ := h; exact ⟨dx, us, ep _ h1, h2, Reps.kp e _ _ r⟩
  | _ => exact h
theorem Own.rep (np : ¬ A p) (h : Own K so A H d p) : Rep K so A H d (.ref p) := by
  cases d with
  | lst xs => obtain ⟨us, h1, r⟩ := h; unfold Rep; exact ⟨p, us, rfl, np, h1, r⟩
  | dic ks vs => obtain ⟨us, h1, h2, r⟩ := h; unfold Rep; exact ⟨p, us, rfl, np, h1, h2, r⟩
  | obj c fs vs => obtain ⟨dx, us, h1, h2, r⟩ := h; unfold Rep; exact ⟨p, dx, us, rfl, np, h1, h2, r⟩
  | _ => exact h.elim
theorem Own.there (h : Own K so A H d p) : H p ≠ none := by
  cases d with
  | lst xs => obtain ⟨us, h1, r⟩ := h; rw [h1]; simp
  | dic ks vs => obtain ⟨us, h1, h2, r⟩ := h; rw [h1]; simp
  | obj c fs vs => obtain ⟨dx, us, h1, h2, r⟩ := h; rw [h1]; simp
  | _ => exact h.elim
/-- a datum, its own place perhaps an owned one -/
def RepK (K : PySem.W.Frag) (so : Option Sto) (A : Addr → Prop) (H : Hp) (d : D) (v : V) : Prop := Rep K so A H d v ∨ ∃ p, v = .ref p ∧ Own K so A H d p
theorem Rep.k {v : V} (h : Rep K so A H d v) : RepK K so A H d v := .inl h
theorem StOk.kp (hs : ∀ s, IsS so s → H' s = H s) (e : Kp A A' H H') (h : StOk so A H) : StOk so A' H' := fun S eS => by
  obtain ⟨⟨pl, dg, st, tk, h1, h4⟩, h2, h3⟩ := h S eS
  obtain ⟨k1, k2⟩ := e _ _ h3 h2
  exact ⟨⟨pl, dg, st, tk, by rw [hs _ ⟨S, eS, rfl⟩]; exact h1, h4⟩, k2, k1⟩
end
structure CellOk (K : PySem.W.Frag) (g : Gm) (O : Addr → Prop) (H : Hp) (h : PHp) (d : D) (p : Addr) : Prop where
  o : O p
  fr : h p = none
  own : Own K g.so (g.A O) H d p
def CellR (K : PySem.W.Frag) (g : Gm) (O : Addr → Prop) (H : Hp) (h : PHp) (o : Option (Option V)) : Cell → Prop
  | .no => True
  | .fro d => ∃ v, o = some (some v) ∧ Rep K g.so (g.A O) H d v
  | .own d => ∃ p, o = some (some (.ref p)) ∧ CellOk K g O H h d p
structure EnvR (K : PySem.W.Frag) (g : Gm) (O : Addr → Prop) (H : Hp) (σ : L2.St) (ρ : List Cell) (h : PHp) : Prop where
  len : σ.length = ρ.length
  ext : ∀ a o, g.H0 a = some o → H a = some o
  st : StOk g.so (g.A O) H
  mok : ∀ a, g.M a → H a ≠ none
  liv : ∀ a, g.L a → H a ≠ none
  sM : ∀ s, IsS g.so s → g.M s ∧ g.H0 s = none
  oM : ∀ p, O p → ¬ g.M p ∧ g.H0 p = none ∧ H p ≠ none
  cells : ∀ (i : Nat) (c : Cell), ρ[i]? = some c → CellR K g O H h σ[i]? c
  inj : ∀ (i j : Nat) (p : Addr) (d d' : D), ρ[i]? = some (.own d) → ρ[j]? = some (.own d') → σ[i]? = some (some (.ref p)) → σ[j]? = some (some (.ref p)) → i = j
  fzr : ∀ z ∈ g.fz, Rep K g.so (g.A O) H z.1 z.2
  hp : ∀ a d, h a = some d → O a ∧ Own K g.so (g.A O) H d a
/-- what a step leaves -/
structure Nx (g : Gm) (O : Addr → Prop) (h : PHp) (H : Hp) (O' : Addr → Prop) (h' : PHp) (H' : Hp) : Prop where
  kp : Kp (g.A O) (g.A O') H H'
  own : ∀ p o, O p → h p = none → H p = some o → O' p ∧ h' p = none ∧ H' p = some o
  up : ∀ a, H a ≠ none → H' a ≠ none
section
variable {K : PySem.W.Frag} {g : Gm} {O O' O'' : Addr → Prop} {H H' H'' : Hp} {σ σ' : L2.St} {ρ ρ' : List Cell} {h h' h'' : PHp}
theorem Nx.refl : Nx g O h H O h H := ⟨Kp.refl, fun _ _ a b c => ⟨a, b, c⟩, fun _ h => h⟩
theorem Nx.trans (a : Nx g O h H O' h' H') (b : Nx g O' h' H' O'' h'' H'') : Nx g O h H O'' h'' H'' :=
  ⟨a.kp.trans b.kp, fun p o x y z => let q := a.own p o x y z; b.own p o q.1 q.2.1 q.2.2, fun x z => b.up x (a.up x z)⟩
theorem Nx.back (n : Nx g O h H O' h' H') {a : Addr} (e : H' a = none) : H a = none := Classical.byContradiction fun z => n.up a z e
theorem Nx.rep (n : Nx g O h H O' h' H') {d : D} {v : V} (r : Rep K g.so (g.A O) H d v) : Rep K g.so (g.A O') H' d v := Rep.kp n.kp _ _ r
theorem Nx.reps (n : Nx g O h H O' h' H') {d : List D} {v : List V} (r : Reps K g.so (g.A O) H d v) : Reps K g.so (g.A O') H' d v := Reps.kp n.kp _ _ r
theorem Nx.cell (n : Nx g O h H O' h' H') {d : D} {p : Addr} (c : CellOk K g O H h d p) : CellOk K g O' H' h' d p := by
  obtain ⟨o, ho⟩ : ∃ o, H p = some o := by
    cases e : H p with
    | none => exact absurd e c.own.there
    | some o => exact ⟨o, rfl⟩
  obtain ⟨k1, k2, k3⟩ := n.own p o c.o c.fr ho
  exact ⟨k1, k2, c.own.kp n.kp fun o' e => by rw [ho] at e; cases e; exact k3⟩
/-- a value on the way: frozen, or a slot's own -/
def RepV (K : PySem.W.Frag) (g : Gm) (O : Addr → Prop) (H : Hp) (h : PHp) (d : D) (v : V) : Prop := Rep K g.so (g.A O) H d v ∨ ∃ p, v = .ref p ∧ CellOk K g O H h d p
theorem Rep.v {d : D} {v : V} (r : Rep K g.so (g.A O) H d v) : RepV K g O H h d v := .inl r
theorem Nx.repv (n : Nx g O h H O' h' H') {d : D} {v : V} (r : RepV K g O H h d v) : RepV K g O' H' h' d v := by
  rcases r with r | ⟨p, e, c⟩
  · exact .inl (n.rep r)
  · exact .inr ⟨p, e, n.cell c⟩
/-- a shared object by its content -/
def deref (h : PHp) : D → D
  | .ptr a => (h a).getD (.ptr a)
  | d => d
theorem EnvR.deref (E : EnvR K g O H σ ρ h) {d : D} {v : V} (r : RepV K g O H h d v) : RepK K g.so (g.A O) H (deref h d) v := by
  rcases r with r | ⟨p, e, c⟩
  · cases d with
    | ptr a =>
      unfold Rep at r
      show RepK K g.so (g.A O) H ((h a).getD (.ptr a)) v
      cases e : h a with
      | none => exact .inl (by unfold Rep; exact r)
      | some d' => exact .inr ⟨a, r, (E.hp a d' e).2⟩
    | _ => exact .inl r
  · have c' := c.own
    cases d with
    | ptr a => exact c'.elim
    | _ => exact .inr ⟨p, e, c'⟩
theorem EnvR.sA (E : EnvR K g O H σ ρ h) : ∀ s, IsS g.so s → g.A O s := fun s z => .inl (E.sM s z).1
theorem EnvR.oS (E : EnvR K g O H σ ρ h) {p : Addr} (hp : O p) : ¬ IsS g.so p := fun z => (E.oM p hp).1 (E.sM p z).1
theorem EnvR.free (E : EnvR K g O H σ ρ h) {p : Addr} (hp : H p = none) : ¬ g.A O p := fun z => z.elim (fun z => E.mok p z hp) fun z => (E.oM p z).2.2 hp
/-- a new object is laid -/
theorem EnvR.new (E : EnvR K g O H σ ρ h) {p : Addr} {o : HO} (hp : H p = none) : EnvR K g O (upd H p o) σ ρ h ∧ Nx g O h H O h (upd H p o) := by
  have k : Kp (g.A O) (g.A O) H (upd H p o) := Kp.new hp
  have up : ∀ a, H a ≠ none → upd H p o a ≠ none := fun a z => by rw [upd_ne fun e => z (by rw [e]; exact hp)]; exact z
  have nx : Nx g O h H O h (upd H p o) := ⟨k, fun q o' a b c => ⟨a, b, by rw [upd_ne (ne_of_none c hp)]; exact c⟩, up⟩
  have eq : ∀ {q : Addr} {o' : HO}, H q = some o' → upd H p o q = some o' := fun {q o'} c => by rw [upd_ne (ne_of_none c hp)]; exact c
  refine ⟨⟨E.len, fun a o' e => eq (E.ext a o' e), E.st.kp (fun s z => upd_ne fun e => E.mok s (E.sM s z).1 (by rw [e]; exact hp)) k, fun a z => up a (E.mok a z), fun a z => up a (E.liv a z), E.sM, fun q z => ⟨(E.oM q z).1, (E.oM q z).2.1, up q (E.oM q z).2.2⟩, fun i c hc => ?_, E.inj, fun z hz => nx.rep (E.fzr z hz), fun a d e => ⟨(E.hp a d e).1, (E.hp a d e).2.kp k fun _ => eq⟩⟩, nx⟩
  have hh := E.cells i c hc
  cases c with
  | no => trivial
  | fro d => obtain ⟨v, e, r⟩ := hh; exact ⟨v, e, nx.rep r⟩
  | own d => obtain ⟨q, e, c⟩ := hh; exact ⟨q, e, nx.cell c⟩
theorem EnvR.get (E : EnvR K g O H σ ρ h) {i : Nat} {d : D} (e : ρ[i]? = some (.fro d)) : ∃ v, σ[i]? = some (some v) ∧ Rep K g.so (g.A O) H d v := E.cells i _ e
theorem EnvR.getO (E : EnvR K g O H σ ρ h) {i : Nat} {d : D} (e : ρ[i]? = some (.own d)) : ∃ p, σ[i]? = some (some (.ref p)) ∧ CellOk K g O H h d p := E.cells i _ e
theorem set_getElem? {α : Type} {l : List α} {i j : Nat} {a x : α} (h : (l.set i a)[j]? = some x) : (i = j ∧ x = a ∧ i < l.length) ∨ (i ≠ j ∧ l[j]? = some x) := by
  by_cases e : i = j
  · subst e
    by_cases hl : i < l.length
    · rw [List.getElem?_set_self hl] at h
      exact .inl ⟨rfl, (Option.some.inj h).symm, hl⟩
    · rw [List.getElem?_eq_none (by simpa using hl)] at h
      cases h
  · rw [List.getElem?_set_ne e] at h
    exact .inr ⟨e, h⟩
/-- a slot is stored to: a cell that is not owned -/
theorem EnvR.setC (E : EnvR K g O H σ ρ h) {i : Nat} {c : Cell} {o : Option V} (hc : CellR K g O H h (some o) c) (hn : ∀ d, c ≠ .own d) : EnvR K g O H (σ.set i o) (ρ.set i c) h :=
  { E with
    len := by rw [List.length_set, List.length_set, E.len]
    cells := fun j c' hc' => by
      rcases set_getElem? hc' with ⟨rfl, rfl, hl⟩ | ⟨hne, hc'⟩
      · rw [List.getElem?_set_self (by rw [E.len]; exact hl)]
        exact hc
      · rw [List.getElem?_set_ne hne]
        exact E.cells j c' hc'
    inj := fun j k p d1 d2 h1 h2 h3 h4 => by
      rcases set_getElem? h1 with ⟨_, z, _⟩ | ⟨n1, h1⟩
      · exact absurd z.symm (hn d1)
      · rcases set_getElem? h2 with ⟨_, z, _⟩ | ⟨n2, h2⟩
        · exact absurd z.symm (hn d2)
        · rw [List.getElem?_set_ne n1] at h3
          rw [List.getElem?_set_ne n2] at h4
          exact E.inj j k p d1 d2 h1 h2 h3 h4 }
theorem EnvR.setF (E : EnvR K g O H σ ρ h) {i : Nat} {d : D} {v : V} (r : Rep K g.so (g.A O) H d v) : EnvR K g O H (σ.set i (some v)) (ρ.set i (.fro d)) h := E.setC ⟨v, rfl, r⟩ fun _ z => by cases z
theorem EnvR.setNo (E : EnvR K g O H σ ρ h) {i : Nat} (o : Option V) : EnvR K g O H (σ.set i o) (ρ.set i .no) h := E.setC trivial fun _ z => by cases z
/-- an owned object that no slot names -/
def NoCell (σ : L2.St) (ρ : List Cell) (p : Addr) : Prop := ∀ (i : Nat) (d : D), ρ[i]? = some (.own d) → σ[i]? = some (some (.ref p)) → False
/-- a new object is owned -/
theorem EnvR.take (E : EnvR K g O H σ ρ h) {p : Addr} {o : HO} (hp : H p = none) : EnvR K g (fun a => O a ∨ a = p) (upd H p o) σ ρ h ∧ Nx g O h H (fun a => O a ∨ a = p) h (upd H p o) ∧ NoCell σ ρ p ∧ h p = none := by
  obtain ⟨E1, n1⟩ := E.new (o := o) hp
  have eA : g.A (fun a => O a ∨ a = p) = fun a => g.A O a ∨ a = p := by
    funext a
    unfold Gm.A
    exact propext or_assoc.symm
  have k : Kp (g.A O) (g.A fun a => O a ∨ a = p) H (upd H p o) := by
    rw [eA]
    exact fun a u e n => ⟨by rw [upd_ne (ne_of_none e hp)]; exact e, fun z => z.elim n (ne_of_none e hp)⟩
  have nx : Nx g O h H (fun a => O a ∨ a = p) h (upd H p o) := ⟨k, fun q o' a b c => ⟨.inl a, b, by rw [upd_ne (ne_of_none c hp)]; exact c⟩, n1.up⟩
  have nc : NoCell σ ρ p := fun i d a b => by
    obtain ⟨q, e, c⟩ := E.getO a
    rw [b] at e
    cases e
    exact c.own.there hp
  have h0 : g.H0 p = none := by
    cases e : g.H0 p with
    | none => rfl
    | some u => have := E.ext p u e; rw [hp] at this; cases this
  refine ⟨⟨E.len, E1.ext, E.st.kp (fun s z => upd_ne fun e => E.mok s (E.sM s z).1 (by rw [e]; exact hp)) k, E1.mok, E1.liv, E.sM, fun q z => ?_, fun i c hc => ?_, E.inj, fun z hz => nx.rep (E.fzr z hz), fun a d e => ⟨.inl (E.hp a d e).1, (E.hp a d e).2.kp k fun o' e' => ?_⟩⟩, nx, nc, ?_⟩
  · rcases z with z | rfl
    · exact E1.oM q z
    · exact ⟨fun z => E.mok q z hp, h0, by rw [upd_same]; simp⟩
  · have hh := E.cells i c hc
    cases c with
    | no => trivial
    | fro d => obtain ⟨v, e, r⟩ := hh; exact ⟨v, e, nx.rep r⟩
    | own d => obtain ⟨q, e, c⟩ := hh; exact ⟨q, e, nx.cell c⟩
  · rw [upd_ne (ne_of_none e' hp)]
    exact e'
  · cases e : h p with
    | none => rfl
    | some d => exact absurd hp (E.hp p d e).2.there
/-- an owned object that no slot names is frozen -/
theorem EnvR.let_ (E : EnvR K g O H σ ρ h) {p : Addr} {d : D} (c : CellOk K g O H h d p) (nc : NoCell σ ρ p) : EnvR K g (fun a => O a ∧ a ≠ p) H σ ρ h ∧ Kp (g.A O) (g.A fun a => O a ∧ a ≠ p) H H ∧ Rep K g.so (g.A fun a => O a ∧ a ≠ p) H d (.ref p) := by
  have sub : ∀ a, g.A (fun a => O a ∧ a ≠ p) a → g.A O a := fun a z => z.elim .inl fun z => .inr z.1
  have k : Kp (g.A O) (g.A fun a => O a ∧ a ≠ p) H H := Kp.weak sub
  have ne : ∀ {q : Addr} {d' : D}, h q = some d' → q ≠ p := fun {q d'} e z => by rw [z, c.fr] at e; cases e
  refine ⟨⟨E.len, E.ext, E.st.kp (fun _ _ => rfl) k, E.mok, E.liv, E.sM, fun q z => E.oM q z.1, fun i c' hc => ?_, E.inj, fun z hz => Rep.kp k _ _ (E.fzr z hz), fun a d' e => ⟨⟨(E.hp a d' e).1, ne e⟩, (E.hp a d' e).2.kp k fun _ x => x⟩⟩, k, ?_⟩
  · have hh := E.cells i c' hc
    cases c' with
    | no => trivial
    | fro d => obtain ⟨v, e, r⟩ := hh; exact ⟨v, e, Rep.kp k _ _ r⟩
    | own d => obtain ⟨q, e, c2⟩ := hh; exact ⟨q, e, ⟨c2.o, fun z => nc i d hc (by rw [← z]; exact e)⟩, c2.fr, c2.own.kp k fun _ x => x⟩
  · refine Own.rep ?_ (c.own.kp k fun _ x => x)
    rintro (z | z)
    · exact (E.oM p c.o).1 z
    · exact z.2 rfl
/-- an owned object that no slot names is a slot's -/
theorem EnvR.setN (E : EnvR K g O H σ ρ h) {i : Nat} {p : Addr} {d : D} (c : CellOk K g O H h d p) (nc : NoCell σ ρ p) : EnvR K g O H (σ.set i (some (.ref p))) (ρ.set i (.own d)) h :=
  { E with
    len := by rw [List.length_set, List.length_set, E.len]
    cells := fun j c' hc' => by
      rcases set_getElem? hc' with ⟨rfl, rfl, hl⟩ | ⟨hne, hc'⟩
      · exact ⟨p, List.getElem?_set_self (by rw [E.len]; exact hl), c⟩
      · rw [List.getElem?_set_ne hne]
        exact E.cells j c' hc'
    inj := fun j k q d1 d2 h1 h2 h3 h4 => by
      have self : ∀ {m : Nat}, i = m → (σ.set i (some (V.ref p)))[m]? = some (some (.ref q)) → q = p := fun {m} e x => by
        subst e
        have hl : i < σ.length := Classical.byContradiction fun z => by
          rw [List.getElem?_eq_none (by simpa using z)] at x
          cases x
        rw [List.getElem?_set_self hl] at x
        cases x
        rfl
      rcases set_getElem? h1 with ⟨e1, _, _⟩ | ⟨n1, h1⟩
      · rcases set_getElem? h2 with ⟨e2, _, _⟩ | ⟨n2, h2⟩
        · exact e1.symm.trans e2
        · have := self e1 h3
          subst this
          rw [List.getElem?_set_ne n2] at h4
          exact (nc k _ h2 h4).elim
      · rcases set_getElem? h2 with ⟨e2, _, _⟩ | ⟨n2, h2⟩
        · have := self e2 h4
          subst this
          rw [List.getElem?_set_ne n1] at h3
          exact (nc j _ h1 h3).elim
        · rw [List.getElem?_set_ne n1] at h3
          rw [List.getElem?_set_ne n2] at h4
          exact E.inj j k q d1 d2 h1 h2 h3 h4 }
/-- an owned object is shared: it goes to the pure heap -/
theorem EnvR.share (E : EnvR K g O H σ ρ h) {p : Addr} {d : D} (c : CellOk K g O H h d p) (nc : NoCell σ ρ p) : EnvR K g O H σ ρ (pset h p d) :=
  { E with
    cells := fun j c' hc => by
      have hh := E.cells j c' hc
      cases c' with
      | no => trivial
      | fro d => exact hh
      | own d =>
        obtain ⟨q, e, c2⟩ := hh
        exact ⟨q, e, c2.o, by rw [pset_ne fun z => nc j d hc (by rw [← z]; exact e)]; exact c2.fr, c2.own⟩
    hp := fun a d' e => by
      unfold pset at e
      split at e
      · rename_i ea
        cases e
        subst ea
        exact ⟨c.o, c.own⟩
      · exact E.hp a d' e }
/-- the object at an owned place changes: what all else sees -/
theorem EnvR.chg (E : EnvR K g O H σ ρ h) {p : Addr} {o : HO} (hO : O p) : Kp (g.A O) (g.A O) H (upd H p o) ∧ (∀ a u, g.H0 a = some u → upd H p o a = some u) ∧ StOk g.so (g.A O) (upd H p o) ∧ (∀ a, H a ≠ none → upd H p o a ≠ none) := by
  have k : Kp (g.A O) (g.A O) H (upd H p o) := Kp.unseen (.inr hO)
  refine ⟨k, fun a u e => ?_, E.st.kp (fun s z => upd_ne fun e => E.oS hO (by rw [← e]; exact z)) k, fun a z => ?_⟩
  · rw [upd_ne (ne_of_none e (E.oM p hO).2.1)]
    exact E.ext a u e
  · unfold upd
    split
    · simp
    · exact z
/-- an owned object that no slot names changes -/
theorem EnvR.touch (E : EnvR K g O H σ ρ h) {p : Addr} {o : HO} (hO : O p) (hf : h p = none) (nc : NoCell σ ρ p) : EnvR K g O (upd H p o) σ ρ h := by
  obtain ⟨k, k1, k2, k3⟩ := E.chg (o := o) hO
  refine ⟨E.len, k1, k2, fun a z => k3 a (E.mok a z), fun a z => k3 a (E.liv a z), E.sM, fun q z => ⟨(E.oM q z).1, (E.oM q z).2.1, k3 q (E.oM q z).2.2⟩, fun i c hc => ?_, E.inj, fun z hz => Rep.kp k _ _ (E.fzr z hz), fun a d e => ⟨(E.hp a d e).1, (E.hp a d e).2.kp k fun o' e' => ?_⟩⟩
  · have hh := E.cells i c hc
    cases c with
    | no => trivial
    | fro d => obtain ⟨v, e, r⟩ := hh; exact ⟨v, e, Rep.kp k _ _ r⟩
    | own d =>
      obtain ⟨q, e, c⟩ := hh
      exact ⟨q, e, c.o, c.fr, c.own.kp k fun o' e' => by rw [upd_ne fun z => nc i d hc (by rw [← z]; exact e)]; exact e'⟩
  · rw [upd_ne fun z => by rw [z, hf] at e; cases e]
    exact e'
/-- what a slot owns changes -/
theorem EnvR.setO (E : EnvR K g O H σ ρ h) {i : Nat} {d d' : D} {p : Addr} {o : HO} (hi : ρ[i]? = some (.own d)) (hp : σ[i]? = some (some (.ref p))) (r : Own K g.so (g.A O) (upd H p o) d' p) : EnvR K g O (upd H p o) σ (ρ.set i (.own d')) h := by
  obtain ⟨q, e, c⟩ := E.getO hi
  rw [hp] at e
  cases e
  obtain ⟨k, k1, k2, k3⟩ := E.chg (o := o) c.o
  refine ⟨by rw [List.length_set, E.len], k1, k2, fun a z => k3 a (E.mok a z), fun a z => k3 a (E.liv a z), E.sM, fun q z => ⟨(E.oM q z).1, (E.oM q z).2.1, k3 q (E.oM q z).2.2⟩, fun j c' hc => ?_, fun j k q d1 d2 h1 h2 h3 h4 => ?_, fun z hz => Rep.kp k _ _ (E.fzr z hz), fun a d e => ⟨(E.hp a d e).1, (E.hp a d e).2.kp k fun o' e' => ?_⟩⟩
  · rcases set_getElem? hc with ⟨rfl, rfl, hl⟩ | ⟨hn, hc⟩
    · exact ⟨p, hp, c.o, c.fr, r⟩
    · have hh := E.cells j c' hc
      cases c' with
      | no => trivial
      | fro d => obtain ⟨v, e, r⟩ := hh; exact ⟨v, e, Rep.kp k _ _ r⟩
      | own d =>
        obtain ⟨q, e, c2⟩ := hh
        refine ⟨q, e, c2.o, c2.fr, c2.own.kp k fun o' e' => ?_⟩
        rw [upd_ne]
        · exact e'
        · rintro rfl
          exact hn (E.inj i j q _ _ hi hc hp e)
  · have old : ∀ (j : Nat) (d1 : D), (ρ.set i (.own d'))[j]? = some (.own d1) → ∃ d2, ρ[j]? = some (.own d2) := fun j d1 h => by
      rcases set_getElem? h with ⟨rfl, _, _⟩ | ⟨_, h⟩
      · exact ⟨_, hi⟩
      · exact ⟨_, h⟩
    obtain ⟨_, h1'⟩ := old _ _ h1
    obtain ⟨_, h2'⟩ := old _ _ h2
    exact E.inj j k q _ _ h1' h2' h3 h4
  · rw [upd_ne fun z => by rw [z, c.fr] at e; cases e]
    exact e'
/-- a shared object changes -/
theorem EnvR.setH (E : EnvR K g O H σ ρ h) {p : Addr} {d d' : D} {o : HO} (hp : h p = some d) (r : Own K g.so (g.A O) (upd H p o) d' p) : EnvR K g O (upd H p o) σ ρ (pset h p d') := by
  have hO := (E.hp p d hp).1
  obtain ⟨k, k1, k2, k3⟩ := E.chg (o := o) hO
  refine ⟨E.len, k1, k2, fun a z => k3 a (E.mok a z), fun a z => k3 a (E.liv a z), E.sM, fun q z => ⟨(E.oM q z).1, (E.oM q z).2.1, k3 q (E.oM q z).2.2⟩, fun j c' hc => ?_, E.inj, fun z hz => Rep.kp k _ _ (E.fzr z hz), fun a d e => ?_⟩
  · have hh := E.cells j c' hc
    cases c' with
    | no => trivial
    | fro d => obtain ⟨v, e, r⟩ := hh; exact ⟨v, e, Rep.kp k _ _ r⟩
    | own d =>
      obtain ⟨q, e, c2⟩ := hh
      have nq : q ≠ p := fun z => by have := c2.fr; rw [z, hp] at this; cases this
      exact ⟨q, e, c2.o, by rw [pset_ne nq]; exact c2.fr, c2.own.kp k fun o' e' => by rw [upd_ne nq]; exact e'⟩
  · unfold pset at e
    split at e
    · rename_i ea
      cases e
      subst ea
      exact ⟨hO, r⟩
    · rename_i ea
      exact ⟨(E.hp a d e).1, (E.hp a d e).2.kp k fun o' e' => by rw [upd_ne ea]; exact e'⟩
/-- what a slot owned is frozen -/
theorem EnvR.freeze (E : EnvR K g O H σ ρ h) {i : Nat} {d : D} (hi : ρ[i]? = some (.own d)) : ∃ O', EnvR K g O' H σ (ρ.set i (.fro d)) h := by
  obtain ⟨p, hp, c⟩ := E.getO hi
  have sub : ∀ a, g.A (fun a => O a ∧ a ≠ p) a → g.A O a := fun a z => z.elim .inl fun z => .inr z.1
  have k : Kp (g.A O) (g.A fun a => O a ∧ a ≠ p) H H := Kp.weak sub
  have ne : ∀ {q : Addr} {d' : D}, h q = some d' → q ≠ p := fun {q d'} e z => by rw [z, c.fr] at e; cases e
  refine ⟨fun a => O a ∧ a ≠ p, by rw [List.length_set, E.len], E.ext, E.st.kp (fun _ _ => rfl) k, E.mok, E.liv, E.sM, fun q z => E.oM q z.1, fun j c' hc => ?_, fun j k q d1 d2 h1 h2 h3 h4 => ?_, fun z hz => Rep.kp k _ _ (E.fzr z hz), fun a d' e => ⟨⟨(E.hp a d' e).1, ne e⟩, (E.hp a d' e).2.kp k fun _ x => x⟩⟩
  · rcases set_getElem? hc with ⟨rfl, rfl, hl⟩ | ⟨hn, hc⟩
    · refine ⟨.ref p, hp, Own.rep ?_ (c.own.kp k fun _ x => x)⟩
      rintro (z | z)
      · exact (E.oM p c.o).1 z
      · exact z.2 rfl
    · have hh := E.cells j c' hc
      cases c' with
      | no => trivial
      | fro d => obtain ⟨v, e, r⟩ := hh; exact ⟨v, e, Rep.kp k _ _ r⟩
      | own d =>
        obtain ⟨q, e, c2⟩ := hh
        refine ⟨q, e, ⟨c2.o, ?_⟩, c2.fr, c2.own.kp k fun _ x => x⟩
        rintro rfl
        exact hn (E.inj i j q _ _ hi hc hp e)
  · rcases set_getElem? h1 with ⟨_, z, _⟩ | ⟨n1, h1⟩
    · cases z
    · rcases set_getElem? h2 with ⟨_, z, _⟩ | ⟨n2, h2⟩
      · cases z
      · exact E.inj j k q d1 d2 h1 h2 h3 h4
end
/-! ### pure readings -/
abbrev XP := Str → List Str → List D → PHp → Prop
abbrev RE := XP → List Cell → PHp → (D → PHp → Prop) → Prop
abbrev RT := XP → List Cell → PHp → (Bool → PHp → Prop) → Prop
abbrev RA := XP → List Cell → PHp → (List D → PHp → Prop) → Prop
structure PEnds where
  nx : List Cell → PHp → Prop
  rt : D → PHp → Prop
  ex : Str → List Str → List D → List Cell → PHp → Prop := fun _ _ _ _ _ => False
  bk : List Cell → PHp → Prop := fun _ _ => False
  ct : List Cell → PHp → Prop := fun _ _ => False
abbrev RS := PEnds → List Cell → PHp → Prop
/-- what is wanted of an exception of an expression | of a statement -/
def OkE (K : PySem.W.Frag) (g : Gm) (W : WX) (Ex : XP) (σ : L2.St) (ρ : List Cell) : Prop :=
  ∀ O H h c dd us vs, EnvR K g O H σ ρ h → H dd = some (.xd us) → Reps K g.so (g.A O) H vs (us.map (·.2)) → Ex c (us.map (·.1)) vs h → W (.ref (He.ga K c)) (some dd) σ H
def OkS (K : PySem.W.Frag) (g : Gm) (W : WX) (D : PEnds) : Prop :=
  ∀ σ ρ, OkE K g W (fun c fs vs h => D.ex c fs vs ρ h) σ ρ
def QE (X : Cx) (W : WX) (e : Expr) (q : RE) : Prop := ∃ te, PE X e te ∧ ∀ (g : Gm) O H σ ρ h Ex Q P, EnvR X.K g O H σ ρ h → OkE X.K g W Ex σ ρ → q Ex ρ h Q →
  (∀ d v O' H' h', EnvR X.K g O' H' σ ρ h' → Nx g O h H O' h' H' → Rep X.K g.so (g.A O') H' d v → Q d h' → P v H') → te σ H P
def QK (X : Cx) (W : WX) (e : Expr) (q : RE) : Prop := ∃ te, PE X e te ∧ ∀ (g : Gm) O H σ ρ h Ex Q P, EnvR X.K g O H σ ρ h → OkE X.K g W Ex σ ρ → q Ex ρ h Q →
  (∀ d v O' H' h', EnvR X.K g O' H' σ ρ h' → Nx g O h H O' h' H' → RepV X.K g O' H' h' d v → Q d h' → P v H') → te σ H P
/-- a new object -/
def QN (X : Cx) (W : WX) (e : Expr) (q : RE) : Prop := ∃ te, PE X e te ∧ ∀ (g : Gm) O H σ ρ h Ex Q P, EnvR X.K g O H σ ρ h → OkE X.K g W Ex σ ρ → q Ex ρ h Q →
  (∀ d p O' H' h', EnvR X.K g O' H' σ ρ h' → Nx g O h H O' h' H' → H p = none → CellOk X.K g O' H' h' d p → NoCell σ ρ p → Q d h' → P (.ref p) H') → te σ H P
def QA (X : Cx) (W : WX) (es : List Expr) (q : RA) : Prop := ∃ ta, PA X es ta ∧ ∀ (g : Gm) O H σ ρ h Ex Q P, EnvR X.K g O H σ ρ h → OkE X.K g W Ex σ ρ → q Ex ρ h Q →
  (∀ d v O' H' h', EnvR X.K g O' H' σ ρ h' → Nx g O h H O' h' H' → Reps X.K g.so (g.A O') H' d v → d.length = es.length → Q d h' → P v H') → ta σ H P
def QT (X : Cx) (W : WX) (e : Expr) (q : RT) : Prop := ∃ tt, PT X e tt ∧ ∀ (g : Gm) O H σ ρ h Ex Q P, EnvR X.K g O H σ ρ h → OkE X.K g W Ex σ ρ → q Ex ρ h Q →
  (∀ b O' H' h', EnvR X.K g O' H' σ ρ h' → Nx g O h H O' h' H' → Q b h' → P b H') → tt σ H P
def QW (X : Cx) (W : WX) (e : Expr) (q : RT) : Prop := ∃ tt, PW X e tt ∧ ∀ (g : Gm) O H σ ρ h Ex Q P, EnvR X.K g O H σ ρ h → OkE X.K g W Ex σ ρ → q Ex ρ h Q →
  (∀ b O' H' h', EnvR X.K g O' H' σ ρ h' → Nx g O h H O' h' H' → Q b h' → P b H') → tt σ H P
structure EndsOk (K : PySem.W.Frag) (g : Gm) (D : PEnds) (D' : Ends) : Prop where
  nx : ∀ O H σ ρ h, EnvR K g O H σ ρ h → D.nx ρ h → D'.nx σ H
  rt : ∀ O H σ ρ h d v, EnvR K g O H σ ρ h → Rep K g.so (g.A O) H d v → D.rt d h → D'.rt v H
  bk : ∀ O H σ ρ h, EnvR K g O H σ ρ h → D.bk ρ h → D'.bk σ H
  ct : ∀ O H σ ρ h, EnvR K g O H σ ρ h → D.ct ρ h → D'.ct σ H
def QS (X : Cx) (W : WX) (st : Stmt) (q : RS) : Prop := ∃ ts, PS X st ts ∧ ∀ (g : Gm) O H σ ρ h D D', EnvR X.K g O H σ ρ h → OkS X.K g W D → EndsOk X.K g D D' → q D ρ h → ts D' σ H
def QSs (X : Cx) (W : WX) (st : List Stmt) (q : RS) : Prop := ∃ ts, PSs X st ts ∧ ∀ (g : Gm) O H σ ρ h D D', EnvR X.K g O H σ ρ h → OkS X.K g W D → EndsOk X.K g D D' → q D ρ h → ts D' σ H
/-- only the slots of a list may have changed -/
def Only (σ σ' : L2.St) (js : List Nat) : Prop := σ'.length = σ.length ∧ ∀ j : Nat, j ∉ js → σ'[j]? = σ[j]?
abbrev RG := D → List Cell → (List Cell → Prop) → Prop
abbrev RGs := List D → List Cell → (List Cell → Prop) → Prop
/-- a target of an assignment or a for, the slots it writes -/
def QG (X : Cx) (tg : Expr) (js : List Nat) (q : RG) : Prop := ∃ t, PG X tg t ∧ ∀ (g : Gm) O H σ ρ h d v Q P, EnvR X.K g O H σ ρ h → Rep X.K g.so (g.A O) H d v → q d ρ Q →
  (∀ ρ' σ', EnvR X.K g O H σ' ρ' h → Only σ σ' js → Q ρ' → P σ' H) → t v σ H P
def QGs (X : Cx) (tg : List Expr) (js : List Nat) (q : RGs) : Prop := ∃ t, PGs X tg t ∧ ∀ (g : Gm) O H σ ρ h d v Q P, EnvR X.K g O H σ ρ h → Reps X.K g.so (g.A O) H d v → q d ρ Q →
  (∀ ρ' σ', EnvR X.K g O H σ' ρ' h → Only σ σ' js → Q ρ' → P σ' H) → t v σ H P
section
variable {X : Cx} {W : WX} {ex : Expr} {q : RE}
theorem QE.k (h : QE X W ex q) : QK X W ex q := by
  obtain ⟨te, h1, h2⟩ := h
  exact ⟨te, h1, fun g O H σ ρ h Ex Q P E o hq k => h2 g O H σ ρ h Ex Q P E o hq fun d v O' H' h' E' n r z => k d v O' H' h' E' n r.v z⟩
theorem QN.e (h : QN X W ex q) : QE X W ex q := by
  obtain ⟨te, h1, h2⟩ := h
  refine ⟨te, h1, fun g O H σ ρ h Ex Q P E o hq k => h2 g O H σ ρ h Ex Q P E o hq fun d p O' H' h' E' n hp c nc z => ?_⟩
  obtain ⟨E2, k2, r⟩ := E'.let_ c nc
  refine k d (.ref p) _ H' h' E2 ⟨n.kp.trans k2, fun q o a b e => ?_, n.up⟩ r z
  obtain ⟨x, y, w⟩ := n.own q o a b e
  exact ⟨⟨x, ne_of_none e hp⟩, y, w⟩
theorem QN.k (h : QN X W ex q) : QK X W ex q := h.e.k
end
end Pu
set_option Elab.async false
set_option linter.all false
set_option maxRecDepth 100000
set_option maxHeartbeats 4000000
set_option autoImplicit false
/-! Rules: expressions. -/
namespace Pu
open PySem PySem.Spec PyProof.Rows L2
/-! ### pure readings of expressions -/
def qVar (i : Nat) : RE := fun _ ρ h Q => match ρ[i]? with
  | some (.fro d) => Q d h
  | _ => False
def qPeek (i : Nat) : RE := fun _ ρ h Q => match ρ[i]? with
  | some (.fro d) => Q d h
  | some (.own d) => Q d h
  | _ => False
def qC (d : D) : RE := fun _ _ h Q => Q d h
abbrev OpD := D → D → (D → Prop) → Prop
abbrev Op1 := D → (D → Prop) → Prop
def qBin (f : OpD) (a b : RE) : RE := fun Ex ρ h Q => a Ex ρ h fun x h1 => b Ex ρ h1 fun y h2 => f (deref h2 x) (deref h2 y) fun d => Q d h2
def qUn (f : Op1) (a : RE) : RE := fun Ex ρ h Q => a Ex ρ h fun x h1 => f (deref h1 x) fun d => Q d h1
def qNil : RA := fun _ _ h Q => Q [] h
def qCons (a : RE) (r : RA) : RA := fun Ex ρ h Q => a Ex ρ h fun x h1 => r Ex ρ h1 fun xs h2 => Q (x :: xs) h2
def qTup (a : RA) : RE := fun Ex ρ h Q => a Ex ρ h fun xs h1 => Q (.tup xs) h1
def qLst (a : RA) : RE := fun Ex ρ h Q => a Ex ρ h fun xs h1 => Q (.lst xs) h1
abbrev Spec := List D → PHp → (D → PHp → Prop) → XP → Prop
def qCall (sp : Spec) (a : RA) : RE := fun Ex ρ h Q => a Ex ρ h fun xs h1 => sp xs h1 Q Ex
/-- tests -/
def asB (F : Bool → PHp → Prop) : D → PHp → Prop
  | .bl b, h => F b h
  | _, _ => False
def qTest (a : RE) : RT := fun Ex ρ h Q => a Ex ρ h (asB Q)
def qAnd (a b : RT) : RT := fun Ex ρ h Q => a Ex ρ h fun c h1 => if c = true then b Ex ρ h1 Q else Q false h1
def qOr (a b : RT) : RT := fun Ex ρ h Q => a Ex ρ h fun c h1 => if c = true then Q true h1 else b Ex ρ h1 Q
def qNot (a : RT) : RT := fun Ex ρ h Q => a Ex ρ h fun c h1 => Q (!c) h1
def qAndV (a b : RE) : RE := fun Ex ρ h Q => a Ex ρ h (asB fun c h1 => if c = true then b Ex ρ h1 Q else Q (.bl false) h1)
def qOrV (a b : RE) : RE := fun Ex ρ h Q => a Ex ρ h (asB fun c h1 => if c = true then Q (.bl true) h1 else b Ex ρ h1 Q)
def qNotV (a : RE) : RE := fun Ex ρ h Q => a Ex ρ h (asB fun c h1 => Q (.bl (!c)) h1)
def qIfE (t : RT) (a b : RE) : RE := fun Ex ρ h Q => t Ex ρ h fun c h1 => if c = true then a Ex ρ h1 Q else b Ex ρ h1 Q
section
variable {X : Cx} {W : WX} {a b c : Expr} {qa qb qc : RE} {pos : Pos} {x : Str}
theorem Rep.non {K : PySem.W.Frag} {so : Option Sto} {A : Addr → Prop} {H : Hp} : Rep K so A H .non .non := by unfold Rep; rfl
theorem Rep.bl {K : PySem.W.Frag} {so : Option Sto} {A : Addr → Prop} {H : Hp} {b : Bool} : Rep K so A H (.bl b) (.bl b) := by unfold Rep; rfl
theorem Rep.int {K : PySem.W.Frag} {so : Option Sto} {A : Addr → Prop} {H : Hp} {i : Int} : Rep K so A H (.int i) (.int i) := by unfold Rep; rfl
theorem Rep.str {K : PySem.W.Frag} {so : Option Sto} {A : Addr → Prop} {H : Hp} {x : Str} : Rep K so A H (.str x) (.str x) := by unfold Rep; rfl
theorem qe_var (i : Nat) (hN : X.N[i]? = some x := by rfl) (hv : Vis X.env.scope x := by first | exact Or.inl rfl | exact Or.inr (Or.inl rfl) | exact Or.inr (Or.inr rfl)) (hd : (x == ("__debug__" : Str)) = false := by decide)
    (hcd : (x == ("__classdict__" : Str)) = false := by decide) : QE X W (.Name x pos) (qVar i) := by
  refine ⟨_, pe_var hN hv hd hcd, fun g O H σ ρ h Ex Q P E o hq k => ?_⟩
  unfold qVar at hq
  cases e : ρ[i]? with
  | none => rw [e] at hq; exact hq.elim
  | some c =>
    rw [e] at hq
    cases c with
    | fro d =>
      obtain ⟨v, ev, r⟩ := E.get e
      exact ⟨v, ev, k d v O H h E Nx.refl r hq⟩
    | _ => exact hq.elim
theorem qk_var (i : Nat) (hN : X.N[i]? = some x := by rfl) (hv : Vis X.env.scope x := by first | exact Or.inl rfl | exact Or.inr (Or.inl rfl) | exact Or.inr (Or.inr rfl)) (hd : (x == ("__debug__" : Str)) = false := by decide)
    (hcd : (x == ("__classdict__" : Str)) = false := by decide) : QK X W (.Name x pos) (qPeek i) := by
  refine ⟨_, pe_var hN hv hd hcd, fun g O H σ ρ h Ex Q P E o hq k => ?_⟩
  unfold qPeek at hq
  cases e : ρ[i]? with
  | none => rw [e] at hq; exact hq.elim
  | some c =>
    rw [e] at hq
    cases c with
    | fro d =>
      obtain ⟨v, ev, r⟩ := E.get e
      exact ⟨v, ev, k d v O H h E Nx.refl r.v hq⟩
    | own d =>
      obtain ⟨p, ev, c⟩ := E.getO e
      exact ⟨.ref p, ev, k d (.ref p) O H h E Nx.refl (.inr ⟨p, rfl, c⟩) hq⟩
    | no => exact hq.elim
theorem qe_int {i : Int} {j : Nat} : QE X W (.Constant (.int i) j pos) (qC (.int i)) := ⟨_, pe_int, fun g O H σ ρ h Ex Q P E o hq k => k _ _ O H h E Nx.refl Rep.int hq⟩
theorem qe_bl {i : Bool} {j : Nat} : QE X W (.Constant (.bool i) j pos) (qC (.bl i)) := ⟨_, pe_bl, fun g O H σ ρ h Ex Q P E o hq k => k _ _ O H h E Nx.refl Rep.bl hq⟩
theorem qe_non {j : Nat} : QE X W (.Constant .none j pos) (qC .non) := ⟨_, pe_non, fun g O H σ ρ h Ex Q P E o hq k => k _ _ O H h E Nx.refl Rep.non hq⟩
theorem qe_str {i : Str} {j : Nat} : QE X W (.Constant (.str i) j pos) (qC (.str i)) := ⟨_, pe_str, fun g O H σ ρ h Ex Q P E o hq k => k _ _ O H h E Nx.refl Rep.str hq⟩
/-- a module's constant: an int, a text -/
theorem qe_globI {i : Int} {t : Tok} (hm : X.mg x = some (.int i t)) (hg : Gl X x := by rfl) (hd : (x == ("__debug__" : Str)) = false := by decide) : QE X W (.Name x pos) (qC (.int i)) :=
  ⟨_, pe_glob (v := .int i) hg hm ⟨t, rfl⟩ hd, fun g O H σ ρ h Ex Q P E o hq k => k _ _ O H h E Nx.refl Rep.int hq⟩
theorem qe_globS {i : Str} {t : Tok} (hm : X.mg x = some (.str i t)) (hg : Gl X x := by rfl) (hd : (x == ("__debug__" : Str)) = false := by decide) : QE X W (.Name x pos) (qC (.str i)) :=
  ⟨_, pe_glob (v := .str i) hg hm ⟨t, rfl⟩ hd, fun g O H σ ρ h Ex Q P E o hq k => k _ _ O H h E Nx.refl Rep.str hq⟩
/-! ### operators -/
def OpS (X : Cx) (r : R2) (f : OpD) : Prop := ∀ (g : Gm) O H σ ρ h x y u v Q P, EnvR X.K g O H σ ρ h → RepK X.K g.so (g.A O) H x u → RepK X.K g.so (g.A O) H y v → f x y Q →
  (∀ d w H', EnvR X.K g O H' σ ρ h → Nx g O h H O h H' → Rep X.K g.so (g.A O) H' d w → Q d → P w H') → r u v H P
def OpN (X : Cx) (r : R2) (f : OpD) : Prop := ∀ (g : Gm) O H σ ρ h x y u v Q P, EnvR X.K g O H σ ρ h → RepK X.K g.so (g.A O) H x u → RepK X.K g.so (g.A O) H y v → f x y Q →
  (∀ d p O' H', EnvR X.K g O' H' σ ρ h → Nx g O h H O' h H' → H p = none → CellOk X.K g O' H' h d p → NoCell σ ρ p → Q d → P (.ref p) H') → r u v H P
theorem bin_run {r : R2} {f : OpD} {ta tb : TE} {g : Gm} {O : Addr → Prop} {H : Hp} {σ : L2.St} {ρ : List Cell} {h : PHp} {Ex : XP} {Q : D → PHp → Prop} {P : VK}
    (ha : ∀ (g : Gm) O H σ ρ h Ex Q P, EnvR X.K g O H σ ρ h → OkE X.K g W Ex σ ρ → qa Ex ρ h Q → (∀ d v O' H' h', EnvR X.K g O' H' σ ρ h' → Nx g O h H O' h' H' → RepV X.K g O' H' h' d v → Q d h' → P v H') → ta σ H P)
    (hb : ∀ (g : Gm) O H σ ρ h Ex Q P, EnvR X.K g O H σ ρ h → OkE X.K g W Ex σ ρ → qb Ex ρ h Q → (∀ d v O' H' h', EnvR X.K g O' H' σ ρ h' → Nx g O h H O' h' H' → RepV X.K g O' H' h' d v → Q d h' → P v H') → tb σ H P)
    (E : EnvR X.K g O H σ ρ h) (o : OkE X.K g W Ex σ ρ) (hq : qBin f qa qb Ex ρ h Q)
    (k : ∀ x y u v O' H' h', EnvR X.K g O' H' σ ρ h' → Nx g O h H O' h' H' → RepK X.K g.so (g.A O') H' x u → RepK X.K g.so (g.A O') H' y v → f x y (fun d => Q d h') → r u v H' P) : tOp r ta tb σ H P := by
  refine ha g O H σ ρ h Ex _ _ E o hq fun x u O1 H1 h1 E1 n1 r1 q1 => ?_
  refine hb g O1 H1 σ ρ h1 Ex _ _ E1 o q1 fun y v O2 H2 h2 E2 n2 r2 q2 => ?_
  exact k _ _ u v O2 H2 h2 E2 (n1.trans n2) (E2.deref (n2.repv r1)) (E2.deref r2) q2
theorem qe_bin {op : Operator} {r : R2} {f : OpD} (ho : OpR X (binaryOp op) r) (hs : OpS X r f) (ha : QK X W a qa) (hb : QK X W b qb) : QE X W (.BinOp a op b pos) (qBin f qa qb) := by
  obtain ⟨ta, ha1, ha2⟩ := ha
  obtain ⟨tb, hb1, hb2⟩ := hb
  refine ⟨_, pe_op ho ha1 hb1, fun g O H σ ρ h Ex Q P E o hq k => bin_run ha2 hb2 E o hq fun x y u v O' H' h' E' n r1 r2 q => ?_⟩
  exact hs g O' H' σ ρ h' x y u v _ P E' r1 r2 q fun d w H'' E'' n' => k d w O' H'' h' E'' (n.trans n')
theorem qn_bin {op : Operator} {r : R2} {f : OpD} (ho : OpR X (binaryOp op) r) (hs : OpN X r f) (ha : QK X W a qa) (hb : QK X W b qb) : QN X W (.BinOp a op b pos) (qBin f qa qb) := by
  obtain ⟨ta, ha1, ha2⟩ := ha
  obtain ⟨tb, hb1, hb2⟩ := hb
  refine ⟨_, pe_op ho ha1 hb1, fun g O H σ ρ h Ex Q P E o hq k => bin_run ha2 hb2 E o hq fun x y u v O' H' h' E' n r1 r2 q => ?_⟩
  exact hs g O' H' σ ρ h' x y u v _ P E' r1 r2 q fun d p O2 H'' E'' n' hp => k d p O2 H'' h' E'' (n.trans n') (n.back hp)
theorem qe_cmp {op : CmpOp} {r : R2} {f : OpD} (ho : OpR X (compareOp op) r) (hs : OpS X r f) (ha : QK X W a qa) (hb : QK X W b qb) (hm : behindInMarks op b = false) : QE X W (.Compare a [op] [b] pos) (qBin f qa qb) := by
  obtain ⟨ta, ha1, ha2⟩ := ha
  obtain ⟨tb, hb1, hb2⟩ := hb
  refine ⟨_, pe_cmpR ho ha1 hb1 hm, fun g O H σ ρ h Ex Q P E o hq k => bin_run ha2 hb2 E o hq fun x y u v O' H' h' E' n r1 r2 q => ?_⟩
  exact hs g O' H' σ ρ h' x y u v _ P E' r1 r2 q fun d w H'' E'' n' => k d w O' H'' h' E'' (n.trans n')
/-- a truth value -/
theorem asB_v {K : PySem.W.Frag} {g : Gm} {O : Addr → Prop} {H : Hp} {h : PHp} {d : D} {v : V} {F : Bool → PHp → Prop} (r : RepV K g O H h d v) (hq : asB F d h) : ∃ b, v = .bl b ∧ F b h := by
  cases d with
  | bl b =>
    rcases r with r | ⟨p, _, c⟩
    · unfold Rep at r
      exact ⟨b, r, hq⟩
    · exact c.own.elim
  | _ => exact hq.elim
theorem qt_cmp {op : CmpOp} {r : R2} {f : OpD} (ho : OpR X (compareOp op) r) (hs : OpS X r f) (ha : QK X W a qa) (hb : QK X W b qb) (hm : behindInMarks op b = false) : QT X W (.Compare a [op] [b] pos) (qTest (qBin f qa qb)) := by
  obtain ⟨ta, ha1, ha2⟩ := ha
  obtain ⟨tb, hb1, hb2⟩ := hb
  refine ⟨_, pt_cmpR ho ha1 hb1 hm, fun g O H σ ρ h Ex Q P E o hq k => ?_⟩
  refine bin_run (f := f) ha2 hb2 E o (Q := asB Q) hq fun x y u v O' H' h' E' n r1 r2 q => ?_
  refine hs g O' H' σ ρ h' x y u v _ _ E' r1 r2 q fun d w H'' E'' n' rr qq => ?_
  obtain ⟨b, e, qb⟩ := asB_v rr.v qq
  exact ⟨b, e, k b O' H'' h' E'' (n.trans n') qb⟩
theorem qt_val (ha : QK X W a qa) (he : ∀ whole, isTrue a X.env whole = (do let v ← whole; standAt a.pos; holding [v] (truthy v)) := by intro _; rfl) : QT X W a (qTest qa) := by
  obtain ⟨ta, ha1, ha2⟩ := ha
  refine ⟨_, pt_val ha1 he, fun g O H σ ρ h Ex Q P E o hq k => ha2 g O H σ ρ h Ex _ _ E o hq fun d v O' H' h' E' n r q => ?_⟩
  obtain ⟨b, e, qb⟩ := asB_v r q
  exact ⟨b, e, k b O' H' h' E' n qb⟩
theorem qt_not {t : RT} (ha : QT X W a t) : QT X W (.UnaryOp .Not a pos) (qNot t) := by
  obtain ⟨ta, ha1, ha2⟩ := ha
  exact ⟨_, pt_not ha1, fun g O H σ ρ h Ex Q P E o hq k => ha2 g O H σ ρ h Ex _ _ E o hq fun b O' H' h' E' n q => k (!b) O' H' h' E' n q⟩
theorem QW.t {t : RT} (h : QW X W a t) : QT X W a t := by
  obtain ⟨ta, ha1, ha2⟩ := h
  exact ⟨_, ha1.pt, ha2⟩
theorem qw_and1 {t : RT} (ha : QT X W a t) : QW X W (.BoolOp .And [a] pos) t := by
  obtain ⟨ta, ha1, ha2⟩ := ha
  exact ⟨_, pw_and1 ha1, ha2⟩
theorem qw_or1 {t : RT} (ha : QT X W a t) : QW X W (.BoolOp .Or [a] pos) t := by
  obtain ⟨ta, ha1, ha2⟩ := ha
  exact ⟨_, pw_or1 ha1, ha2⟩
theorem qw_and {t u : RT} {rest : List Expr} (ha : QT X W a t) (hb : QW X W (.BoolOp .And (b :: rest) pos) u) : QW X W (.BoolOp .And (a :: b :: rest) pos) (qAnd t u) := by
  obtain ⟨ta, ha1, ha2⟩ := ha
  obtain ⟨tb, hb1, hb2⟩ := hb
  refine ⟨_, pw_and ha1 hb1, fun g O H σ ρ h Ex Q P E o hq k => ha2 g O H σ ρ h Ex _ _ E o hq fun z O' H' h' E' n q => ?_⟩
  cases z with
  | true => exact hb2 g O' H' σ ρ h' Ex Q P E' o q fun b O2 H2 h2 E2 n' => k b O2 H2 h2 E2 (n.trans n')
  | false => exact k false O' H' h' E' n q
theorem qw_or {t u : RT} {rest : List Expr} (ha : QT X W a t) (hb : QW X W (.BoolOp .Or (b :: rest) pos) u) : QW X W (.BoolOp .Or (a :: b :: rest) pos) (qOr t u) := by
  obtain ⟨ta, ha1, ha2⟩ := ha
  obtain ⟨tb, hb1, hb2⟩ := hb
  refine ⟨_, pw_or ha1 hb1, fun g O H σ ρ h Ex Q P E o hq k => ha2 g O H σ ρ h Ex _ _ E o hq fun z O' H' h' E' n q => ?_⟩
  cases z with
  | true => exact k true O' H' h' E' n q
  | false => exact hb2 g O' H' σ ρ h' Ex Q P E' o q fun b O2 H2 h2 E2 n' => k b O2 H2 h2 E2 (n.trans n')
theorem qe_one {op : BoolOp} (ha : QE X W a qa) : QE X W (.BoolOp op [a] pos) qa := by
  obtain ⟨ta, ha1, ha2⟩ := ha
  exact ⟨_, pe_one ha1, ha2⟩
theorem qe_and {rest : List Expr} (ha : QE X W a qa) (hb : QE X W (.BoolOp .And (b :: rest) pos) qb) : QE X W (.BoolOp .And (a :: b :: rest) pos) (qAndV qa qb) := by
  obtain ⟨ta, ha1, ha2⟩ := ha
  obtain ⟨tb, hb1, hb2⟩ := hb
  refine ⟨_, pe_and ha1 hb1, fun g O H σ ρ h Ex Q P E o hq k => ha2 g O H σ ρ h Ex _ _ E o hq fun d v O' H' h' E' n r q => ?_⟩
  obtain ⟨z, ev, q⟩ := asB_v r.v q
  refine ⟨z, ev, ?_⟩
  cases z with
  | true => exact hb2 g O' H' σ ρ h' Ex Q P E' o q fun b v O2 H2 h2 E2 n' => k b v O2 H2 h2 E2 (n.trans n')
  | false => exact k _ _ O' H' h' E' n Rep.bl q
theorem qe_or {rest : List Expr} (ha : QE X W a qa) (hb : QE X W (.BoolOp .Or (b :: rest) pos) qb) : QE X W (.BoolOp .Or (a :: b :: rest) pos) (qOrV qa qb) := by
  obtain ⟨ta, ha1, ha2⟩ := ha
  obtain ⟨tb, hb1, hb2⟩ := hb
  refine ⟨_, pe_or ha1 hb1, fun g O H σ ρ h Ex Q P E o hq k => ha2 g O H σ ρ h Ex _ _ E o hq fun d v O' H' h' E' n r q => ?_⟩
  obtain ⟨z, ev, q⟩ := asB_v r.v q
  refine ⟨z, ev, ?_⟩
  cases z with
  | true => exact k _ _ O' H' h' E' n Rep.bl q
  | false => exact hb2 g O' H' σ ρ h' Ex Q P E' o q fun b v O2 H2 h2 E2 n' => k b v O2 H2 h2 E2 (n.trans n')
theorem qe_not (ha : QE X W a qa) : QE X W (.UnaryOp .Not a pos) (qNotV qa) := by
  obtain ⟨ta, ha1, ha2⟩ := ha
  refine ⟨_, pe_not ha1, fun g O H σ ρ h Ex Q P E o hq k => ha2 g O H σ ρ h Ex _ _ E o hq fun d v O' H' h' E' n r q => ?_⟩
  obtain ⟨z, ev, q⟩ := asB_v r.v q
  exact ⟨z, ev, k _ _ O' H' h' E' n Rep.bl q⟩
theorem qe_ifExp {t : RT} (hc : QT X W c t) (ha : QE X W a qa) (hb : QE X W b qb) : QE X W (.IfExp c a b pos) (qIfE t qa qb) := by
  obtain ⟨tc, hc1, hc2⟩ := hc
  obtain ⟨ta, ha1, ha2⟩ := ha
  obtain ⟨tb, hb1, hb2⟩ := hb
  refine ⟨_, pe_ifExp hc1 ha1 hb1, fun g O H σ ρ h Ex Q P E o hq k => hc2 g O H σ ρ h Ex _ _ E o hq fun z O' H' h' E' n q => ?_⟩
  cases z with
  | true => exact ha2 g O' H' σ ρ h' Ex Q P E' o q fun b v O2 H2 h2 E2 n' => k b v O2 H2 h2 E2 (n.trans n')
  | false => exact hb2 g O' H' σ ρ h' Ex Q P E' o q fun b v O2 H2 h2 E2 n' => k b v O2 H2 h2 E2 (n.trans n')
/-! ### argument lists, displays -/
theorem qa_nil : QA X W [] qNil := ⟨_, pa_nil, fun g O H σ ρ h Ex Q P E o hq k => k [] [] O H h E Nx.refl Reps.nil rfl hq⟩
theorem qa_cons {es : List Expr} {r : RA} (ha : QE X W a qa) (hr : QA X W es r) (hs : starEach (a :: es) X.env = (false, eval a X.env) :: starEach es X.env := by rfl) : QA X W (a :: es) (qCons qa r) := by
  obtain ⟨ta, ha1, ha2⟩ := ha
  obtain ⟨tr, hr1, hr2⟩ := hr
  refine ⟨_, pa_cons ha1 hr1 hs, fun g O H σ ρ h Ex Q P E o hq k => ?_⟩
  refine ha2 g O H σ ρ h Ex _ _ E o hq fun x u O1 H1 h1 E1 n1 r1 q1 => ?_
  refine hr2 g O1 H1 σ ρ h1 Ex _ _ E1 o q1 fun xs us O2 H2 h2 E2 n2 r2 l2 q2 => ?_
  exact k (x :: xs) (u :: us) O2 H2 h2 E2 (n1.trans n2) (Reps.cons (n2.rep r1) r2) (congrArg Nat.succ l2) q2
/-- a new list at p: owned -/
theorem EnvR.newL {K : PySem.W.Frag} {g : Gm} {O : Addr → Prop} {H : Hp} {σ : L2.St} {ρ : List Cell} {h : PHp} (E : EnvR K g O H σ ρ h) {p : Addr} {xs : List D} {us : List V} (hp : H p = none) (r : Reps K g.so (g.A O) H xs us) :
    EnvR K g (fun a => O a ∨ a = p) (upd H p (.lst us)) σ ρ h ∧ Nx g O h H (fun a => O a ∨ a = p) h (upd H p (.lst us)) ∧ CellOk K g (fun a => O a ∨ a = p) (upd H p (.lst us)) h (.lst xs) p ∧ NoCell σ ρ p := by
  obtain ⟨E1, n1, nc, hf⟩ := E.take (o := .lst us) hp
  exact ⟨E1, n1, ⟨.inr rfl, hf, us, upd_same, n1.reps r⟩, nc⟩
/-- a new list at p: frozen -/
theorem EnvR.newF {K : PySem.W.Frag} {g : Gm} {O : Addr → Prop} {H : Hp} {σ : L2.St} {ρ : List Cell} {h : PHp} (E : EnvR K g O H σ ρ h) {p : Addr} {xs : List D} {us : List V} (hp : H p = none) (r : Reps K g.so (g.A O) H xs us) :
    EnvR K g O (upd H p (.lst us)) σ ρ h ∧ Nx g O h H O h (upd H p (.lst us)) ∧ Rep K g.so (g.A O) (upd H p (.lst us)) (.lst xs) (.ref p) := by
  obtain ⟨E1, n1⟩ := E.new (o := .lst us) hp
  refine ⟨E1, n1, ?_⟩
  unfold Rep
  exact ⟨p, us, rfl, E.free hp, upd_same, n1.reps r⟩
theorem EnvR.newT {K : PySem.W.Frag} {g : Gm} {O : Addr → Prop} {H : Hp} {σ : L2.St} {ρ : List Cell} {h : PHp} (E : EnvR K g O H σ ρ h) {p : Addr} {xs : List D} {us : List V} (hp : H p = none) (r : Reps K g.so (g.A O) H xs us) :
    EnvR K g O (upd H p (.tup us)) σ ρ h ∧ Nx g O h H O h (upd H p (.tup us)) ∧ Rep K g.so (g.A O) (upd H p (.tup us)) (.tup xs) (.ref p) := by
  obtain ⟨E1, n1⟩ := E.new (o := .tup us) hp
  refine ⟨E1, n1, ?_⟩
  unfold Rep
  exact ⟨p, us, rfl, .inl ⟨E.free hp, upd_same⟩, n1.reps r⟩
theorem qe_tup {es : List Expr} {r : RA} {x1 : Nat} (h : QA X W es r) (hl : es.length ≤ 1000 := by decide) : QE X W (.Tuple es x1 pos) (qTup r) := by
  obtain ⟨ta, ha1, ha2⟩ := h
  refine ⟨_, pe_tup ha1, fun g O H σ ρ h Ex Q P E o hq k => ha2 g O H σ ρ h Ex _ _ E o hq fun d v O' H' h' E' n r l q => ⟨?_, fun p hp => ?_⟩⟩
  · rw [r.length, l]
    exact Nat.le_trans hl (by decide)
  · obtain ⟨E2, n2, r2⟩ := E'.newT hp r
    exact k _ _ O' _ h' E2 (n.trans n2) r2 q
theorem qn_lst {es : List Expr} {r : RA} (h : QA X W es r) (hl : es.length ≤ 1000 := by decide) : QN X W (.List es pos) (qLst r) := by
  obtain ⟨ta, ha1, ha2⟩ := h
  refine ⟨_, pe_lst ha1, fun g O H σ ρ h Ex Q P E o hq k => ha2 g O H σ ρ h Ex _ _ E o hq fun d v O' H' h' E' n r l q => ⟨?_, fun p hp => ?_⟩⟩
  · rw [r.length, l]
    exact Nat.le_trans hl (by decide)
  · obtain ⟨E2, n2, c, nc⟩ := E'.newL hp r
    exact k _ p _ _ h' E2 (n.trans n2) (n.back hp) c nc q
end
end Pu
set_option Elab.async false
set_option linter.all false
set_option maxRecDepth 100000
set_option maxHeartbeats 4000000
set_option autoImplicit false
/-! Operators. -/
namespace Pu
open PySem PySem.Spec PyProof.Rows L2
section
variable {K : PySem.W.Frag} {so : Option Sto} {A : Addr → Prop} {H : Hp} {u : V}
theorem RepK.non (h : RepK K so A H .non u) : u = .non := by
  rcases h with h | ⟨_, _, h⟩
  · unfold Rep at h; exact h
  · exact h.elim
theorem RepK.bl {b : Bool} (h : RepK K so A H (.bl b) u) : u = .bl b := by
  rcases h with h | ⟨_, _, h⟩
  · unfold Rep at h; exact h
  · exact h.elim
theorem RepK.int {i : Int} (h : RepK K so A H (.int i) u) : u = .int i := by
  rcases h with h | ⟨_, _, h⟩
  · unfold Rep at h; exact h
  · exact h.elim
theorem RepK.str {i : Str} (h : RepK K so A H (.str i) u) : u = .str i := by
  rcases h with h | ⟨_, _, h⟩
  · unfold Rep at h; exact h
  · exact h.elim
theorem RepK.lst {xs : List D} (h : RepK K so A H (.lst xs) u) : ∃ a us, u = .ref a ∧ H a = some (.lst us) ∧ Reps K so A H xs us := by
  rcases h with h | ⟨p, ev, h⟩
  · unfold Rep at h; obtain ⟨a, us, e, _, h1, r⟩ := h; exact ⟨a, us, e, h1, r⟩
  · obtain ⟨us, h1, r⟩ := h; exact ⟨p, us, ev, h1, r⟩
theorem RepK.tup {xs : List D} (h : RepK K so A H (.tup xs) u) : ∃ a us, u = .ref a ∧ SqT K H a us ∧ Reps K so A H xs us := by
  rcases h with h | ⟨p, ev, h⟩
  · unfold Rep at h
    obtain ⟨a, us, e, h1, r⟩ := h
    refine ⟨a, us, e, ?_, r⟩
    rcases h1 with ⟨_, h1⟩ | h1
    · exact SqT.of h1
    · exact .inr h1
  · exact h.elim
theorem RepK.dic {ks : List Key} {xs : List D} (h : RepK K so A H (.dic ks xs) u) : ∃ a us, u = .ref a ∧ H a = some (.dK us) ∧ us.map (·.1) = ks ∧ Reps K so A H xs (us.map (·.2)) := by
  rcases h with h | ⟨p, ev, h⟩
  · unfold Rep at h; obtain ⟨a, us, e, _, h1, r⟩ := h; exact ⟨a, us, e, h1, r⟩
  · obtain ⟨us, h1, r⟩ := h; exact ⟨p, us, ev, h1, r⟩
end
/-! ### arithmetic -/
def addD : OpD
  | .int i, .int j, Q => Q (.int (i + j))
  | .str x, .str y, Q => x.length + y.length ≤ sizeLine ∧ Q (.str (x ++ y))
  | .lst xs, .lst ys, Q => xs.length + ys.length ≤ sizeLine ∧ Q (.lst (xs ++ ys))
  | .tup xs, .tup ys, Q => xs ≠ [] ∧ xs.length + ys.length ≤ sizeLine ∧ Q (.tup (xs ++ ys))
  | _, _, _ => False
def subD : OpD
  | .int i, .int j, Q => Q (.int (i - j))
  | _, _, _ => False
def rptS (x : Str) (n : Nat) : Str := ⟨(List.replicate n x.cps.toList).flatten.toArray⟩
def mulD : OpD
  | .int i, .int j, Q => CMul i j ∧ Q (.int (i * j))
  | .str x, .int n, Q => -(2 ^ 62) < n ∧ n < 2 ^ 30 ∧ x.length * n.toNat ≤ 1000000 ∧ x.length < 2 ^ 30 ∧ Q (.str (rptS x n.toNat))
  | _, _, _ => False
def modD : OpD
  | .int i, .int j, Q => j ≠ 0 ∧ Q (.int (i.fmod j))
  | _, _, _ => False
def fdivD : OpD
  | .int i, .int j, Q => CDivN i j ∧ Q (.int (i.fdiv j))
  | _, _, _ => False
def powD : OpD
  | .int i, .int j, Q => CPow i j ∧ Q (.int (i ^ j.toNat))
  | _, _, _ => False
section
variable {X : Cx}
theorem ops_int {f : Int → Int → Int} {C : Int → Int → Prop} {h : OpD} (hh : ∀ x y Q, h x y Q → ∃ i j, x = .int i ∧ y = .int j ∧ C i j ∧ Q (.int (f i j))) : OpS X (rI C fun i j => .int (f i j)) h := by
  intro g O H σ ρ h x y u v Q P E r1 r2 q k
  obtain ⟨i, j, rfl, rfl, hc, q⟩ := hh _ _ _ q
  exact ⟨i, j, r1.int, r2.int, hc, k _ _ H E Nx.refl Rep.int q⟩
theorem ops_sub : OpS X (rI0 fun i j => .int (i - j)) subD := by
  intro g O H σ ρ h x y u v Q P E r1 r2 q k
  unfold subD at q
  split at q
  · exact ⟨_, _, r1.int, r2.int, k _ _ H E Nx.refl Rep.int q⟩
  · exact q.elim
theorem ops_mod : OpS X (rI (fun _ j => j ≠ 0) fun i j => .int (i.fmod j)) modD := ops_int fun x y Q q => by
  unfold modD at q
  split at q
  · exact ⟨_, _, rfl, rfl, q.1, q.2⟩
  · exact q.elim
theorem ops_fdiv : OpS X (rI CDivN fun i j => .int (i.fdiv j)) fdivD := ops_int fun x y Q q => by
  unfold fdivD at q
  split at q
  · exact ⟨_, _, rfl, rfl, q.1, q.2⟩
  · exact q.elim
theorem ops_pow : OpS X (rI CPow fun i j => .int (i ^ j.toNat)) powD := ops_int fun x y Q q => by
  unfold powD at q
  split at q
  · exact ⟨_, _, rfl, rfl, q.1, q.2⟩
  · exact q.elim
def rAddS2 : R2 := fun x y H Q => ∃ i j, x = .str i ∧ y = .str j ∧ i.length + j.length ≤ sizeLine ∧ Q (.str (i ++ j)) H
def rAddAll (K : PySem.W.Frag) : R2 := fun x y H Q => (rI0 fun i j => .int (i + j)) x y H Q ∨ (rAddS2 x y H Q ∨ (rCat x y H Q ∨ rCatT K x y H Q))
theorem op_addAll : OpR X (binaryOp .Add) (rAddAll X.K) := op_add.or (OpR.or (r := rAddS2) op_add_str (op_cat.or op_catT))
theorem Reps.nil_iff {K : PySem.W.Frag} {so : Option Sto} {A : Addr → Prop} {H : Hp} {xs : List D} {us : List V} (r : Reps K so A H xs us) : us = [] ↔ xs = [] := by
  have l := r.length
  rw [← List.length_eq_zero_iff, ← List.length_eq_zero_iff, l]
theorem ops_add : OpS X (rAddAll X.K) addD := by
  intro g O H σ ρ h x y u v Q P E r1 r2 q k
  unfold addD at q
  split at q
  · exact .inl ⟨_, _, r1.int, r2.int, k _ _ H E Nx.refl Rep.int q⟩
  · exact .inr (.inl ⟨_, _, r1.str, r2.str, q.1, k _ _ H E Nx.refl Rep.str q.2⟩)
  · obtain ⟨a, us, rfl, h1, q1⟩ := r1.lst
    obtain ⟨b, vs, rfl, h2, q2⟩ := r2.lst
    refine .inr (.inr (.inl ⟨a, b, us, vs, rfl, rfl, h1, h2, by rw [q1.length, q2.length]; exact q.1, fun p hp => ?_⟩))
    obtain ⟨E2, n2, r⟩ := E.newF hp (q1.append q2)
    exact k _ _ _ E2 n2 r q.2
  · obtain ⟨a, us, rfl, h1, q1⟩ := r1.tup
    obtain ⟨b, vs, rfl, h2, q2⟩ := r2.tup
    refine .inr (.inr (.inr ⟨a, b, us, vs, rfl, rfl, h1, h2, fun z => q.1 (q1.nil_iff.mp z), by rw [q1.length, q2.length]; exact q.2.1, fun z => ?_, fun _ p hp => ?_⟩))
    · have e := q2.nil_iff.mp z
      have qq := q.2.2
      rw [e, List.append_nil] at qq
      refine k _ _ H E Nx.refl ?_ qq
      rcases r1 with r1 | ⟨_, _, r1⟩
      · exact r1
      · exact r1.elim
    · obtain ⟨E2, n2, r⟩ := E.newT hp (q1.append q2)
      exact k _ _ _ E2 n2 r q.2.2
  · exact q.elim
/-- list + list, a new list -/
def catD : OpD
  | .lst xs, .lst ys, Q => xs.length + ys.length ≤ sizeLine ∧ Q (.lst (xs ++ ys))
  | _, _, _ => False
theorem opn_cat : OpN X rCat catD := by
  intro g O H σ ρ h x y u v Q P E r1 r2 q k
  unfold catD at q
  split at q
  · obtain ⟨a, us, rfl, h1, q1⟩ := r1.lst
    obtain ⟨b, vs, rfl, h2, q2⟩ := r2.lst
    refine ⟨a, b, us, vs, rfl, rfl, h1, h2, by rw [q1.length, q2.length]; exact q.1, fun p hp => ?_⟩
    obtain ⟨E2, n2, c, nc⟩ := E.newL hp (q1.append q2)
    exact k _ p _ _ E2 n2 hp c nc q.2
  · exact q.elim
theorem foldl_app (l : List (Array Nat)) (acc : Array Nat) : (l.foldl (· ++ ·) acc).toList = acc.toList ++ (l.map Array.toList).flatten := by
  induction l generalizing acc with
  | nil => simp
  | cons a r ih =>
    rw [List.foldl_cons, ih]
    simp
theorem rpt_eq (x : Str) (n : Nat) : (⟨(List.replicate n x.cps).foldl (· ++ ·) #[]⟩ : Str) = rptS x n := by
  apply TL.ext_tl
  show ((List.replicate n x.cps).foldl (· ++ ·) #[]).toList = (List.replicate n x.cps.toList).flatten
  rw [foldl_app]
  simp
theorem rpt_zero (x : Str) : rptS x 0 = Str.empty := by
  apply TL.ext_tl
  simp [rptS, TL.tl, Str.empty]
theorem rpt_one (x : Str) : rptS x 1 = x := by
  apply TL.ext_tl
  simp [rptS, TL.tl]
theorem rpt_nil {x : Str} (h : x.length = 0) (n : Nat) : rptS x n = x := by
  apply TL.ext_tl
  have e : x.cps.toList = [] := by
    have : x.cps.size = 0 := h
    simpa using this
  simp [rptS, TL.tl, e]
theorem rptS_len (x : Str) (n : Nat) : (rptS x n).length = x.length * n := by
  show (rptS x n).cps.size = x.cps.size * n
  simp [rptS, Nat.mul_comm]
def rMulS : R2 := fun x y H Q => ∃ (z : Str) (n : Int), x = .str z ∧ y = .int n ∧ (-(2 ^ 62) < n ∧ n < 2 ^ 30 ∧ z.length * n.toNat ≤ 1000000 ∧ z.length < 2 ^ 30) ∧ Q (.str (rptS z n.toNat)) H
theorem op_mul_str : OpR X (binaryOp .Mult) rMulS := by
  intro pins s σ H x y v u Q I rx ry h
  obtain ⟨z, n, rfl, rfl, ⟨h1, h2, h3, h4⟩, q⟩ := h
  obtain ⟨t, rfl⟩ := rx
  obtain ⟨t', rfl⟩ := ry
  refine P.mul_str (by
    have a : ¬ n < -(2 ^ 63 : Int) := by omega
    have b : ¬ n ≥ 2 ^ 63 := by omega
    rw [decide_eq_false a, decide_eq_false b]; rfl) (fun a b => ?_) (fun a b => ?_) ?_
  · intro z1
    have e1 : (n : Int) * (z.length : Int) ≤ 2 ^ 63 - 1 := by
      have : (n : Int) = (n.toNat : Int) := by omega
      rw [this]
      have h5 : (n.toNat : Int) * (z.length : Int) = ((z.length * n.toNat : Nat) : Int) := by rw [Nat.mul_comm]; simp
      rw [h5]
      omega
    have e2 : (z.length : Int) ≤ (2 ^ 63 - 1) / n := by
      rw [Int.le_ediv_iff_mul_le (by omega), Int.mul_comm]
      exact e1
    omega
  · unfold Builtin.Str.tooLong
    rw [decide_eq_false_iff_not, sizeLine_eq]
    omega
  · by_cases c1 : n < 1
    · rw [if_pos c1]
      have e : n.toNat = 0 := by omega
      rw [e, rpt_zero] at q
      exact ⟨by decide, ⟨.str _, H, I.tok _, ⟨_, rfl⟩, q⟩⟩
    · rw [if_neg c1]
      by_cases c2 : (n == 1 || z.length == 0) = true
      · rw [if_pos c2]
        have e : rptS z n.toNat = z := by
          rcases (Bool.or_eq_true _ _).mp c2 with c | c
          · have : n.toNat = 1 := by
              have := eq_of_beq c
              omega
            rw [this, rpt_one]
          · exact rpt_nil (eq_of_beq c) _
        rw [e] at q
        exact ⟨.str z, H, I, ⟨t, rfl⟩, q⟩
      · rw [if_neg c2, rpt_eq]
        refine ⟨?_, ⟨.str _, H, I.tok _, ⟨_, rfl⟩, q⟩⟩
        rw [rptS_len, sizeLine_eq]
        omega
def rMulAll : R2 := fun x y H Q => (rI CMul fun i j => .int (i * j)) x y H Q ∨ rMulS x y H Q
theorem op_mulAll : OpR X (binaryOp .Mult) rMulAll := op_mul.or op_mul_str
theorem ops_mul : OpS X rMulAll mulD := by
  intro g O H σ ρ h x y u v Q P E r1 r2 q k
  unfold mulD at q
  split at q
  · exact .inl ⟨_, _, r1.int, r2.int, q.1, k _ _ H E Nx.refl Rep.int q.2⟩
  · exact .inr ⟨_, _, r1.str, r2.int, ⟨q.1, q.2.1, q.2.2.1, q.2.2.2.1⟩, k _ _ H E Nx.refl Rep.str q.2.2.2.2⟩
  · exact q.elim
end
/-! ### comparisons -/
def eqS : D → D → Option Bool
  | .non, .non => some true
  | .int i, .int j => some (decide (i = j))
  | .bl i, .bl j => some (decide (i = j))
  | .str i, .str j => some (decide (i = j))
  | .int _, .str _ => some false
  | .str _, .int _ => some false
  | .non, .str _ => some false
  | .str _, .non => some false
  | .non, .int _ => some false
  | .int _, .non => some false
  | .bl _, .str _ => some false
  | .str _, .bl _ => some false
  | _, _ => none
def onB (o : Option Bool) (Q : D → Prop) : Prop := match o with
  | some b => Q (.bl b)
  | none => False
def eqD : OpD := fun x y Q => onB (eqS x y) Q
def neD : OpD := fun x y Q => onB ((eqS x y).map (!·)) Q
def ltD : OpD
  | .int i, .int j, Q => Q (.bl (decide (i < j)))
  | .str i, .str j, Q => Q (.bl (decide (i.cps.toList < j.cps.toList)))
  | _, _, _ => False
def leD : OpD
  | .int i, .int j, Q => Q (.bl (decide (i ≤ j)))
  | .str i, .str j, Q => Q (.bl (!decide (j.cps.toList < i.cps.toList)))
  | _, _, _ => False
def gtD : OpD
  | .int i, .int j, Q => Q (.bl (decide (j < i)))
  | .str i, .str j, Q => Q (.bl (decide (j.cps.toList < i.cps.toList)))
  | _, _, _ => False
def geD : OpD
  | .int i, .int j, Q => Q (.bl (decide (j ≤ i)))
  | .str i, .str j, Q => Q (.bl (!decide (i.cps.toList < j.cps.toList)))
  | _, _, _ => False
section
variable {X : Cx}
theorem eqS_v {K : PySem.W.Frag} {so : Option Sto} {A : Addr → Prop} {H : Hp} {x y : D} {u v : V} {b : Bool} (h : eqS x y = some b) (r1 : RepK K so A H x u) (r2 : RepK K so A H y v) : scal u v = true ∧ decide (u = v) = b := by
  unfold eqS at h
  split at h
  · rw [r1.non, r2.non]; cases h; exact ⟨rfl, by decide⟩
  · rw [r1.int, r2.int]; cases h; exact ⟨rfl, by simp⟩
  · rw [r1.bl, r2.bl]; cases h; exact ⟨rfl, by simp⟩
  · rw [r1.str, r2.str]; cases h; exact ⟨rfl, by simp⟩
  · rw [r1.int, r2.str]; cases h; exact ⟨rfl, by simp⟩
  · rw [r1.str, r2.int]; cases h; exact ⟨rfl, by simp⟩
  · rw [r1.non, r2.str]; cases h; exact ⟨rfl, by simp⟩
  · rw [r1.str, r2.non]; cases h; exact ⟨rfl, by simp⟩
  · rw [r1.non, r2.int]; cases h; exact ⟨rfl, by simp⟩
  · rw [r1.int, r2.non]; cases h; exact ⟨rfl, by simp⟩
  · rw [r1.bl, r2.str]; cases h; exact ⟨rfl, by simp⟩
  · rw [r1.str, r2.bl]; cases h; exact ⟨rfl, by simp⟩
  · cases h
theorem ops_eq : OpS X rEq eqD := by
  intro g O H σ ρ h x y u v Q P E r1 r2 q k
  unfold eqD at q
  cases e : eqS x y with
  | none => rw [e] at q; exact q.elim
  | some b =>
    rw [e] at q
    obtain ⟨h1, h2⟩ := eqS_v e r1 r2
    exact ⟨h1, by rw [h2]; exact k _ _ H E Nx.refl Rep.bl q⟩
theorem ops_ne : OpS X rNe neD := by
  intro g O H σ ρ h x y u v Q P E r1 r2 q k
  unfold neD at q
  cases e : eqS x y with
  | none => rw [e] at q; exact q.elim
  | some b =>
    rw [e] at q
    obtain ⟨h1, h2⟩ := eqS_v e r1 r2
    exact ⟨h1, by rw [h2]; exact k _ _ H E Nx.refl Rep.bl q⟩
def rSS (f : Str → Str → Bool) : R2 := fun x y H Q => ∃ i j, x = .str i ∧ y = .str j ∧ Q (.bl (f i j)) H
def rIS (p : Int → Int → Bool) (f : Str → Str → Bool) : R2 := fun x y H Q => (rI0 fun i j => .bl (p i j)) x y H Q ∨ rSS f x y H Q
theorem op_ltAll : OpR X (compareOp .Lt) (rIS (fun i j => decide (i < j)) fun i j => decide (i.cps.toList < j.cps.toList)) := op_lt.or op_lt_str
theorem op_leAll : OpR X (compareOp .LtE) (rIS (fun i j => decide (i ≤ j)) fun i j => !decide (j.cps.toList < i.cps.toList)) := op_le.or op_le_str
theorem op_gtAll : OpR X (compareOp .Gt) (rIS (fun i j => decide (j < i)) fun i j => decide (j.cps.toList < i.cps.toList)) := op_gt.or op_gt_str
theorem op_geAll : OpR X (compareOp .GtE) (rIS (fun i j => decide (j ≤ i)) fun i j => !decide (i.cps.toList < j.cps.toList)) := op_ge.or op_ge_str
theorem ops_is {p : Int → Int → Bool} {f : Str → Str → Bool} {h : OpD} (hh : ∀ x y Q, h x y Q → (∃ i j, x = .int i ∧ y = .int j ∧ Q (.bl (p i j))) ∨ ∃ i j, x = .str i ∧ y = .str j ∧ Q (.bl (f i j))) : OpS X (rIS p f) h := by
  intro g O H σ ρ h x y u v Q P E r1 r2 q k
  rcases hh _ _ _ q with ⟨i, j, rfl, rfl, q2⟩ | ⟨i, j, rfl, rfl, q2⟩
  · exact .inl ⟨i, j, r1.int, r2.int, k _ _ H E Nx.refl Rep.bl q2⟩
  · exact .inr ⟨i, j, r1.str, r2.str, k _ _ H E Nx.refl Rep.bl q2⟩
theorem ops_lt : OpS X (rIS (fun i j => decide (i < j)) fun i j => decide (i.cps.toList < j.cps.toList)) ltD := ops_is fun x y Q q => by
  unfold ltD at q
  split at q
  · exact .inl ⟨_, _, rfl, rfl, q⟩
  · exact .inr ⟨_, _, rfl, rfl, q⟩
  · exact q.elim
theorem ops_le : OpS X (rIS (fun i j => decide (i ≤ j)) fun i j => !decide (j.cps.toList < i.cps.toList)) leD := ops_is fun x y Q q => by
  unfold leD at q
  split at q
  · exact .inl ⟨_, _, rfl, rfl, q⟩
  · exact .inr ⟨_, _, rfl, rfl, q⟩
  · exact q.elim
theorem ops_gt : OpS X (rIS (fun i j => decide (j < i)) fun i j => decide (j.cps.toList < i.cps.toList)) gtD := ops_is fun x y Q q => by
  unfold gtD at q
  split at q
  · exact .inl ⟨_, _, rfl, rfl, q⟩
  · exact .inr ⟨_, _, rfl, rfl, q⟩
  · exact q.elim
theorem ops_ge : OpS X (rIS (fun i j => decide (j ≤ i)) fun i j => !decide (i.cps.toList < j.cps.toList)) geD := ops_is fun x y Q q => by
  unfold geD at q
  split at q
  · exact .inl ⟨_, _, rfl, rfl, q⟩
  · exact .inr ⟨_, _, rfl, rfl, q⟩
  · exact q.elim
/-- is None -/
def isND (b : Bool) : OpD := fun x y Q => match y with
  | .non => (match x with
    | .non => Q (.bl b)
    | _ => Q (.bl (!b)))
  | _ => False
theorem nonV {K : PySem.W.Frag} {so : Option Sto} {A : Addr → Prop} {H : Hp} {x : D} {u : V} (r : RepK K so A H x u) (h : x ≠ .non) : u ≠ .non := by
  rintro rfl
  rcases r with r | ⟨p, e, _⟩
  · cases x with
    | non => exact h rfl
    | bl b => unfold Rep at r; cases r
    | int b => unfold Rep at r; cases r
    | str b => unfold Rep at r; cases r
    | lst xs => unfold Rep at r; obtain ⟨_, _, z, _⟩ := r; cases z
    | tup xs => unfold Rep at r; obtain ⟨_, _, z, _⟩ := r; cases z
    | dic ks xs => unfold Rep at r; obtain ⟨_, _, z, _⟩ := r; cases z
    | obj c ks xs => unfold Rep at r; obtain ⟨_, _, _, z, _⟩ := r; cases z
    | sto => unfold Rep at r; obtain ⟨_, _, z⟩ := r; cases z
    | ptr a => unfold Rep at r; cases r
  · cases e
def rIsNN : R2 := fun x y H Q => y = .non ∧ Q (.bl (decide (x = .non))) H
def rNotNN : R2 := fun x y H Q => y = .non ∧ Q (.bl (!decide (x = .non))) H
theorem isND_v {K : PySem.W.Frag} {so : Option Sto} {A : Addr → Prop} {H : Hp} {x y : D} {u v : V} {b : Bool} {Q : D → Prop} (q : isND b x y Q) (r1 : RepK K so A H x u) (r2 : RepK K so A H y v) :
    v = .non ∧ ((u = .non ∧ Q (.bl b)) ∨ (u ≠ .non ∧ Q (.bl (!b)))) := by
  unfold isND at q
  split at q
  · refine ⟨r2.non, ?_⟩
    split at q
    · exact .inl ⟨r1.non, q⟩
    · rename_i h
      exact .inr ⟨nonV r1 (fun z => h z), q⟩
  · exact q.elim
theorem ops_isN : OpS X rIsNN (isND true) := by
  intro g O H σ ρ h x y u v Q P E r1 r2 q k
  obtain ⟨h1, ⟨h2, q⟩ | ⟨h2, q⟩⟩ := isND_v q r1 r2
  · exact ⟨h1, by rw [decide_eq_true h2]; exact k _ _ H E Nx.refl Rep.bl q⟩
  · exact ⟨h1, by rw [decide_eq_false h2]; exact k _ _ H E Nx.refl Rep.bl q⟩
theorem ops_notN : OpS X rNotNN (isND false) := by
  intro g O H σ ρ h x y u v Q P E r1 r2 q k
  obtain ⟨h1, ⟨h2, q⟩ | ⟨h2, q⟩⟩ := isND_v q r1 r2
  · exact ⟨h1, by rw [decide_eq_true h2]; exact k _ _ H E Nx.refl Rep.bl q⟩
  · exact ⟨h1, by rw [decide_eq_false h2]; exact k _ _ H E Nx.refl Rep.bl q⟩
/-! ### in -/
def flatD : D → Bool
  | .non => true
  | .bl _ => true
  | .int _ => true
  | .str _ => true
  | _ => false
def eqF : D → D → Bool
  | .non, .non => true
  | .bl a, .bl b => a == b
  | .bl a, .int b => (if a then 1 else 0) == b
  | .int a, .bl b => a == (if b then 1 else 0)
  | .int a, .int b => a == b
  | .str a, .str b => a == b
  | _, _ => false
theorem flat_v {K : PySem.W.Frag} {so : Option Sto} {A : Addr → Prop} {H : Hp} {x : D} {u : V} (h : flatD x = true) (r : RepK K so A H x u) : flatV u = true := by
  cases x with
  | non => rw [r.non]; rfl
  | bl b => rw [r.bl]; rfl
  | int b => rw [r.int]; rfl
  | str b => rw [r.str]; rfl
  | _ => cases h
theorem eqF_v {K : PySem.W.Frag} {so : Option Sto} {A : Addr → Prop} {H : Hp} {x y : D} {u v : V} (h : flatD x = true) (h' : flatD y = true) (r : RepK K so A H x u) (r' : RepK K so A H y v) : eqV u v = eqF x y := by
  cases x <;> first | (cases h; done) | (cases y <;> first | (cases h'; done) | skip)
  all_goals first
    | (rw [r.non, r'.non]; rfl) | (rw [r.non, r'.bl]; rfl) | (rw [r.non, r'.int]; rfl) | (rw [r.non, r'.str]; rfl)
    | (rw [r.bl, r'.non]; rfl) | (rw [r.bl, r'.bl]; rfl) | (rw [r.bl, r'.int]; rfl) | (rw [r.bl, r'.str]; rfl)
    | (rw [r.int, r'.non]; rfl) | (rw [r.int, r'.bl]; rfl) | (rw [r.int, r'.int]; rfl) | (rw [r.int, r'.str]; rfl)
    | (rw [r.str, r'.non]; rfl) | (rw [r.str, r'.bl]; rfl) | (rw [r.str, r'.int]; rfl) | (rw [r.str, r'.str]; rfl)
theorem flats_v {K : PySem.W.Frag} {so : Option Sto} {A : Addr → Prop} {H : Hp} : ∀ {xs : List D} {us : List V}, xs.all flatD = true → Reps K so A H xs us → us.all flatV = true
  | [], us, _, r => by unfold Reps at r; rw [r]; rfl
  | x :: xs, us, h, r => by
    unfold Reps at r
    obtain ⟨u, rs, rfl, r1, r2⟩ := r
    rw [List.all_cons, Bool.and_eq_true] at h
    rw [List.all_cons, flat_v h.1 r1.k, flats_v h.2 r2]
    rfl
theorem anyF_v {K : PySem.W.Frag} {so : Option Sto} {A : Addr → Prop} {H : Hp} {x : D} {u : V} (hx : flatD x = true) (rx : RepK K so A H x u) : ∀ {xs : List D} {us : List V}, xs.all flatD = true → Reps K so A H xs us → inV u us = xs.any fun y => eqF y x
  | [], us, _, r => by unfold Reps at r; rw [r]; rfl
  | y :: ys, us, h, r => by
    unfold Reps at r
    obtain ⟨v, rs, rfl, r1, r2⟩ := r
    rw [List.all_cons, Bool.and_eq_true] at h
    have ih := anyF_v hx rx h.2 r2
    unfold inV at ih ⊢
    rw [List.any_cons, List.any_cons, ih, eqF_v h.1 hx r1.k rx]
def keyD : D → Option Key
  | .int i => some (.inl i)
  | .str x => some (.inr x)
  | _ => none
theorem key_v {K : PySem.W.Frag} {so : Option Sto} {A : Addr → Prop} {H : Hp} {x : D} {u : V} {k : Key} (h : keyD x = some k) (r : RepK K so A H x u) : u = kV k := by
  cases x with
  | int i => cases h; exact r.int
  | str i => cases h; exact r.str
  | _ => cases h
def dlook : List Key → List D → Key → Option D
  | k :: ks, v :: vs, q => if k = q then some v else dlook ks vs q
  | _, _, _ => none
theorem dlook_v {K : PySem.W.Frag} {so : Option Sto} {A : Addr → Prop} {H : Hp} (q : Key) : ∀ {us : List (Key × V)} {vs : List D}, Reps K so A H vs (us.map (·.2)) →
    (dlook (us.map (·.1)) vs q = none ∧ valV us q = none) ∨ ∃ d v, dlook (us.map (·.1)) vs q = some d ∧ valV us q = some v ∧ Rep K so A H d v
  | [], vs, r => .inl ⟨rfl, rfl⟩
  | (k, u) :: us, [], r => by
    unfold Reps at r
    cases r
  | (k, u) :: us, v :: vs, r => by
    unfold Reps at r
    obtain ⟨u', rs, e, r1, r2⟩ := r
    rw [List.map_cons] at e
    obtain ⟨rfl, rfl⟩ := List.cons.inj e
    rw [List.map_cons]
    unfold dlook
    by_cases c : k = q
    · rw [if_pos c, valV_pos (p := (k, u)) c]
      exact .inr ⟨v, u, rfl, rfl, r1⟩
    · rw [if_neg c, valV_neg (p := (k, u)) c]
      exact dlook_v q r2
/-- one sign in a text; any text in a text -/
def inStr (x y : Str) : Bool := !(Builtin.Str.occurrences y x 0 y.length 1).isEmpty
def inD : D → D → Option Bool
  | x, .lst xs => if flatD x && xs.all flatD then some (xs.any fun y => eqF y x) else none
  | x, .tup xs => if flatD x && xs.all flatD then some (xs.any fun y => eqF y x) else none
  | .str x, .str y => some (inStr x y)
  | x, .dic ks vs => match keyD x with
    | some k => some (dlook ks vs k).isSome
    | none => none
  | _, _ => none
def inOp (neg : Bool) : OpD := fun x y Q => onB ((inD x y).map fun b => if neg then !b else b) Q
def rInStr (neg : Bool) : R2 := fun x y H Q => ∃ i j, x = .str i ∧ y = .str j ∧ Q (.bl (if neg then !inStr i j else inStr i j)) H
def rInDic (neg : Bool) : R2 := fun y x H Q => ∃ a o, x = .ref a ∧ DGet H a y o ∧ Q (.bl (if neg then !o.isSome else o.isSome)) H
def rInAll (K : PySem.W.Frag) (neg : Bool) : R2 := fun x y H Q => rIn K neg x y H Q ∨ (rInStr neg x y H Q ∨ rInDic neg x y H Q)
theorem op_in_dic (hu : X.A.units + 1 < cLine) : OpR X (compareOp .In) (rInDic false) := by
  intro pins s σ H y x iv u Q I ry rx h
  obtain ⟨a, ov, rfl, g, q⟩ := h
  obtain rfl : u = Value.ref a := rx
  exact d_in hu I g ry fun s3 I3 => ⟨.bl ov.isSome, H, I3, rfl, q⟩
theorem op_notIn_dic (hu : X.A.units + 1 < cLine) : OpR X (compareOp .NotIn) (rInDic true) := by
  intro pins s σ H y x iv u Q I ry rx h
  obtain ⟨a, ov, rfl, g, q⟩ := h
  obtain rfl : u = Value.ref a := rx
  exact d_notIn hu I g ry fun s3 I3 => ⟨.bl (!ov.isSome), H, I3, rfl, q⟩
theorem op_inAll (hu : X.A.units + 1 < cLine) : OpR X (compareOp .In) (rInAll X.K false) := op_in_seq.or (OpR.or (r := rInStr false) op_in_str (op_in_dic hu))
theorem op_notInAll (hu : X.A.units + 1 < cLine) : OpR X (compareOp .NotIn) (rInAll X.K true) := op_notIn_seq.or (OpR.or (r := rInStr true) op_notIn_str (op_notIn_dic hu))
theorem ops_in {neg : Bool} : OpS X (rInAll X.K neg) (inOp neg) := by
  intro g O H σ ρ h x y u v Q P E r1 r2 q k
  unfold inOp at q
  cases e : inD x y with
  | none => rw [e] at q; exact q.elim
  | some b =>
    rw [e] at q
    have q : Q (.bl (if neg then !b else b)) := q
    have fin := fun z => k _ _ H E Nx.refl (Rep.bl (b := z))
    unfold inD at e
    split at e
    · rename_i xs
      split at e
      · rename_i c
        rw [Bool.and_eq_true] at c
        cases e
        obtain ⟨a, us, rfl, h1, r⟩ := r2.lst
        refine .inl ⟨a, us, rfl, .inl (SqL.of h1), flat_v c.1 r1, flats_v c.2 r, ?_⟩
        rw [anyF_v c.1 r1 c.2 r]
        exact fin _ q
      · cases e
    · rename_i xs
      split at e
      · rename_i c
        rw [Bool.and_eq_true] at c
        cases e
        obtain ⟨a, us, rfl, h1, r⟩ := r2.tup
        refine .inl ⟨a, us, rfl, .inr h1, flat_v c.1 r1, flats_v c.2 r, ?_⟩
        rw [anyF_v c.1 r1 c.2 r]
        exact fin _ q
      · cases e
    · cases e
      exact .inr (.inl ⟨_, _, r1.str, r2.str, fin _ q⟩)
    · rename_i ks vs
      split at e
      · rename_i kk ek
        cases e
        obtain ⟨a, us, rfl, h1, rfl, r⟩ := r2.dic
        refine .inr (.inr ⟨a, valV us kk, rfl, ?_, ?_⟩)
        · rw [key_v ek r1]
          exact DGet.k h1
        · rcases dlook_v kk r with ⟨z1, z2⟩ | ⟨d, w, z1, z2, _⟩
          · rw [z1] at q
            rw [z2]
            exact fin _ q
          · rw [z1] at q
            rw [z2]
            exact fin _ q
      · cases e
    · cases e
end
end Pu
set_option Elab.async false
set_option linter.all false
set_option maxRecDepth 100000
set_option maxHeartbeats 4000000
set_option autoImplicit false
/-! Calls, subscripts, slices, methods. -/
namespace Pu
open PySem PySem.Spec PyProof.Rows L2
def dom (h : PHp) : Addr → Prop := fun a => h a ≠ none
/-- what a call's state keeps, without slots -/
structure Wd (K : PySem.W.Frag) (g : Gm) (O : Addr → Prop) (H : Hp) (h : PHp) : Prop where
  ext : ∀ a o, g.H0 a = some o → H a = some o
  st : StOk g.so (g.A O) H
  mok : ∀ a, g.M a → H a ≠ none
  liv : ∀ a, g.L a → H a ≠ none
  sM : ∀ s, IsS g.so s → g.M s ∧ g.H0 s = none
  oM : ∀ p, O p → ¬ g.M p ∧ g.H0 p = none ∧ H p ≠ none
  hp : ∀ a d, h a = some d → O a ∧ Own K g.so (g.A O) H d a
def SpD (K : PySem.W.Frag) (sp : Spec) : Sp := fun vs H Q E => ∃ (g : Gm) (h : PHp) (ds : List D) (Qp : D → PHp → Prop) (Ep : XP), Wd K g (dom h) H h ∧ Reps K g.so (g.A (dom h)) H ds vs ∧ sp ds h Qp Ep ∧
  (∀ O' H' h' d v, Wd K g O' H' h' → Rep K g.so (g.A O') H' d v → Qp d h' → Q v H') ∧
  (∀ O' H' h' c dd us vs', Wd K g O' H' h' → H' dd = some (.xd us) → Reps K g.so (g.A O') H' vs' (us.map (·.2)) → Ep c (us.map (·.1)) vs' h' → E (.ref (He.ga K c)) (some dd) H')
open Classical in
/-- the callee's frame -/
noncomputable def Gm.callee (g : Gm) (O : Addr → Prop) (H : Hp) (h : PHp) : Gm where
  so := g.so
  M := fun a => g.A O a ∧ h a = none
  H0 := fun a => if IsS g.so a ∨ h a ≠ none then none else H a
  L := fun a => H a ≠ none
theorem callee_H0 {g : Gm} {O : Addr → Prop} {H : Hp} {h : PHp} {a : Addr} : (∀ o, (g.callee O H h).H0 a = some o → H a = some o) ∧ (¬ IsS g.so a → h a = none → (g.callee O H h).H0 a = H a) ∧ ((IsS g.so a ∨ h a ≠ none) → (g.callee O H h).H0 a = none) := by
  refine ⟨fun o e => ?_, fun x y => ?_, fun x => ?_⟩
  · unfold Gm.callee at e
    dsimp only at e
    split at e
    · cases e
    · exact e
  · unfold Gm.callee
    exact if_neg fun z => z.elim x fun z => z y
  · unfold Gm.callee
    exact if_pos x
theorem EnvR.call {K : PySem.W.Frag} {g : Gm} {O : Addr → Prop} {H : Hp} {σ : L2.St} {ρ : List Cell} {h : PHp} (E : EnvR K g O H σ ρ h) : Wd K (g.callee O H h) (dom h) H h ∧ (∀ ds us, Reps K g.so (g.A O) H ds us → Reps K g.so ((g.callee O H h).A (dom h)) H ds us) ∧
    ∀ O1 H1 h1, Wd K (g.callee O H h) O1 H1 h1 → ∃ O2, EnvR K g O2 H1 σ ρ h1 ∧ Nx g O h H O2 h1 H1 ∧ (∀ d v, Rep K g.so ((g.callee O H h).A O1) H1 d v → Rep K g.so (g.A O2) H1 d v) ∧ (∀ d v, Reps K g.so ((g.callee O H h).A O1) H1 d v → Reps K g.so (g.A O2) H1 d v) := by
  have hO : ∀ {a : Addr}, h a ≠ none → O a := fun {a} z => by
    cases e : h a with
    | none => exact absurd e z
    | some d => exact (E.hp a d e).1
  have eA : (g.callee O H h).A (dom h) = g.A O := by
    funext a
    refine propext ⟨fun z => z.elim (fun z => z.1) fun z => .inr (hO z), fun z => ?_⟩
    by_cases e : h a = none
    · exact .inl ⟨z, e⟩
    · exact .inr e
  have gM : ∀ {a : Addr}, g.M a → h a = none := fun {a} z => Classical.byContradiction fun e => (E.oM a (hO e)).1 z
  have sh : ∀ {s : Addr}, IsS g.so s → h s = none := fun {s} z => gM (E.sM s z).1
  refine ⟨⟨fun a o e => callee_H0.1 o e, by rw [eA]; exact E.st, fun a z => z.1.elim (E.mok a) fun z => (E.oM a z).2.2, fun _ z => z, fun s z => ⟨⟨.inl (E.sM s z).1, sh z⟩, callee_H0.2.2 (.inl z)⟩, fun p z => ⟨fun w => z w.2, callee_H0.2.2 (.inr z), (E.oM p (hO z)).2.2⟩, fun a d e => ⟨by unfold dom; rw [e]; simp, by rw [eA]; exact (E.hp a d e).2⟩⟩,
    fun ds us r => by rw [eA]; exact r, fun O1 H1 h1 Wd1 => ?_⟩
  have h1O : ∀ {a : Addr}, h1 a ≠ none → O1 a := fun {a} z => by
    cases e : h1 a with
    | none => exact absurd e z
    | some d => exact (Wd1.hp a d e).1
  have sub : ∀ a, g.A (fun a => (O a ∧ h a = none) ∨ h1 a ≠ none) a → (g.callee O H h).A O1 a := fun a z => by
    rcases z with z | z | z
    · exact .inl ⟨.inl z, gM z⟩
    · exact .inl ⟨.inr z.1, z.2⟩
    · exact .inr (h1O z)
  have wk : Kp ((g.callee O H h).A O1) (g.A fun a => (O a ∧ h a = none) ∨ h1 a ≠ none) H1 H1 := Kp.weak sub
  have keep : ∀ {a : Addr} {o : HO}, H a = some o → ¬ IsS g.so a → h a = none → H1 a = some o := fun {a o} e x y => Wd1.ext a o (by rw [callee_H0.2.1 x y]; exact e)
  have k : Kp (g.A O) (g.A fun a => (O a ∧ h a = none) ∨ h1 a ≠ none) H H1 := fun a o e n => by
    have x : ¬ IsS g.so a := fun z => n (E.sA a z)
    have y : h a = none := Classical.byContradiction fun z => n (.inr (hO z))
    refine ⟨keep e x y, fun z => ?_⟩
    rcases z with z | z | z
    · exact n (.inl z)
    · exact n (.inr z.1)
    · have w := (Wd1.oM a (h1O z)).2.1
      rw [callee_H0.2.1 x y, e] at w
      cases w
  have up : ∀ a, H a ≠ none → H1 a ≠ none := Wd1.liv
  have nx : Nx g O h H (fun a => (O a ∧ h a = none) ∨ h1 a ≠ none) h1 H1 := ⟨k, fun p o x y e => ⟨.inl ⟨x, y⟩, Classical.byContradiction fun z => (Wd1.oM p (h1O z)).1 ⟨.inr x, y⟩, keep e (E.oS x) y⟩, up⟩
  refine ⟨fun a => (O a ∧ h a = none) ∨ h1 a ≠ none, ⟨E.len, fun a o e => ?_, Wd1.st.kp (fun _ _ => rfl) wk, fun a z => up a (E.mok a z), fun a z => up a (E.liv a z), E.sM, fun p z => ?_, fun i c hc => ?_, E.inj, fun z hz => nx.rep (E.fzr z hz), fun a d e => ⟨.inr (by rw [e]; simp), (Wd1.hp a d e).2.kp wk fun _ x => x⟩⟩, nx, fun d v r => Rep.kp wk d v r, fun d v r => Reps.kp wk d v r⟩
  · have x : ¬ IsS g.so a := fun z => by rw [(E.sM a z).2] at e; cases e
    have y : h a = none := Classical.byContradiction fun z => by rw [(E.oM a (hO z)).2.1] at e; cases e
    exact keep (E.ext a o e) x y
  · rcases z with z | z
    · exact ⟨(E.oM p z.1).1, (E.oM p z.1).2.1, up p (E.oM p z.1).2.2⟩
    · have w := Wd1.oM p (h1O z)
      refine ⟨fun m => w.1 ⟨.inl m, gM m⟩, ?_, w.2.2⟩
      cases e : g.H0 p with
      | none => rfl
      | some o =>
        have x : ¬ IsS g.so p := fun z => by rw [(E.sM p z).2] at e; cases e
        have y : h p = none := Classical.byContradiction fun z => by rw [(E.oM p (hO z)).2.1] at e; cases e
        have w2 := w.2.1
        rw [callee_H0.2.1 x y, E.ext p o e] at w2
        cases w2
  · have hh := E.cells i c hc
    cases c with
    | no => trivial
    | fro d => obtain ⟨v, e, r⟩ := hh; exact ⟨v, e, nx.rep r⟩
    | own d => obtain ⟨q, e, c⟩ := hh; exact ⟨q, e, nx.cell c⟩
section
variable {X : Cx} {W : WX} {a b c : Expr} {qa qb qc : RE} {pos p : Pos} {x : Str} {k : Nat} {f : Addr} {fd : FuncData} {ps : List Str} {sp : Spec} {es : List Expr} {r : RA}
theorem spd_of {K : PySem.W.Frag} {g : Gm} {O : Addr → Prop} {H : Hp} {σ : L2.St} {ρ : List Cell} {h : PHp} {ds : List D} {us : List V} {Ex : XP} {Q : D → PHp → Prop} {P : VK} (E : EnvR K g O H σ ρ h) (o : OkE K g W Ex σ ρ) (rr : Reps K g.so (g.A O) H ds us) (hq : sp ds h Q Ex)
    (kk : ∀ d v O' H' h', EnvR K g O' H' σ ρ h' → Nx g O h H O' h' H' → Rep K g.so (g.A O') H' d v → Q d h' → P v H') : SpD K sp us H P (WE W σ) := by
  obtain ⟨w1, w2, w3⟩ := E.call
  refine ⟨g.callee O H h, h, ds, Q, Ex, w1, w2 _ _ rr, hq, fun O1 H1 h1 d v wd rv q => ?_, fun O1 H1 h1 c dd us' vs' wd e rv q => ?_⟩
  · obtain ⟨O2, E2, n2, k1, k2⟩ := w3 O1 H1 h1 wd
    exact kk d v O2 H1 h1 E2 n2 (k1 _ _ rv) q
  · obtain ⟨O2, E2, n2, k1, k2⟩ := w3 O1 H1 h1 wd
    exact o O2 H1 h1 c dd us' vs' E2 e (k2 _ _ rv) q
theorem qe_call (F : FnOk X.prog X.w X.K X.mg X.base (L2.CX X.prog X.w) k f fd ps (SpD X.K sp)) (hr : Room k X.A) (hm : X.mg x = some (.ref f)) (hk : PySem.W.keepIn X.K (.ref f) = true) (hb : Binds X.K fd ps []) (tk : Takes X W)
    (ha : QA X W (a :: es) r) (hg : Gl X x := by rfl) (hdb : (x == ("__debug__" : Str)) = false := by decide) (he : starEach (a :: es) X.env = (false, eval a X.env) :: starEach es X.env := by rfl) (hpl : (backTo pos (starEach es X.env)).any (·.1) = false := by rfl) :
    QE X W (.Call (.Name x p) (a :: es) [] pos) (qCall sp r) := by
  obtain ⟨ta, ha1, ha2⟩ := ha
  refine ⟨_, pe_callS F hr hg hm hk hb (passAt tk) ha1 hdb he hpl, fun g O H σ ρ h Ex Q P E o hq kk => ha2 g O H σ ρ h Ex _ _ E o hq fun ds us O1 H1 h1 E1 n1 rr l q1 => ?_⟩
  exact spd_of E1 o rr q1 fun d v O' H' h' E' n => kk d v O' H' h' E' (n1.trans n)
/-- f(): what it raises is not wished for -/
def qCall0 (sp : Spec) : RE := fun _ _ h Q => sp [] h Q fun _ _ _ _ => False
theorem passLW : Passes (L2.CX X.prog X.w) X E0 := fun _ _ _ _ _ _ _ h => by
  obtain ⟨_, _, _, _, _, _, _, _, _, _, _, _, z⟩ := h
  exact z.elim
theorem qe_call0 (F : FnOk X.prog X.w X.K X.mg X.base (L2.CX X.prog X.w) k f fd ps (SpD X.K sp)) (hr : Room k X.A) (hm : X.mg x = some (.ref f)) (hk : PySem.W.keepIn X.K (.ref f) = true) (hb : Binds X.K fd ps [])
    (hg : Gl X x := by rfl) (hdb : (x == ("__debug__" : Str)) = false := by decide) : QE X W (.Call (.Name x p) [] [] pos) (qCall0 sp) := by
  refine ⟨_, pe_call0 F hr hg hm hk hb .nil passLW hdb, fun g O H σ ρ h Ex Q P E o hq kk => ?_⟩
  obtain ⟨w1, w2, w3⟩ := E.call
  refine ⟨g.callee O H h, h, [], Q, _, w1, Reps.nil, hq, fun O1 H1 h1 d v wd rv q => ?_, fun O1 H1 h1 c dd us' vs' wd e rv q => q.elim⟩
  obtain ⟨O2, E2, n2, k1, k2⟩ := w3 O1 H1 h1 wd
  exact kk d v O2 H1 h1 E2 n2 (k1 _ _ rv) q
/-! ### builtins of one argument, of two -/
def CallS1 (X : Cx) (r : List V → Hp → VK → Prop) (f : D → (D → Prop) → Prop) : Prop := ∀ (g : Gm) O H σ ρ h x u Q P, EnvR X.K g O H σ ρ h → RepK X.K g.so (g.A O) H x u → f x Q →
  (∀ d w H', EnvR X.K g O H' σ ρ h → Nx g O h H O h H' → Rep X.K g.so (g.A O) H' d w → Q d → P w H') → r [u] H P
def CallN1 (X : Cx) (r : List V → Hp → VK → Prop) (f : D → (D → Prop) → Prop) : Prop := ∀ (g : Gm) O H σ ρ h x u Q P, EnvR X.K g O H σ ρ h → RepK X.K g.so (g.A O) H x u → f x Q →
  (∀ d p O' H', EnvR X.K g O' H' σ ρ h → Nx g O h H O' h H' → H p = none → CellOk X.K g O' H' h d p → NoCell σ ρ p → Q d → P (.ref p) H') → r [u] H P
def CallS2 (X : Cx) (r : List V → Hp → VK → Prop) (f : OpD) : Prop := ∀ (g : Gm) O H σ ρ h x y u v Q P, EnvR X.K g O H σ ρ h → RepK X.K g.so (g.A O) H x u → RepK X.K g.so (g.A O) H y v → f x y Q →
  (∀ d w H', EnvR X.K g O H' σ ρ h → Nx g O h H O h H' → Rep X.K g.so (g.A O) H' d w → Q d → P w H') → r [u, v] H P
variable {bid : String} {rc : List V → Hp → VK → Prop} {f1 : D → (D → Prop) → Prop} {f2 : OpD}
theorem qe_b1 (hc : CallR X (.builtin bid) rc) (hs : CallS1 X rc f1) (hm : X.mg x = none) (ha : QK X W a qa) (hv : bootBuiltins x = some (.builtin bid) := by decide +kernel) (hg : Gl X x := by rfl)
    (h1 : starEach [a] X.env = (false, eval a X.env) :: starEach [] X.env := by rfl) (hn : x ≠ "__name__" := by decide) (hdb : (x == ("__debug__" : Str)) = false := by decide) : QE X W (.Call (.Name x p) [a] [] pos) (qUn f1 qa) := by
  obtain ⟨ta, ha1, ha2⟩ := ha
  refine ⟨_, pe_callB hc hg hm hv (pa_cons ha1 pa_nil h1) hn hdb h1 rfl, fun g O H σ ρ h Ex Q P E o hq kk => ha2 g O H σ ρ h Ex _ _ E o hq fun d v O' H' h' E' n rr q => ?_⟩
  exact hs g O' H' σ ρ h' _ v _ P E' (E'.deref rr) q fun d w H'' E'' n' => kk d w O' H'' h' E'' (n.trans n')
theorem qe_t1 (hc : CallR X (.type bid) rc) (hs : CallS1 X rc f1) (hm : X.mg x = none) (ha : QK X W a qa) (hv : bootBuiltins x = some (.type bid) := by decide +kernel) (hg : Gl X x := by rfl)
    (h1 : starEach [a] X.env = (false, eval a X.env) :: starEach [] X.env := by rfl) (hn : x ≠ "__name__" := by decide) (hdb : (x == ("__debug__" : Str)) = false := by decide) : QE X W (.Call (.Name x p) [a] [] pos) (qUn f1 qa) := by
  obtain ⟨ta, ha1, ha2⟩ := ha
  refine ⟨_, pe_callTy hc hg hm hv (pa_cons ha1 pa_nil h1) hn hdb h1 rfl, fun g O H σ ρ h Ex Q P E o hq kk => ha2 g O H σ ρ h Ex _ _ E o hq fun d v O' H' h' E' n rr q => ?_⟩
  exact hs g O' H' σ ρ h' _ v _ P E' (E'.deref rr) q fun d w H'' E'' n' => kk d w O' H'' h' E'' (n.trans n')
theorem qn_b1 (hc : CallR X (.builtin bid) rc) (hs : CallN1 X rc f1) (hm : X.mg x = none) (ha : QK X W a qa) (hv : bootBuiltins x = some (.builtin bid) := by decide +kernel) (hg : Gl X x := by rfl)
    (h1 : starEach [a] X.env = (false, eval a X.env) :: starEach [] X.env := by rfl) (hn : x ≠ "__name__" := by decide) (hdb : (x == ("__debug__" : Str)) = false := by decide) : QN X W (.Call (.Name x p) [a] [] pos) (qUn f1 qa) := by
  obtain ⟨ta, ha1, ha2⟩ := ha
  refine ⟨_, pe_callB hc hg hm hv (pa_cons ha1 pa_nil h1) hn hdb h1 rfl, fun g O H σ ρ h Ex Q P E o hq kk => ha2 g O H σ ρ h Ex _ _ E o hq fun d v O' H' h' E' n rr q => ?_⟩
  exact hs g O' H' σ ρ h' _ v _ P E' (E'.deref rr) q fun d p O2 H'' E'' n' hp => kk d p O2 H'' h' E'' (n.trans n') (n.back hp)
theorem qn_t1 (hc : CallR X (.type bid) rc) (hs : CallN1 X rc f1) (hm : X.mg x = none) (ha : QK X W a qa) (hv : bootBuiltins x = some (.type bid) := by decide +kernel) (hg : Gl X x := by rfl)
    (h1 : starEach [a] X.env = (false, eval a X.env) :: starEach [] X.env := by rfl) (hn : x ≠ "__name__" := by decide) (hdb : (x == ("__debug__" : Str)) = false := by decide) : QN X W (.Call (.Name x p) [a] [] pos) (qUn f1 qa) := by
  obtain ⟨ta, ha1, ha2⟩ := ha
  refine ⟨_, pe_callTy hc hg hm hv (pa_cons ha1 pa_nil h1) hn hdb h1 rfl, fun g O H σ ρ h Ex Q P E o hq kk => ha2 g O H σ ρ h Ex _ _ E o hq fun d v O' H' h' E' n rr q => ?_⟩
  exact hs g O' H' σ ρ h' _ v _ P E' (E'.deref rr) q fun d p O2 H'' E'' n' hp => kk d p O2 H'' h' E'' (n.trans n') (n.back hp)
theorem qe_b2 (hc : CallR X (.builtin bid) rc) (hs : CallS2 X rc f2) (hm : X.mg x = none) (ha : QK X W a qa) (hb : QK X W b qb) (hv : bootBuiltins x = some (.builtin bid) := by decide +kernel) (hg : Gl X x := by rfl)
    (h1 : starEach [a, b] X.env = (false, eval a X.env) :: starEach [b] X.env := by rfl) (h2 : starEach [b] X.env = (false, eval b X.env) :: starEach [] X.env := by rfl) (hpl : (backTo pos (starEach [b] X.env)).any (·.1) = false := by rfl) (hn : x ≠ "__name__" := by decide) (hdb : (x == ("__debug__" : Str)) = false := by decide) :
    QE X W (.Call (.Name x p) [a, b] [] pos) (qBin f2 qa qb) := by
  obtain ⟨ta, ha1, ha2⟩ := ha
  obtain ⟨tb, hb1, hb2⟩ := hb
  refine ⟨_, pe_callB hc hg hm hv (pa_cons ha1 (pa_cons hb1 pa_nil h2) h1) hn hdb h1 hpl, fun g O H σ ρ h Ex Q P E o hq kk => bin_run (r := fun x y H P => rc [x, y] H P) ha2 hb2 E o hq fun x y u v O' H' h' E' n r1 r2 q => ?_⟩
  exact hs g O' H' σ ρ h' x y u v _ P E' r1 r2 q fun d w H'' E'' n' => kk d w O' H'' h' E'' (n.trans n')
/-! ### which -/
def lenD : D → (D → Prop) → Prop
  | .str x, Q => x.length ≤ sizeLine ∧ Q (.int x.length)
  | .lst xs, Q => Q (.int xs.length)
  | .tup xs, Q => Q (.int xs.length)
  | .dic ks _, Q => Q (.int ks.length)
  | _, _ => False
def rLenD : List V → Hp → VK → Prop := fun xs H Q => ∃ a kvs, xs = [V.ref a] ∧ H a = some (.dK kvs) ∧ Q (.int kvs.length) H
def rLenA (K : PySem.W.Frag) : List V → Hp → VK → Prop := fun xs H Q => ∃ x n, xs = [x] ∧ LenV K x H n ∧ Q (.int n) H
def rLenAll (K : PySem.W.Frag) : List V → Hp → VK → Prop := fun xs H Q => rLenA K xs H Q ∨ rLenD xs H Q
theorem call_lenAll : CallR X (.builtin "len") (rLenAll X.K) := CallR.or (r := rLenA X.K) (r' := rLenD) call_len call_lenD
theorem cs_len : CallS1 X (rLenAll X.K) lenD := by
  intro g O H σ ρ h x u Q P E r1 q k
  unfold lenD at q
  split at q
  · rw [r1.str]
    exact .inl ⟨_, _, rfl, ⟨q.1, rfl⟩, k _ _ H E Nx.refl Rep.int q.2⟩
  · obtain ⟨a, us, rfl, h1, r⟩ := r1.lst
    exact .inl ⟨_, us.length, rfl, .inl ⟨us, SqL.of h1, rfl⟩, k (.int _) _ H E Nx.refl Rep.int (by rw [r.length]; exact q)⟩
  · obtain ⟨a, us, rfl, h1, r⟩ := r1.tup
    exact .inl ⟨_, us.length, rfl, .inr ⟨us, h1, rfl⟩, k (.int _) _ H E Nx.refl Rep.int (by rw [r.length]; exact q)⟩
  · obtain ⟨a, us, rfl, h1, rfl, r⟩ := r1.dic
    exact .inr ⟨a, us, rfl, h1, k (.int _) _ H E Nx.refl Rep.int (by rw [List.length_map] at q; exact q)⟩
  · exact q.elim
def intD : D → (D → Prop) → Prop
  | .int i, Q => Q (.int i)
  | .bl b, Q => Q (.int (if b then 1 else 0))
  | .str x, Q => ∃ n, PySem.intText? x = some n ∧ x.length ≤ 640 ∧ Q (.int n)
  | _, _ => False
def rInt1 : List V → Hp → VK → Prop := fun xs H Q => (∃ i, xs = [.int i] ∧ Q (.int i) H) ∨ ∃ k, xs = [.bl k] ∧ Q (.int (if k then 1 else 0)) H
def rIntS : List V → Hp → VK → Prop := fun xs H Q => ∃ a n, xs = [.str a] ∧ PySem.intText? a = some n ∧ a.length ≤ 640 ∧ Q (.int n) H
def rIntAll : List V → Hp → VK → Prop := fun xs H Q => rInt1 xs H Q ∨ rIntS xs H Q
theorem call_intAll : CallR X (.type "int") rIntAll := CallR.or (r := rInt1) (r' := rIntS) call_int1 call_int_str
theorem cs_int : CallS1 X rIntAll intD := by
  intro g O H σ ρ h x u Q P E r1 q k
  unfold intD at q
  split at q
  · rw [r1.int]; exact .inl (.inl ⟨_, rfl, k _ _ H E Nx.refl Rep.int q⟩)
  · rw [r1.bl]; exact .inl (.inr ⟨_, rfl, k _ _ H E Nx.refl Rep.int q⟩)
  · rw [r1.str]; obtain ⟨n, h1, h2, q⟩ := q; exact .inr ⟨_, n, rfl, h1, h2, k _ _ H E Nx.refl Rep.int q⟩
  · exact q.elim
def strD : D → (D → Prop) → Prop
  | .int i, Q => i.natAbs.log2 < 1920 ∧ Q (.str (toString i))
  | .str x, Q => Q (.str x)
  | _, _ => False
def rStrI : List V → Hp → VK → Prop := fun xs H Q => ∃ i, xs = [.int i] ∧ i.natAbs.log2 < 1920 ∧ Q (.str (toString i)) H
def rStrS : List V → Hp → VK → Prop := fun xs H Q => ∃ a, xs = [.str a] ∧ Q (.str a) H
def rStrAll : List V → Hp → VK → Prop := fun xs H Q => rStrI xs H Q ∨ rStrS xs H Q
theorem call_strAll : CallR X (.type "str") rStrAll := CallR.or (r := rStrI) (r' := rStrS) call_str_int SkE.call_str_str
theorem cs_str : CallS1 X rStrAll strD := by
  intro g O H σ ρ h x u Q P E r1 q k
  unfold strD at q
  split at q
  · rw [r1.int]; exact .inl ⟨_, rfl, q.1, k _ _ H E Nx.refl Rep.str q.2⟩
  · rw [r1.str]; exact .inr ⟨_, rfl, k _ _ H E Nx.refl Rep.str q⟩
  · exact q.elim
def ordD : D → (D → Prop) → Prop
  | .str x, Q => x.length = 1 ∧ Q (.int (x.cps.getD 0 0 : Nat))
  | _, _ => False
def rOrd : List V → Hp → VK → Prop := fun xs H Q => ∃ x, xs = [.str x] ∧ x.length = 1 ∧ Q (.int (x.cps.getD 0 0 : Nat)) H
theorem cs_ord : CallS1 X rOrd ordD := by
  intro g O H σ ρ h x u Q P E r1 q k
  unfold ordD at q
  split at q
  · rw [r1.str]; exact ⟨_, rfl, q.1, k _ _ H E Nx.refl Rep.int q.2⟩
  · exact q.elim
def listD : D → (D → Prop) → Prop
  | .lst xs, Q => Q (.lst xs)
  | .tup xs, Q => Q (.lst xs)
  | _, _ => False
def rListOf (K : PySem.W.Frag) : List V → Hp → VK → Prop := fun xs H Q => ∃ p ys, xs = [.ref p] ∧ (SqL K H p ys ∨ SqT K H p ys) ∧ ∀ l, H l = none → Q (.ref l) (upd H l (.lst ys))
theorem cn_list : CallN1 X (rListOf X.K) listD := by
  intro g O H σ ρ h x u Q P E r1 q k
  unfold listD at q
  split at q
  · obtain ⟨a, us, rfl, h1, r⟩ := r1.lst
    exact ⟨a, us, rfl, .inl (SqL.of h1), fun l hl => let z := E.newL hl r; k _ l _ _ z.1 z.2.1 hl z.2.2.1 z.2.2.2 q⟩
  · obtain ⟨a, us, rfl, h1, r⟩ := r1.tup
    exact ⟨a, us, rfl, .inr h1, fun l hl => let z := E.newL hl r; k _ l _ _ z.1 z.2.1 hl z.2.2.1 z.2.2.2 q⟩
  · exact q.elim
def tupleD : D → (D → Prop) → Prop
  | .lst xs, Q => Q (.tup xs)
  | .tup xs, Q => Q (.tup xs)
  | _, _ => False
def rTupOf (K : PySem.W.Frag) : List V → Hp → VK → Prop := fun xs H Q => ∃ p ys, xs = [.ref p] ∧ ((SqL K H p ys ∧ ∀ l, H l = none → Q (.ref l) (upd H l (.tup ys))) ∨ (SqT K H p ys ∧ Q (.ref p) H))
theorem cs_tuple : CallS1 X (rTupOf X.K) tupleD := by
  intro g O H σ ρ h x u Q P E r1 q k
  unfold tupleD at q
  split at q
  · obtain ⟨a, us, rfl, h1, r⟩ := r1.lst
    exact ⟨a, us, rfl, .inl ⟨SqL.of h1, fun l hl => let z := E.newT hl r; k _ _ _ z.1 z.2.1 z.2.2 q⟩⟩
  · rcases r1 with r1 | ⟨_, _, r1⟩
    · obtain ⟨a, us, rfl, h1, r⟩ := (Rep.k r1).tup
      exact ⟨a, us, rfl, .inr ⟨h1, k _ _ H E Nx.refl r1 q⟩⟩
    · exact r1.elim
  · exact q.elim
theorem strs_of {K : PySem.W.Frag} {so : Option Sto} {A : Addr → Prop} {H : Hp} : ∀ {ss : List Str} {us : List V}, Reps K so A H (ss.map D.str) us → us = ss.map V.str
  | [], us, r => by rw [List.map_nil] at r; unfold Reps at r; rw [r]; rfl
  | s :: ss, us, r => by
    rw [List.map_cons] at r
    unfold Reps at r
    obtain ⟨u, rs, rfl, r1, r2⟩ := r
    unfold Rep at r1
    rw [r1, strs_of r2, List.map_cons]
theorem of_strs {K : PySem.W.Frag} {so : Option Sto} {A : Addr → Prop} {H : Hp} : ∀ {ss : List Str}, Reps K so A H (ss.map D.str) (ss.map V.str)
  | [] => Reps.nil
  | s :: ss => Reps.cons Rep.str of_strs
theorem bls_of {K : PySem.W.Frag} {so : Option Sto} {A : Addr → Prop} {H : Hp} : ∀ {ss : List Bool} {us : List V}, Reps K so A H (ss.map D.bl) us → us = ss.map V.bl
  | [], us, r => by rw [List.map_nil] at r; unfold Reps at r; rw [r]; rfl
  | s :: ss, us, r => by
    rw [List.map_cons] at r
    unfold Reps at r
    obtain ⟨u, rs, rfl, r1, r2⟩ := r
    unfold Rep at r1
    rw [r1, bls_of r2, List.map_cons]
theorem ints_of {K : PySem.W.Frag} {so : Option Sto} {A : Addr → Prop} {H : Hp} : ∀ {ss : List Int} {us : List V}, Reps K so A H (ss.map D.int) us → us = ss.map V.int
  | [], us, r => by rw [List.map_nil] at r; unfold Reps at r; rw [r]; rfl
  | s :: ss, us, r => by
    rw [List.map_cons] at r
    unfold Reps at r
    obtain ⟨u, rs, rfl, r1, r2⟩ := r
    unfold Rep at r1
    rw [r1, ints_of r2, List.map_cons]
theorem of_ints {K : PySem.W.Frag} {so : Option Sto} {A : Addr → Prop} {H : Hp} : ∀ {ss : List Int}, Reps K so A H (ss.map D.int) (ss.map V.int)
  | [] => Reps.nil
  | s :: ss => Reps.cons Rep.int of_ints
/-- sorted of texts, below 64 -/
def sortedSD : D → (D → Prop) → Prop := fun x Q => ∃ ss : List Str, x = .lst (ss.map D.str) ∧ ss.length < 64 ∧ ∀ ys : List Str, ys.Perm ss → sortedS ys = true → Q (.lst (ys.map D.str))
theorem cn_sortedS : CallN1 X (rSortedS X.K) sortedSD := by
  intro g O H σ ρ h x u Q P E r1 q k
  obtain ⟨ss, rfl, hl, q⟩ := q
  obtain ⟨a, us, rfl, h1, r⟩ := r1.lst
  have e := strs_of r
  subst e
  exact ⟨a, ss, rfl, SqL.of h1, hl, fun ys p hp hs hn => let z := E.newL hn (of_strs (ss := ys)); k _ p _ _ z.1 z.2.1 hn z.2.2.1 z.2.2.2 (q ys hp hs)⟩
def allD : D → (D → Prop) → Prop := fun x Q => ∃ bs : List Bool, x = .lst (bs.map D.bl) ∧ Q (.bl (bs.all id))
theorem cs_all : CallS1 X (rAll X.K) allD := by
  intro g O H σ ρ h x u Q P E r1 q k
  obtain ⟨bs, rfl, q⟩ := q
  obtain ⟨a, us, rfl, h1, r⟩ := r1.lst
  have e := bls_of r
  subst e
  exact ⟨a, bs, rfl, SqL.of h1, k _ _ H E Nx.refl Rep.bl q⟩
/-! ### subscripts -/
def ixD : OpD
  | .lst xs, .int i, Q => ∃ d, atI xs i = some d ∧ Q d
  | .tup xs, .int i, Q => ∃ d, atI xs i = some d ∧ Q d
  | .str x, .int i, Q => x.length ≤ sizeLine ∧ ∃ c, atI x.cps.toList i = some c ∧ Q (.str ⟨#[c]⟩)
  | .dic ks vs, y, Q => ∃ k d, keyD y = some k ∧ dlook ks vs k = some d ∧ Q d
  | .sto, .int i, Q => (i = 0 → ∀ ns : List Int, Q (.lst (ns.map D.int))) ∧ (i ≠ 0 → 0 < i ∧ i < 5 ∧ ∀ n : Int, (i = 1 → 0 ≤ n) → Q (.int n))
  | _, _, _ => False
def rIxD : R2 := fun x y H Q => ∃ a v, x = .ref a ∧ DGet H a y (some v) ∧ Q v H
theorem tail_of {prog : Program} {w : World} {A : Around} {E : Value → Shared → Prop} {s : Shared} {Q : Value → Shared → Prop} {T : String} {bid : String} {value slice : Expr} {o i : Value} (hl : typeLookup (.type T) "__getitem__" = pure (some (.builtin bid))) (hT : s.TypeIs o T) (hs : subscripted slice false o i = operate [o, i] (getItem o i))
    (h : wpAny (model prog w) A (getItem o i) Q E s) : wpAny (model prog w) A (subscriptTail value slice o i) Q E s := by
  unfold subscriptTail
  refine wpAny_bind ?_
  rw [getitemInPython_of_ne hT.not_modules]
  refine wpAny_bind (wpAny_specialOf hT hl ?_)
  have fin : wpAny (model prog w) A (subscripted slice false o i) (fun r s₃ => wpAny (model prog w) A (letTemporaryGo value o r >>= fun _ => pure r) Q E s₃) E s := by
    rw [hs]
    exact wpAny_operating (wpAny_mono h (fun r s₃ h₃ => wpAny_bind (wpAny_letTemporaryGo (wpAny_pure h₃))) fun _ _ x => x)
  first
    | exact wpAny_pure (wpAny_bind fin)
    | exact wpAny_bind (wpAny_pure (wpAny_bind fin))
    | exact wpAny_bind fin
theorem ix_dic (hu : X.A.units + 1 < cLine) : IxR X rIxD := by
  intro value slice pins s σ H x y v u Q I rx ry h hs
  obtain ⟨a, w', rfl, gg, q⟩ := h
  obtain rfl : v = Value.ref a := rx
  exact tail_of PySem.F.slot_dict_getitem.lookup (dict_typeIs I gg) hs (d_getItem hu I gg ry fun w2 s3 I3 rw' => ⟨w', H, I3, rw', q⟩)
def rIxAll (K : PySem.W.Frag) : R2 := fun x y H Q => rIx K x y H Q ∨ rIxD x y H Q
theorem ix_all (hu : X.A.units + 1 < cLine) : IxR X (rIxAll X.K) := ix_seq.or (ix_dic hu)
theorem atI_rep {K : PySem.W.Frag} {so : Option Sto} {A : Addr → Prop} {H : Hp} {xs : List D} {us : List V} {i : Int} {d : D} (r : Reps K so A H xs us) (h : atI xs i = some d) : ∃ u, atI us i = some u ∧ Rep K so A H d u := by
  unfold atI at h ⊢
  rw [r.length]
  cases e : ixN xs.length i with
  | none => rw [e] at h; cases h
  | some j =>
    rw [e] at h
    obtain ⟨u, h1, h2⟩ := r.get (i := j) h
    exact ⟨u, h1, h2⟩
theorem ops_ix : OpS X (rIxAll X.K) ixD := by
  intro g O H σ ρ h x y u v Q P E r1 r2 q k
  unfold ixD at q
  split at q
  · obtain ⟨d, h, q⟩ := q
    obtain ⟨a, us, rfl, h1, r⟩ := r1.lst
    obtain ⟨w, h2, rw'⟩ := atI_rep r h
    exact .inl (.inl ⟨a, us, _, w, rfl, r2.int, SqL.of h1, h2, k _ _ H E Nx.refl rw' q⟩)
  · obtain ⟨d, h, q⟩ := q
    obtain ⟨a, us, rfl, h1, r⟩ := r1.tup
    obtain ⟨w, h2, rw'⟩ := atI_rep r h
    exact .inl (.inr (.inl ⟨a, us, _, w, rfl, r2.int, h1, h2, k _ _ H E Nx.refl rw' q⟩))
  · obtain ⟨h0, c, h, q⟩ := q
    exact .inl (.inr (.inr ⟨_, _, c, r1.str, r2.int, h0, h, k _ _ H E Nx.refl Rep.str q⟩))
  · obtain ⟨kk, d, h, h', q⟩ := q
    obtain ⟨a, us, rfl, h1, rfl, r⟩ := r1.dic
    rcases dlook_v kk r with ⟨z1, z2⟩ | ⟨d', w, z1, z2, rw'⟩
    · rw [z1] at h'; cases h'
    · rw [z1] at h'
      cases h'
      refine .inr ⟨a, w, rfl, ?_, k _ _ H E Nx.refl rw' q⟩
      rw [key_v h r2, ← z2]
      exact DGet.k h1
  · rename_i i
    rcases r1 with r1 | ⟨_, _, r1⟩
    · unfold Rep at r1
      obtain ⟨S, eS, rfl⟩ := r1
      obtain ⟨⟨pl, dg, st, tk, h1, h2⟩, h3, h4⟩ := E.st S eS
      by_cases hi : i = 0
      · subst hi
        refine .inl (.inl ⟨S.s, _, _, .ref S.c, rfl, r2.int, SqL.of h1, rfl, k _ _ H E Nx.refl ?_ (q.1 rfl S.ns)⟩)
        unfold Rep
        exact ⟨S.c, _, rfl, h3, h4, of_ints⟩
      · obtain ⟨q1, q2, q3⟩ := q.2 hi
        have hc : i = 1 ∨ i = 2 ∨ i = 3 ∨ i = 4 := by omega
        rcases hc with rfl | rfl | rfl | rfl
        · exact .inl (.inl ⟨S.s, _, _, .int pl, rfl, r2.int, SqL.of h1, rfl, k _ _ H E Nx.refl Rep.int (q3 pl fun _ => h2)⟩)
        · exact .inl (.inl ⟨S.s, _, _, .int dg, rfl, r2.int, SqL.of h1, rfl, k _ _ H E Nx.refl Rep.int (q3 dg fun z => absurd z (by decide))⟩)
        · exact .inl (.inl ⟨S.s, _, _, .int st, rfl, r2.int, SqL.of h1, rfl, k _ _ H E Nx.refl Rep.int (q3 st fun z => absurd z (by decide))⟩)
        · exact .inl (.inl ⟨S.s, _, _, .int tk, rfl, r2.int, SqL.of h1, rfl, k _ _ H E Nx.refl Rep.int (q3 tk fun z => absurd z (by decide))⟩)
    · exact r1.elim
  · exact q.elim
theorem qe_ix {rr : R2} {f2 : OpD} (hr : IxR X rr) (hs : OpS X rr f2) (ha : QK X W a qa) (hb : QK X W b qb) (hp : PlainIx b := by exact fun _ _ => rfl) : QE X W (.Subscript a b pos) (qBin f2 qa qb) := by
  obtain ⟨ta, ha1, ha2⟩ := ha
  obtain ⟨tb, hb1, hb2⟩ := hb
  refine ⟨_, pe_ix hr ha1 hb1 hp, fun g O H σ ρ h Ex Q P E o hq k => bin_run ha2 hb2 E o hq fun x y u v O' H' h' E' n r1 r2 q => ?_⟩
  exact hs g O' H' σ ρ h' x y u v _ P E' r1 r2 q fun d w H'' E'' n' => k d w O' H'' h' E'' (n.trans n')
/-! ### slices -/
abbrev RO := XP → List Cell → PHp → (Option Int → PHp → Prop) → Prop
def QO (X : Cx) (W : WX) (e : Option Expr) (q : RO) : Prop := ∃ to, PO X e to ∧ ∀ (g : Gm) O H σ ρ h Ex Q P, EnvR X.K g O H σ ρ h → OkE X.K g W Ex σ ρ → q Ex ρ h Q →
  (∀ d O' H' h', EnvR X.K g O' H' σ ρ h' → Nx g O h H O' h' H' → Q d h' → P d H') → to σ H P
def qNoPart : RO := fun _ _ h Q => Q none h
def asI (F : Int → PHp → Prop) : D → PHp → Prop
  | .int i, h => F i h
  | _, _ => False
def qPart (a : RE) : RO := fun Ex ρ h Q => a Ex ρ h (asI fun i h1 => Q (some i) h1)
theorem qo_none : QO X W none qNoPart := ⟨_, po_none, fun g O H σ ρ h Ex Q P E o hq k => k none O H h E Nx.refl hq⟩
theorem qo_some (ha : QE X W a qa) : QO X W (some a) (qPart qa) := by
  obtain ⟨ta, ha1, ha2⟩ := ha
  refine ⟨_, po_some ha1, fun g O H σ ρ h Ex Q P E o hq k => ha2 g O H σ ρ h Ex _ _ E o hq fun d v O' H' h' E' n r q => ?_⟩
  unfold asI at q
  split at q
  · exact ⟨_, r.k.int, k _ O' H' h' E' n q⟩
  · exact q.elim
def cutL {α : Type} (xs : List α) (lo hi : Option Int) : List α := (xs.drop (HT.sIx xs.length 0 lo)).take (HT.sIx xs.length xs.length hi - HT.sIx xs.length 0 lo)
def cutD (lo hi : Option Int) : D → (D → Prop) → Prop
  | .lst xs, Q => Q (.lst (cutL xs lo hi))
  | .tup xs, Q => ¬ (HT.sIx xs.length 0 lo = 0 ∧ HT.sIx xs.length xs.length hi = xs.length) ∧ Q (.tup (cutL xs lo hi))
  | .str x, Q => x.length ≤ sizeLine ∧ Q (.str (cutS x lo hi))
  | _, _ => False
def qCut (a : RE) (l u : RO) : RE := fun Ex ρ h Q => a Ex ρ h fun x h1 => l Ex ρ h1 fun lo h2 => u Ex ρ h2 fun hi h3 => cutD lo hi (deref h3 x) fun d => Q d h3
def cutLD (lo hi : Option Int) : D → (D → Prop) → Prop
  | .lst xs, Q => Q (.lst (cutL xs lo hi))
  | _, _ => False
def qCutL (a : RE) (l u : RO) : RE := fun Ex ρ h Q => a Ex ρ h fun x h1 => l Ex ρ h1 fun lo h2 => u Ex ρ h2 fun hi h3 => cutLD lo hi (deref h3 x) fun d => Q d h3
theorem Reps.cut {K : PySem.W.Frag} {so : Option Sto} {A : Addr → Prop} {H : Hp} {xs : List D} {us : List V} (r : Reps K so A H xs us) (lo hi : Option Int) : Reps K so A H (cutL xs lo hi) (cutV us lo hi) := by
  unfold cutL cutV
  rw [r.length]
  exact (r.drop _).take _
def rSlAll (K : PySem.W.Frag) : V → Option Int → Option Int → Hp → VK → Prop := fun x lo hi H Q => rSlL K x lo hi H Q ∨ (rSlT K x lo hi H Q ∨ rSlS x lo hi H Q)
theorem sl_all : SlR X (rSlAll X.K) := sl_list.or (sl_tup.or sl_str)
theorem qe_cut {lo hi : Option Expr} {ql qh : RO} {p2 : Pos} (ha : QK X W a qa) (hl : QO X W lo ql) (hh : QO X W hi qh) : QE X W (.Subscript a (.Slice lo hi none p2) pos) (qCut qa ql qh) := by
  obtain ⟨ta, ha1, ha2⟩ := ha
  obtain ⟨tl, hl1, hl2⟩ := hl
  obtain ⟨th, hh1, hh2⟩ := hh
  refine ⟨_, pe_slice sl_all ha1 hl1 hh1, fun g O H σ ρ h Ex Q P E o hq k => ?_⟩
  refine ha2 g O H σ ρ h Ex _ _ E o hq fun x u O1 H1 h1 E1 n1 r1 q1 => ?_
  refine hl2 g O1 H1 σ ρ h1 Ex _ _ E1 o q1 fun l O2 H2 h2 E2 n2 q2 => ?_
  refine hh2 g O2 H2 σ ρ h2 Ex _ _ E2 o q2 fun hh O3 H3 h3 E3 n3 q3 => ?_
  have n := (n1.trans n2).trans n3
  have r3 := E3.deref ((n2.trans n3).repv r1)
  generalize deref h3 x = x at q3 r3
  unfold cutD at q3
  split at q3
  · obtain ⟨p, us, rfl, h1, r⟩ := r3.lst
    exact .inl ⟨p, us, rfl, SqL.of h1, fun w hw => let z := E3.newF hw (r.cut l hh); k _ _ _ _ _ z.1 (n.trans z.2.1) z.2.2 q3⟩
  · rename_i xs
    obtain ⟨p, us, rfl, h1, r⟩ := r3.tup
    exact .inr (.inl ⟨p, us, rfl, h1, by rw [r.length]; exact q3.1, fun w hw => let z := E3.newT hw (r.cut l hh); k _ _ _ _ _ z.1 (n.trans z.2.1) z.2.2 q3.2⟩)
  · rw [r3.str]
    exact .inr (.inr ⟨_, rfl, q3.1, k _ _ _ _ _ E3 n Rep.str q3.2⟩)
  · exact q3.elim
theorem qn_cut {lo hi : Option Expr} {ql qh : RO} {p2 : Pos} (ha : QK X W a qa) (hl : QO X W lo ql) (hh : QO X W hi qh) : QN X W (.Subscript a (.Slice lo hi none p2) pos) (qCutL qa ql qh) := by
  obtain ⟨ta, ha1, ha2⟩ := ha
  obtain ⟨tl, hl1, hl2⟩ := hl
  obtain ⟨th, hh1, hh2⟩ := hh
  refine ⟨_, pe_slice sl_list ha1 hl1 hh1, fun g O H σ ρ h Ex Q P E o hq k => ?_⟩
  refine ha2 g O H σ ρ h Ex _ _ E o hq fun x u O1 H1 h1 E1 n1 r1 q1 => ?_
  refine hl2 g O1 H1 σ ρ h1 Ex _ _ E1 o q1 fun l O2 H2 h2 E2 n2 q2 => ?_
  refine hh2 g O2 H2 σ ρ h2 Ex _ _ E2 o q2 fun hh O3 H3 h3 E3 n3 q3 => ?_
  have n := (n1.trans n2).trans n3
  have r3 := E3.deref ((n2.trans n3).repv r1)
  generalize deref h3 x = x at q3 r3
  unfold cutLD at q3
  split at q3
  · obtain ⟨p, us, rfl, h1, r⟩ := r3.lst
    exact ⟨p, us, rfl, SqL.of h1, fun w hw => let z := E3.newL hw (r.cut l hh); k _ w _ _ _ z.1 (n.trans z.2.1) (n.back hw) z.2.2.1 z.2.2.2 q3⟩
  · exact q3.elim
end
end Pu
set_option Elab.async false
set_option linter.all false
set_option maxRecDepth 100000
set_option maxHeartbeats 4000000
set_option autoImplicit false
/-! Methods of texts; statements. -/
namespace Pu
open PySem PySem.Spec PyProof.Rows L2
section
variable {X : Cx} {W : WX} {a b c : Expr} {qa qb qc : RE} {pos p apos : Pos} {x name : Str} {mid : String}
/-- a text's method of one argument -/
def MtS1 (X : Cx) (r : V → List V → Hp → VK → Prop) (f : OpD) : Prop := ∀ (g : Gm) O H σ ρ h x y u v Q P, EnvR X.K g O H σ ρ h → RepK X.K g.so (g.A O) H x u → RepK X.K g.so (g.A O) H y v → f x y Q →
  (∀ d w H', EnvR X.K g O H' σ ρ h → Nx g O h H O h H' → Rep X.K g.so (g.A O) H' d w → Q d → P w H') → r u [v] H P
def MtN1 (X : Cx) (r : V → List V → Hp → VK → Prop) (f : OpD) : Prop := ∀ (g : Gm) O H σ ρ h x y u v Q P, EnvR X.K g O H σ ρ h → RepK X.K g.so (g.A O) H x u → RepK X.K g.so (g.A O) H y v → f x y Q →
  (∀ d p O' H', EnvR X.K g O' H' σ ρ h → Nx g O h H O' h H' → H p = none → CellOk X.K g O' H' h d p → NoCell σ ρ p → Q d → P (.ref p) H') → r u [v] H P
def isStr : D → Prop
  | .str _ => True
  | _ => False
def qM1 (f : OpD) (a b : RE) : RE := fun Ex ρ h Q => a Ex ρ h fun x h1 => isStr x ∧ b Ex ρ h1 fun y h2 => f x (deref h2 y) fun d => Q d h2
theorem isStr_v {K : PySem.W.Frag} {g : Gm} {O : Addr → Prop} {H : Hp} {h : PHp} {x : D} {u : V} (hx : isStr x) (r : RepV K g O H h x u) : ∃ z, u = .str z := by
  cases x with
  | str z =>
    rcases r with r | ⟨p, _, c⟩
    · unfold Rep at r
      exact ⟨z, r⟩
    · exact c.own.elim
  | _ => exact hx.elim
theorem isStr_d {h : PHp} {x : D} (hx : isStr x) : deref h x = x := by
  cases x with
  | str z => rfl
  | _ => exact hx.elim
theorem m1_run {r : V → List V → Hp → VK → Prop} {f : OpD} {ta tb : TE} {g : Gm} {O : Addr → Prop} {H : Hp} {σ : L2.St} {ρ : List Cell} {h : PHp} {Ex : XP} {Q : D → PHp → Prop} {P : VK}
    (ha : ∀ (g : Gm) O H σ ρ h Ex Q P, EnvR X.K g O H σ ρ h → OkE X.K g W Ex σ ρ → qa Ex ρ h Q → (∀ d v O' H' h', EnvR X.K g O' H' σ ρ h' → Nx g O h H O' h' H' → RepV X.K g O' H' h' d v → Q d h' → P v H') → ta σ H P)
    (hb : ∀ (g : Gm) O H σ ρ h Ex Q P, EnvR X.K g O H σ ρ h → OkE X.K g W Ex σ ρ → qb Ex ρ h Q → (∀ d v O' H' h', EnvR X.K g O' H' σ ρ h' → Nx g O h H O' h' H' → RepV X.K g O' H' h' d v → Q d h' → P v H') → tb σ H P)
    (E : EnvR X.K g O H σ ρ h) (o : OkE X.K g W Ex σ ρ) (hq : qM1 f qa qb Ex ρ h Q)
    (k : ∀ x y u v O' H' h', EnvR X.K g O' H' σ ρ h' → Nx g O h H O' h' H' → RepK X.K g.so (g.A O') H' x u → RepK X.K g.so (g.A O') H' y v → f x y (fun d => Q d h') → r u [v] H' P) : tM1 r ta tb σ H P := by
  refine ha g O H σ ρ h Ex _ _ E o hq fun x u O1 H1 h1 E1 n1 r1 q1 => ⟨isStr_v q1.1 r1, ?_⟩
  refine hb g O1 H1 σ ρ h1 Ex _ _ E1 o q1.2 fun y v O2 H2 h2 E2 n2 r2 q2 => ?_
  have r1' := E2.deref (n2.repv r1)
  rw [isStr_d q1.1] at r1'
  exact k _ _ u v O2 H2 h2 E2 (n1.trans n2) r1' (E2.deref r2) q2
theorem qe_m1 {r : V → List V → Hp → VK → Prop} {f : OpD} (slot : Slot "str" name mid) (ty : typeOf (.builtin mid) = pure (.type "method_descriptor")) (rule : MtR X mid r) (hs : MtS1 X r f) (ha : QK X W a qa) (hb : QK X W b qb)
    (h1 : starEach [b] X.env = [(false, eval b X.env)] := by rfl) (hbase : attributeBase a name X.env (eval a X.env) = eval a X.env := by rfl) (hline : (apos.endLine == pos.line) = true := by rfl) :
    QE X W (.Call (.Attribute a name apos) [b] [] pos) (qM1 f qa qb) := by
  obtain ⟨ta, ha1, ha2⟩ := ha
  obtain ⟨tb, hb1, hb2⟩ := hb
  refine ⟨_, pe_m1 slot ty rule ha1 hb1 h1 hbase hline, fun g O H σ ρ h Ex Q P E o hq k => m1_run ha2 hb2 E o hq fun x y u v O' H' h' E' n r1 r2 q => ?_⟩
  exact hs g O' H' σ ρ h' x y u v _ P E' r1 r2 q fun d w H'' E'' n' => k d w O' H'' h' E'' (n.trans n')
theorem qn_m1 {r : V → List V → Hp → VK → Prop} {f : OpD} (slot : Slot "str" name mid) (ty : typeOf (.builtin mid) = pure (.type "method_descriptor")) (rule : MtR X mid r) (hs : MtN1 X r f) (ha : QK X W a qa) (hb : QK X W b qb)
    (h1 : starEach [b] X.env = [(false, eval b X.env)] := by rfl) (hbase : attributeBase a name X.env (eval a X.env) = eval a X.env := by rfl) (hline : (apos.endLine == pos.line) = true := by rfl) :
    QN X W (.Call (.Attribute a name apos) [b] [] pos) (qM1 f qa qb) := by
  obtain ⟨ta, ha1, ha2⟩ := ha
  obtain ⟨tb, hb1, hb2⟩ := hb
  refine ⟨_, pe_m1 slot ty rule ha1 hb1 h1 hbase hline, fun g O H σ ρ h Ex Q P E o hq k => m1_run ha2 hb2 E o hq fun x y u v O' H' h' E' n r1 r2 q => ?_⟩
  exact hs g O' H' σ ρ h' x y u v _ P E' r1 r2 q fun d p O2 H'' E'' n' hp => k d p O2 H'' h' E'' (n.trans n') (n.back hp)
def joinD : OpD := fun x y Q => ∃ (a : Str) (ys : List Str), x = .str a ∧ (y = .lst (ys.map D.str) ∨ y = .tup (ys.map D.str)) ∧ (ys.map (·.length)).sum + ys.length * a.length ≤ 16777216 ∧ Q (.str (Txt.join a ys))
theorem ms_join : MtS1 X (fun x xs H Q => ∃ a p, ∃ ys : List Str, x = .str a ∧ xs = [.ref p] ∧ (SqL X.K H p (ys.map V.str) ∨ SqT X.K H p (ys.map V.str)) ∧ (ys.map (·.length)).sum + ys.length * a.length ≤ 16777216 ∧ Q (.str (Txt.join a ys)) H) joinD := by
  intro g O H σ ρ h x y u v Q P E r1 r2 q k
  obtain ⟨a, ys, rfl, hy, hz, q⟩ := q
  rcases hy with rfl | rfl
  · obtain ⟨p, us, rfl, h1, r⟩ := r2.lst
    have e := strs_of r
    subst e
    exact ⟨a, p, ys, r1.str, rfl, .inl (SqL.of h1), hz, k _ _ H E Nx.refl Rep.str q⟩
  · obtain ⟨p, us, rfl, h1, r⟩ := r2.tup
    have e := strs_of r
    subst e
    exact ⟨a, p, ys, r1.str, rfl, .inr h1, hz, k _ _ H E Nx.refl Rep.str q⟩
def splitD : OpD
  | .str a, .str b, Q => (b.length == 0) = false ∧ a.length + 2 ≤ sizeLine ∧ Q (.lst ((Txt.split a b).map D.str))
  | _, _, _ => False
theorem mn_split : MtN1 X (fun x xs H Q => ∃ a b, x = .str a ∧ xs = [.str b] ∧ (b.length == 0) = false ∧ a.length + 2 ≤ sizeLine ∧ rNewStrs (Txt.split a b) H Q) splitD := by
  intro g O H σ ρ h x y u v Q P E r1 r2 q k
  unfold splitD at q
  split at q
  · rename_i a b
    have e1 := r1.str
    have e2 := r2.str
    subst e1 e2
    exact ⟨a, b, rfl, rfl, q.1, q.2.1, fun p hp => let z := E.newL hp (of_strs (ss := Txt.split a b)); k _ p _ _ z.1 z.2.1 hp z.2.2.1 z.2.2.2 q.2.2⟩
  · exact q.elim
def startsD : OpD
  | .str a, .str b, Q => Q (.bl (Txt.startswith a b))
  | _, _, _ => False
theorem ms_starts : MtS1 X (fun x xs H Q => ∃ a b, x = .str a ∧ xs = [.str b] ∧ Q (.bl (Txt.startswith a b)) H) startsD := by
  intro g O H σ ρ h x y u v Q P E r1 r2 q k
  unfold startsD at q
  split at q
  · rename_i a b
    have e1 := r1.str
    have e2 := r2.str
    subst e1 e2
    exact ⟨a, b, rfl, rfl, k _ _ H E Nx.refl Rep.bl q⟩
  · exact q.elim
end
/-! ### statements -/
def qNext : RS := fun D ρ h => D.nx ρ h
def qSeq (t u : RS) : RS := fun D ρ h => t { D with nx := u D } ρ h
abbrev PEnds.at (D : PEnds) (ρ : List Cell) : XP := fun c fs vs h => D.ex c fs vs ρ h
def qSet (i : Nat) (a : RE) : RS := fun D ρ h => a (D.at ρ) ρ h fun d h1 => D.nx (ρ.set i (.fro d)) h1
def qSetN (i : Nat) (a : RE) : RS := fun D ρ h => a (D.at ρ) ρ h fun d h1 => D.nx (ρ.set i (.own d)) h1
/-- a new object, shared from now on -/
def qSetP (i : Nat) (a : RE) : RS := fun D ρ h => a (D.at ρ) ρ h fun d h1 => ∀ p, h1 p = none → D.nx (ρ.set i (.fro (.ptr p))) (pset h1 p d)
def qRet (a : RE) : RS := fun D ρ h => a (D.at ρ) ρ h D.rt
def qRetN : RS := fun D _ h => D.rt .non h
def qDrop (a : RE) : RS := fun D ρ h => a (D.at ρ) ρ h fun _ h1 => D.nx ρ h1
def qIfS (c : RT) (t u : RS) : RS := fun D ρ h => c (D.at ρ) ρ h fun b h1 => if b = true then t D ρ h1 else u D ρ h1
def qBreak : RS := fun D ρ h => D.bk ρ h
def qCont : RS := fun D ρ h => D.ct ρ h
def qNever : RS := fun _ _ _ => False
def qFreeze (i : Nat) (t : RS) : RS := fun D ρ h => match ρ[i]? with
  | some (.own d) => t D (ρ.set i (.fro d)) h
  | some (.fro _) => t D ρ h
  | _ => False
/-- xs.append(e), xs a name -/
def onOwnL (ρ : List Cell) (i : Nat) (F : List D → Prop) : Prop := match ρ[i]? with
  | some (.own (.lst xs)) => F xs
  | _ => False
def qApp (i : Nat) (a : RE) : RS := fun D ρ h => onOwnL ρ i fun xs => a (D.at ρ) ρ h fun d h1 => xs.length < sizeLine ∧ D.nx (ρ.set i (.own (.lst (xs ++ [d])))) h1
section
variable {X : Cx} {W : WX} {a b c : Expr} {qa qb qc : RE} {pos p apos : Pos} {x name : Str} {st : Stmt} {rest : List Stmt} {t u : RS}
theorem qss_nil : QSs X W [] qNext := ⟨_, pss_nil, fun g O H σ ρ h D D' E o ed q => ed.nx O H σ ρ h E q⟩
theorem qss_one (h : QS X W st t) : QSs X W [st] t := by
  obtain ⟨ts, h1, h2⟩ := h
  exact ⟨_, pss_one h1, h2⟩
theorem qss_cons (h : QS X W st t) (hr : QSs X W rest u) : QSs X W (st :: rest) (qSeq t u) := by
  obtain ⟨ts, h1, h2⟩ := h
  obtain ⟨tr, hr1, hr2⟩ := hr
  refine ⟨_, pss_cons h1 hr1, fun g O H σ ρ h D D' E o ed q => ?_⟩
  exact h2 g O H σ ρ h { D with nx := u D } { D' with nx := tr D' } E o ⟨fun O' H' σ' ρ' h' E' q' => hr2 g O' H' σ' ρ' h' D D' E' o ed q', ed.rt, ed.bk, ed.ct⟩ q
theorem qs_set (i : Nat) (ha : QE X W a qa) (hN : X.N.Nodup) (hi : X.N[i]? = some x := by rfl) (hx : Loc X.env.scope x := by first | exact Or.inl rfl | exact Or.inr rfl) (hs : swapsWith a (some (.Name x p)) pos.line X.env = pure false := by rfl)
    (hf : X.fn x = true ∨ X.env.scope.names.lookup x = some .local := by first | exact Or.inl rfl | exact Or.inr rfl) : QS X W (.Assign [.Name x p] a pos) (qSet i qa) := by
  obtain ⟨ta, ha1, ha2⟩ := ha
  refine ⟨_, ps_set hN hi hx ha1 hs hf, fun g O H σ ρ h D D' E o ed q => ?_⟩
  exact ha2 g O H σ ρ h _ _ _ E (o σ ρ) q fun d v O' H' h' E' n r q' => ed.nx O' H' _ _ h' (E'.setF r) q'
theorem qs_setN (i : Nat) (ha : QN X W a qa) (hN : X.N.Nodup) (hi : X.N[i]? = some x := by rfl) (hx : Loc X.env.scope x := by first | exact Or.inl rfl | exact Or.inr rfl) (hs : swapsWith a (some (.Name x p)) pos.line X.env = pure false := by rfl)
    (hf : X.fn x = true ∨ X.env.scope.names.lookup x = some .local := by first | exact Or.inl rfl | exact Or.inr rfl) : QS X W (.Assign [.Name x p] a pos) (qSetN i qa) := by
  obtain ⟨ta, ha1, ha2⟩ := ha
  refine ⟨_, ps_set hN hi hx ha1 hs hf, fun g O H σ ρ h D D' E o ed q => ?_⟩
  exact ha2 g O H σ ρ h _ _ _ E (o σ ρ) q fun d w O' H' h' E' n hw c nc q' => ed.nx O' H' _ _ h' (E'.setN c nc) q'
theorem qs_setP (i : Nat) (ha : QN X W a qa) (hN : X.N.Nodup) (hi : X.N[i]? = some x := by rfl) (hx : Loc X.env.scope x := by first | exact Or.inl rfl | exact Or.inr rfl) (hs : swapsWith a (some (.Name x p)) pos.line X.env = pure false := by rfl)
    (hf : X.fn x = true ∨ X.env.scope.names.lookup x = some .local := by first | exact Or.inl rfl | exact Or.inr rfl) : QS X W (.Assign [.Name x p] a pos) (qSetP i qa) := by
  obtain ⟨ta, ha1, ha2⟩ := ha
  refine ⟨_, ps_set hN hi hx ha1 hs hf, fun g O H σ ρ h D D' E o ed q => ?_⟩
  exact ha2 g O H σ ρ h _ _ _ E (o σ ρ) q fun d w O' H' h' E' n hw c nc q' => ed.nx O' H' _ _ _ ((E'.share c nc).setF (by unfold Rep; rfl)) (q' w c.fr)
theorem qs_ret (ha : QE X W a qa) : QS X W (.Return (some a) pos) (qRet qa) := by
  obtain ⟨ta, ha1, ha2⟩ := ha
  refine ⟨_, ps_ret ha1, fun g O H σ ρ h D D' E o ed q => ?_⟩
  exact ha2 g O H σ ρ h _ _ _ E (o σ ρ) q fun d v O' H' h' E' n r q' => ed.rt O' H' σ ρ h' d v E' r q'
theorem qs_retN : QS X W (.Return none pos) qRetN := ⟨_, ps_retN, fun g O H σ ρ h D D' E o ed q => ed.rt O H σ ρ h _ _ E Rep.non q⟩
theorem qs_expr (ha : QE X W a qa) (hs : swapsWith a none pos.line X.env = pure false := by rfl) : QS X W (.Expr a pos) (qDrop qa) := by
  obtain ⟨ta, ha1, ha2⟩ := ha
  refine ⟨_, ps_expr ha1 hs, fun g O H σ ρ h D D' E o ed q => ?_⟩
  exact ha2 g O H σ ρ h _ _ _ E (o σ ρ) q fun d v O' H' h' E' n r q' => ed.nx O' H' _ _ h' E' q'
theorem qs_if {tc : RT} {s1 s2 : List Stmt} (hc : QT X W c tc) (h1 : QSs X W s1 t) (h2 : QSs X W s2 u) : QS X W (.If c s1 s2 pos) (qIfS tc t u) := by
  obtain ⟨tt, hc1, hc2⟩ := hc
  obtain ⟨t1, h11, h12⟩ := h1
  obtain ⟨t2, h21, h22⟩ := h2
  refine ⟨_, ps_if hc1 h11 h21, fun g O H σ ρ h D D' E o ed q => ?_⟩
  refine hc2 g O H σ ρ h _ _ _ E (o σ ρ) q fun z O' H' h' E' n q' => ?_
  cases z with
  | true => exact h12 g O' H' σ ρ h' D D' E' o ed q'
  | false => exact h22 g O' H' σ ρ h' D D' E' o ed q'
theorem qs_pass : QS X W (.Pass pos) qNext := ⟨_, ps_pass, fun g O H σ ρ h D D' E o ed q => ed.nx O H σ ρ h E q⟩
theorem qs_break : QS X W (.Break pos) qBreak := ⟨_, ps_break, fun g O H σ ρ h D D' E o ed q => ed.bk O H σ ρ h E q⟩
theorem qs_cont : QS X W (.Continue pos) qCont := ⟨_, ps_continue, fun g O H σ ρ h D D' E o ed q => ed.ct O H σ ρ h E q⟩
theorem qs_never : QS X W st qNever := ⟨_, ps_never, fun g O H σ ρ h D D' E o ed q => q.elim⟩
theorem qss_never : QSs X W rest qNever := ⟨_, pss_never, fun g O H σ ρ h D D' E o ed q => q.elim⟩
theorem qss_freeze (i : Nat) (h : QSs X W rest t) : QSs X W rest (qFreeze i t) := by
  obtain ⟨ts, h1, h2⟩ := h
  refine ⟨_, h1, fun g O H σ ρ h D D' E o ed q => ?_⟩
  unfold qFreeze at q
  split at q
  · rename_i d e
    obtain ⟨O', E'⟩ := E.freeze e
    exact h2 g O' H σ _ h D D' E' o ed q
  · exact h2 g O H σ ρ h D D' E o ed q
  · exact q.elim
theorem onOwnL_get {K : PySem.W.Frag} {g : Gm} {O : Addr → Prop} {H : Hp} {σ : L2.St} {ρ : List Cell} {h : PHp} {i : Nat} {F : List D → Prop} (E : EnvR K g O H σ ρ h) (hf : onOwnL ρ i F) : ∃ xs p us, ρ[i]? = some (.own (.lst xs)) ∧ σ[i]? = some (some (.ref p)) ∧ O p ∧ H p = some (.lst us) ∧ Reps K g.so (g.A O) H xs us ∧ F xs := by
  unfold onOwnL at hf
  split at hf
  · rename_i xs e
    obtain ⟨p, h1, c⟩ := E.getO e
    obtain ⟨us, h3, r⟩ := c.own
    exact ⟨xs, p, us, e, h1, c.o, h3, r, hf⟩
  · exact hf.elim
theorem qs_app (i : Nat) (ha : QE X W a qa) (hi : X.N[i]? = some x := by rfl) (hv : Vis X.env.scope x := by first | exact Or.inl rfl | exact Or.inr (Or.inl rfl) | exact Or.inr (Or.inr rfl)) (hd : (x == ("__debug__" : Str)) = false := by decide)
    (hcd : (x == ("__classdict__" : Str)) = false := by decide) (hbase : attributeBase (.Name x p) "append" X.env (eval (.Name x p) X.env) = eval (.Name x p) X.env := by rfl)
    (hfew : ((backTo apos (starEach [a] X.env)).all (fun x => !x.1) && (backToKw apos (keywordEach [] X.env)).all (fun x => x.1.isSome) && decide ([a].length + ([] : List Keyword).length + (if ([] : List Keyword).isEmpty then 0 else 1) < 30)) = true := by rfl)
    {mpos : Pos} (hline : (mpos.endLine == apos.line) = true := by rfl) (hs1 : starEach [a] X.env = (false, eval a X.env) :: starEach [] X.env := by rfl) (hs : swapsWith (.Call (.Attribute (.Name x p) "append" mpos) [a] [] apos) none pos.line X.env = pure false := by rfl) :
    QS X W (.Expr (.Call (.Attribute (.Name x p) "append" mpos) [a] [] apos) pos) (qApp i qa) := by
  obtain ⟨ta, ha1, ha2⟩ := ha
  refine ⟨_, ps_expr (pe_bm PySem.F.plainAttrs_list PySem.F.slot_list_append PySem.F.type_list_append mt_append (pe_var hi hv hd hcd) (pa_cons ha1 pa_nil hs1) hbase hfew hline hs1 rfl) hs, fun g O H σ ρ h D D' E o ed q => ?_⟩
  obtain ⟨xs, w, us, e, h1, h2, h3, r, q⟩ := onOwnL_get E q
  refine ⟨.ref w, h1, .inl ⟨rfl, us, SqL.of h3⟩, ?_⟩
  refine ha2 g O H σ ρ h _ _ _ E (o σ ρ) q fun d v O' H' h' E' n rd q' => ?_
  obtain ⟨w', h1', c⟩ := E'.getO e
  obtain ⟨us', h3', r'⟩ := c.own
  rw [h1] at h1'
  cases h1'
  refine ⟨w, us', v, rfl, rfl, h3', by rw [r'.length]; exact q'.1, ?_⟩
  refine ed.nx O' _ _ _ h' (E'.setO e h1 ?_) q'.2
  exact ⟨_, upd_same, Reps.kp (Kp.unseen (.inr c.o)) _ _ (r'.append (Reps.one rd))⟩
end
end Pu
set_option Elab.async false
set_option linter.all false
set_option maxRecDepth 100000
set_option maxHeartbeats 4000000
set_option autoImplicit false
/-! Loops, comprehensions. -/
namespace Pu
open PySem PySem.Spec PyProof.Rows L2
def Gm.add (g : Gm) (gh : List (D × V)) : Gm := { g with fz := gh ++ g.fz }
section
variable {K : PySem.W.Frag} {g : Gm} {O : Addr → Prop} {H : Hp} {σ : L2.St} {ρ : List Cell} {h : PHp} {gh : List (D × V)}
theorem EnvR.addG (E : EnvR K g O H σ ρ h) (hz : ∀ z ∈ gh, Rep K g.so (g.A O) H z.1 z.2) : EnvR K (g.add gh) O H σ ρ h :=
  ⟨E.len, E.ext, E.st, E.mok, E.liv, E.sM, E.oM, fun i c hc => by
    have hh := E.cells i c hc
    cases c with
    | no => trivial
    | fro d => exact hh
    | own d => obtain ⟨p, e, c⟩ := hh; exact ⟨p, e, c.o, c.fr, c.own⟩, E.inj, fun z hm => by
    rcases List.mem_append.mp hm with hm | hm
    · exact hz z hm
    · exact E.fzr z hm, E.hp⟩
theorem EnvR.dropG (E : EnvR K (g.add gh) O H σ ρ h) : EnvR K g O H σ ρ h := ⟨E.len, E.ext, E.st, E.mok, E.liv, E.sM, E.oM, fun i c hc => by
    have hh := E.cells i c hc
    cases c with
    | no => trivial
    | fro d => exact hh
    | own d => obtain ⟨p, e, c⟩ := hh; exact ⟨p, e, c.o, c.fr, c.own⟩, E.inj, fun z hz => E.fzr z (List.mem_append_right _ hz), E.hp⟩
theorem OkS.addG {W : WX} {D : PEnds} (o : OkS K g W D) : OkS K (g.add gh) W D := fun σ ρ O H h c dd us vs E => o σ ρ O H h c dd us vs E.dropG
theorem OkE.addG {W : WX} {Ex : XP} (o : OkE K g W Ex σ ρ) : OkE K (g.add gh) W Ex σ ρ := fun O H h c dd us vs E => o O H h c dd us vs E.dropG
end
/-- a source of a loop, its items known -/
def Walks (K : PySem.W.Frag) (g : Gm) (J : It) (items : List D) (gh : List (D × V)) : Prop :=
  ∀ g' : Gm, g'.so = g.so → (∀ z ∈ gh, z ∈ g'.fz) → ∀ O H σ ρ h, EnvR K g' O H σ ρ h →
    (∀ i, i < items.length → J.go i H) ∧ (∀ i x H', i < items.length → J.yld i H x H' → ∃ d, items[i]? = some d ∧ EnvR K g' O H' σ ρ h ∧ Nx g' O h H O h H' ∧ Rep K g'.so (g'.A O) H' d x) ∧ (∀ i, items.length ≤ i → J.stop i H)
def QI (X : Cx) (W : WX) (tg it : Expr) (q : RA) : Prop := ∃ wi, PI X tg it wi ∧ ∀ (g : Gm) O H σ ρ h Ex Q R, EnvR X.K g O H σ ρ h → OkE X.K g W Ex σ ρ → q Ex ρ h Q →
  (∀ items gh J O' H' h', EnvR X.K g O' H' σ ρ h' → Nx g O h H O' h' H' → (∀ z ∈ gh, Rep X.K g.so (g.A O') H' z.1 z.2) → Walks X.K g J items gh → Q items h' → R J H') → wi σ H R
def signs (x : Str) : List D := x.cps.toList.map fun c => .str ⟨#[c]⟩
def itemsD (Q : List D → PHp → Prop) : D → PHp → Prop
  | .lst xs, h => Q xs h
  | .tup xs, h => Q xs h
  | .str x, h => Q (signs x) h
  | _, _ => False
def qAny (a : RE) : RA := fun Ex ρ h Q => a Ex ρ h (itemsD Q)
def rngD (n : Nat) : List D := (List.range n).map fun (i : Nat) => D.int (i : Int)
def qRng1 (a : RE) : RA := fun Ex ρ h Q => a Ex ρ h (asI fun n h1 => -(2 ^ 62) ≤ n ∧ n < 2 ^ 62 ∧ Q (rngD n.toNat) h1)
def enumD (xs : List D) : List D := xs.zipIdx.map fun z => .tup [.int (z.2 : Int), z.1]
def asL (F : List D → PHp → Prop) : D → PHp → Prop
  | .lst xs, h => F xs h
  | _, _ => False
def qEnum (a : RE) : RA := fun Ex ρ h Q => a Ex ρ h (asL fun xs h1 => xs.length ≤ sizeLine ∧ Q (enumD xs) h1)
section
variable {X : Cx} {W : WX} {tg e a b : Expr} {te : TE} {qa qb : RE} {pos p : Pos}
/-- a list, a tuple, a text -/
def iAny (K : PySem.W.Frag) (te : TE) : TI := fun σ H R => te σ H fun x H1 => (∃ a, x = .ref a ∧ (∃ xs, SqL K H1 a xs) ∧ R (Itl K a) H1) ∨ (∃ a, x = .ref a ∧ (∃ xs, SqT K H1 a xs) ∧ R (Itt K a) H1) ∨ ∃ y, x = .str y ∧ R (Its y) H1
theorem pi_any (hl : PE X e te) : PI X tg e (iAny X.K te) := by
  refine ⟨fun pins s σ H R I h => ?_⟩
  refine thn (hl.run pins s σ H _ I h) fun v s1 ⟨x, H1, I1, r1, q1⟩ => ?_
  rcases q1 with ⟨a, e, ⟨xs, hq⟩, q⟩ | ⟨a, e, ⟨xs, hq⟩, q⟩ | ⟨x, ex, q⟩
  · subst e
    cases r1
    obtain ⟨its, rv, p, hz⟩ := I1.list hq
    refine wpAny_pyIter_list p.isList ?_
    refine ⟨s1.heap.objs.size, [s1.heap.objs.size], _, _, H1, rfl, I1.kept (t' := s1.toks) fun b o e => Heap.get?_push_of_some _ e, turn_list a _, ⟨_, Heap.get?_push_size _ rfl, rfl, rfl⟩, fun b hb => ?_, q⟩
    have e : b = s1.heap.objs.size := by simpa using hb
    subst e
    exact I1.fpOk (Nat.le_refl _) (I1.hok.fresh (Nat.le_refl _))
  · subst e
    cases r1
    obtain ⟨its, rv, p, hz⟩ := I1.tuple hq
    refine wpAny_pyIter_tuple (show s1.heap.IsTuple a its.toArray from p) ?_
    refine ⟨s1.heap.objs.size, [s1.heap.objs.size], _, _, H1, rfl, I1.kept (t' := s1.toks) fun b o e => Heap.get?_push_of_some _ e, turn_tuple a _, ⟨_, Heap.get?_push_size _ rfl, rfl, rfl⟩, fun b hb => ?_, q⟩
    have e : b = s1.heap.objs.size := by simpa using hb
    subst e
    exact I1.fpOk (Nat.le_refl _) (I1.hok.fresh (Nat.le_refl _))
  · subst ex
    obtain ⟨t, rfl⟩ := r1
    cases ha : x.cps.all (· < 128)
    · exact wpAny_pyIter_wide ha (pi_one (tk := s1.toks) I1 _ (turn_str _ x t "str_iterator" (.inr rfl)) ⟨_, Heap.get?_push_size _ rfl, rfl, rfl⟩ q)
    · exact wpAny_pyIter_ascii ha (pi_one (tk := s1.toks) I1 _ (turn_str _ x t "str_ascii_iterator" (.inl rfl)) ⟨_, Heap.get?_push_size _ rfl, rfl, rfl⟩ q)
theorem walks_lst {K : PySem.W.Frag} {g : Gm} {xs : List D} {w : Addr} : Walks K g (Itl K w) xs [(.lst xs, .ref w)] := by
  intro g' hs hf O H σ ρ h0 E
  have h := E.fzr (.lst xs, .ref w) (hf _ (List.mem_singleton.mpr rfl))
  unfold Rep at h
  obtain ⟨a, us, e, na, h1, r⟩ := h
  cases e
  refine ⟨fun i hi => ?_, fun i x H' hi y => ?_, fun i hi => ⟨us, SqL.of h1, by rw [r.length]; exact hi⟩⟩
  · obtain ⟨u, hu, _⟩ := r.get (List.getElem?_eq_getElem hi)
    exact ⟨us, u, SqL.of h1, hu⟩
  · obtain ⟨rfl, y⟩ := y
    obtain ⟨d, hd, rd⟩ := r.get' (y us (SqL.of h1))
    exact ⟨d, hd, E, Nx.refl, rd⟩
theorem walks_tup {K : PySem.W.Frag} {g : Gm} {xs : List D} {w : Addr} : Walks K g (Itt K w) xs [(.tup xs, .ref w)] := by
  intro g' hs hf O H σ ρ h0 E
  have h := E.fzr (.tup xs, .ref w) (hf _ (List.mem_singleton.mpr rfl))
  obtain ⟨a, us, e, h1, r⟩ := (Rep.k h).tup
  cases e
  refine ⟨fun i hi => ?_, fun i x H' hi y => ?_, fun i hi => ⟨us, h1, by rw [r.length]; exact hi⟩⟩
  · obtain ⟨u, hu, _⟩ := r.get (List.getElem?_eq_getElem hi)
    exact ⟨us, u, h1, hu⟩
  · obtain ⟨rfl, y⟩ := y
    obtain ⟨d, hd, rd⟩ := r.get' (y us h1)
    exact ⟨d, hd, E, Nx.refl, rd⟩
theorem walks_str {K : PySem.W.Frag} {g : Gm} {x : Str} : Walks K g (Its x) (signs x) [] := by
  intro g' hs hf O H σ ρ h0 E
  have hl : (signs x).length = x.cps.size := by simp [signs]
  refine ⟨fun i hi => by rw [hl] at hi; exact hi, fun i v H' hi y => ?_, fun i hi => by rw [hl] at hi; exact hi⟩
  obtain ⟨rfl, c, hc, rfl⟩ := y
  refine ⟨.str ⟨#[c]⟩, ?_, E, Nx.refl, Rep.str⟩
  unfold signs
  rw [List.getElem?_map, Array.getElem?_toList, hc]
  rfl
theorem qi_any (ha : QE X W a qa) : QI X W tg a (qAny qa) := by
  obtain ⟨ta, ha1, ha2⟩ := ha
  refine ⟨_, pi_any ha1, fun g O H σ ρ h Ex Q R E o hq k => ha2 g O H σ ρ h Ex _ _ E o hq fun d v O' H' h' E' n r q => ?_⟩
  unfold itemsD at q
  split at q
  · rename_i xs
    obtain ⟨w, us, rfl, h1, _⟩ := r.k.lst
    exact .inl ⟨w, rfl, ⟨us, SqL.of h1⟩, k xs [(.lst xs, .ref w)] _ O' H' h' E' n (fun z hz => by rw [List.mem_singleton.mp hz]; exact r) walks_lst q⟩
  · rename_i xs
    obtain ⟨w, us, rfl, h1, _⟩ := r.k.tup
    exact .inr (.inl ⟨w, rfl, ⟨us, h1⟩, k xs [(.tup xs, .ref w)] _ O' H' h' E' n (fun z hz => by rw [List.mem_singleton.mp hz]; exact r) walks_tup q⟩)
  · rename_i y
    exact .inr (.inr ⟨y, r.k.str, k _ [] _ O' H' h' E' n (fun z hz => by cases hz) walks_str q⟩)
  · exact q.elim
theorem walks_rng {K : PySem.W.Frag} {g : Gm} {n : Nat} : Walks K g (Itr 0 n) (rngD n) [] := by
  intro g' hs hf O H σ ρ h0 E
  have hl : (rngD n).length = n := by simp [rngD]
  refine ⟨fun i hi => by rw [hl] at hi; exact hi, fun i v H' hi y => ?_, fun i hi => by rw [hl] at hi; exact hi⟩
  obtain ⟨rfl, rfl⟩ := y
  rw [hl] at hi
  refine ⟨.int (i : Int), ?_, E, Nx.refl, ?_⟩
  · unfold rngD
    rw [List.getElem?_map, List.getElem?_range hi]
    rfl
  · rw [Int.zero_add]
    exact Rep.int
theorem qi_rng1 (ha : QE X W a qa) (hm : X.mg "range" = none) (hg : Gl X "range" := by rfl) (h1 : starEach [a] X.env = (false, eval a X.env) :: starEach [] X.env := by rfl) (hs : starEach [a] X.env = [(false, eval a X.env)] := by rfl) : QI X W tg (.Call (.Name "range" p) [a] [] pos) (qRng1 qa) := by
  obtain ⟨ta, ha1, ha2⟩ := ha
  refine ⟨_, pi_range1 hg hm (pa_cons ha1 pa_nil h1) hs, fun g O H σ ρ h Ex Q R E o hq k => ha2 g O H σ ρ h Ex _ _ E o hq fun d v O' H' h' E' n r q => ?_⟩
  unfold asI at q
  split at q
  · rename_i i
    obtain ⟨q1, q2, q3⟩ := q
    refine ⟨i, by rw [r.k.int], q1, q2, k _ [] _ O' H' h' E' n (fun z hz => by cases hz) walks_rng q3⟩
  · exact q.elim
theorem walks_enum {K : PySem.W.Frag} {g : Gm} {xs : List D} {w : Addr} (hl : xs.length ≤ sizeLine) : Walks K g (Ite K w) (enumD xs) [(.lst xs, .ref w)] := by
  intro g' hs hf O H σ ρ h0 E
  have h := E.fzr (.lst xs, .ref w) (hf _ (List.mem_singleton.mpr rfl))
  unfold Rep at h
  obtain ⟨a, us, e, na, h1, r⟩ := h
  cases e
  have hlen : (enumD xs).length = xs.length := by simp [enumD]
  refine ⟨fun i hi => ?_, fun i x H' hi y => ?_, fun i hi => ⟨us, SqL.of h1, by rw [r.length]; rw [hlen] at hi; exact hi⟩⟩
  · rw [hlen] at hi
    obtain ⟨u, hu, _⟩ := r.get (List.getElem?_eq_getElem hi)
    exact ⟨us, u, SqL.of h1, hu⟩
  · obtain ⟨T, u, rfl, hT, rfl, y⟩ := y
    obtain ⟨d, hd, rd⟩ := r.get' (y us (SqL.of h1))
    obtain ⟨E2, n2, r2⟩ := E.newT hT (Reps.cons (Rep.int (i := (i : Int))) (Reps.one rd))
    refine ⟨.tup [.int (i : Int), d], ?_, E2, n2, r2⟩
    unfold enumD
    rw [List.getElem?_map, List.getElem?_zipIdx, hd]
    simp
theorem qi_enum {elts : List Expr} {kk : Nat} {tpos : Pos} (ha : QE X W a qa) (hm : X.mg "enumerate" = none) (hg : Gl X "enumerate" := by rfl) (h1 : starEach [a] X.env = (false, eval a X.env) :: starEach [] X.env := by rfl) (hs : starEach [a] X.env = [(false, eval a X.env)] := by rfl) : QI X W (.Tuple elts kk tpos) (.Call (.Name "enumerate" p) [a] [] pos) (qEnum qa) := by
  obtain ⟨ta, ha1, ha2⟩ := ha
  refine ⟨_, pi_enum hg hm (pa_cons ha1 pa_nil h1) hs, fun g O H σ ρ h Ex Q R E o hq k => ha2 g O H σ ρ h Ex _ _ E o hq fun d v O' H' h' E' n r q => ?_⟩
  unfold asL at q
  split at q
  · rename_i xs
    obtain ⟨w, us, rfl, h1, rr⟩ := r.k.lst
    exact ⟨w, us, rfl, SqL.of h1, k _ [(.lst xs, .ref w)] _ O' H' h' E' n (fun z hz => by rw [List.mem_singleton.mp hz]; exact r) (walks_enum q.1) q.2⟩
  · exact q.elim
/-- targets -/
def gqName (i : Nat) : RG := fun d ρ Q => Q (ρ.set i (.fro d))
def gqNil : RGs := fun ds ρ Q => ds = [] ∧ Q ρ
def gqCons (t : D → List Cell → (List Cell → Prop) → Prop) (u : List D → List Cell → (List Cell → Prop) → Prop) : List D → List Cell → (List Cell → Prop) → Prop := fun ds ρ Q => match ds with
  | d :: r => t d ρ fun ρ' => u r ρ' Q
  | [] => False
def gqTup (n : Nat) (u : List D → List Cell → (List Cell → Prop) → Prop) : D → List Cell → (List Cell → Prop) → Prop := fun d ρ Q => match d with
  | .tup xs => xs.length = n ∧ u xs ρ Q
  | _ => False
variable {x : Str}
theorem qg_name (i : Nat) (hN : X.N.Nodup) (hi : X.N[i]? = some x := by rfl) (hx : Loc X.env.scope x := by first | exact Or.inl rfl | exact Or.inr rfl) (hf : X.fn x = true ∨ X.env.scope.names.lookup x = some .local := by first | exact Or.inl rfl | exact Or.inr rfl) : QG X (.Name x pos) [i] (gqName i) :=
  ⟨_, pg_name hN hi hx hf, fun g O H σ ρ h d v Q P E r q k => k _ _ (E.setF r) ⟨List.length_set, fun j hj => List.getElem?_set_ne fun z => hj (List.mem_singleton.mpr z.symm)⟩ q⟩
theorem qgs_nil : QGs X [] [] gqNil := ⟨_, pgs_nil, fun g O H σ ρ h d v Q P E r q k => by
  obtain ⟨rfl, q⟩ := q
  unfold Reps at r
  exact ⟨r, k _ _ E ⟨rfl, fun _ _ => rfl⟩ q⟩⟩
theorem qgs_cons {es : List Expr} {t : D → List Cell → (List Cell → Prop) → Prop} {u : List D → List Cell → (List Cell → Prop) → Prop} {js ks : List Nat} (h1 : QG X a js t) (h2 : QGs X es ks u)
    (hs : (assignEach (a :: es) X.env).map (·.2) = assign a X.env :: (assignEach es X.env).map (·.2) := by rfl) : QGs X (a :: es) (js ++ ks) (gqCons t u) := by
  obtain ⟨t1, h11, h12⟩ := h1
  obtain ⟨t2, h21, h22⟩ := h2
  refine ⟨_, pgs_cons h11 h21 hs, fun g O H σ ρ h ds v Q P E r q k => ?_⟩
  unfold gqCons at q
  split at q
  · rename_i d rr
    unfold Reps at r
    obtain ⟨u1, us, rfl, r1, r2⟩ := r
    exact ⟨u1, us, rfl, h12 g O H σ ρ h d u1 _ _ E r1 q fun ρ' σ' E' o1 q' => h22 g O H σ' ρ' h rr us Q P E' r2 q' fun ρ2 σ2 E2 o2 q2 => k ρ2 σ2 E2 ⟨o2.1.trans o1.1, fun j hj => (o2.2 j fun z => hj (List.mem_append_right _ z)).trans (o1.2 j fun z => hj (List.mem_append_left _ z))⟩ q2⟩
  · exact q.elim
theorem qg_tup {es : List Expr} {k n : Nat} {u : List D → List Cell → (List Cell → Prop) → Prop} {js : List Nat} (hc : X.calm = true) (h : QGs X es js u)
    (hn : (assignEach es X.env).length = n := by rfl) (hst : (assignEach es X.env).findIdx? (·.1) = none := by rfl) : QG X (.Tuple es k pos) js (gqTup n u) := by
  obtain ⟨t, h1, h2⟩ := h
  refine ⟨_, pg_tup hc h1 hn hst, fun g O H σ ρ h d v Q P E r q k => ?_⟩
  unfold gqTup at q
  split at q
  · obtain ⟨w, us, rfl, hw, rr⟩ := r.k.tup
    exact ⟨w, us, rfl, hw, by rw [rr.length]; exact q.1, h2 g O H σ ρ h _ us Q P E rr q.2 k⟩
  · exact q.elim
/-- a, b = e -/
def qAsg (a : RE) (gq : RG) : RS := fun D ρ h => a (D.at ρ) ρ h fun d h1 => gq d ρ fun ρ' => D.nx ρ' h1
theorem qs_asg {gq : RG} {js : List Nat} (ha : QE X W a qa) (hg : QG X tg js gq) (hs : swapsWithSole [tg] a pos.line X.env = pure false := by rfl) (hw : swappedStores [tg] a X.env = pure none := by rfl)
    (h1' : (assignEach [tg] X.env).map (·.2) = [assign tg X.env] := by rfl) : QS X W (.Assign [tg] a pos) (qAsg qa gq) := by
  obtain ⟨ta, ha1, ha2⟩ := ha
  obtain ⟨t, h1, h2⟩ := hg
  refine ⟨_, ps_asg ha1 h1 hs hw h1', fun g O H σ ρ h D D' E o ed q => ?_⟩
  exact ha2 g O H σ ρ h _ _ _ E (o σ ρ) q fun d v O' H' h' E' n r q' => h2 g O' H' σ ρ h' d v _ _ E' r q' fun ρ' σ' E2 _ q2 => ed.nx O' H' σ' ρ' h' E2 q2
/-! ### for -/
def forK (gq : RG) (tb : RS) (E : PEnds) (ρ : List Cell) (items : List D) (h1 : PHp) : Prop := ∃ Inv : Nat → List Cell → PHp → Prop, Inv 0 ρ h1 ∧
  (∀ i d ρ' h', items[i]? = some d → Inv i ρ' h' → gq d ρ' fun ρ'' => tb { E with nx := Inv (i + 1), ct := Inv (i + 1), bk := E.nx } ρ'' h') ∧ ∀ ρ' h', Inv items.length ρ' h' → E.nx ρ' h'
theorem forK_i {gq : RG} {tb : RS} {E : PEnds} {ρ : List Cell} {items : List D} {h1 : PHp} (Inv : Nat → List Cell → PHp → Prop) (h0 : Inv 0 ρ h1)
  (hs : ∀ i d ρ' h', items[i]? = some d → Inv i ρ' h' → gq d ρ' fun ρ'' => tb { E with nx := Inv (i + 1), ct := Inv (i + 1), bk := E.nx } ρ'' h') (hd : ∀ ρ' h', Inv items.length ρ' h' → E.nx ρ' h') : forK gq tb E ρ items h1 := ⟨Inv, h0, hs, hd⟩
def qFor (it : RA) (gq : RG) (tb : RS) : RS := fun D ρ h => it (D.at ρ) ρ h (forK gq tb D ρ)
theorem EndsOk.addG {K : PySem.W.Frag} {g : Gm} {gh : List (D × V)} {D : PEnds} {D' : Ends} (e : EndsOk K g D D') : EndsOk K (g.add gh) D D' :=
  ⟨fun O H σ ρ h E => e.nx O H σ ρ h E.dropG, fun O H σ ρ h d v E => e.rt O H σ ρ h d v E.dropG, fun O H σ ρ h E => e.bk O H σ ρ h E.dropG, fun O H σ ρ h E => e.ct O H σ ρ h E.dropG⟩
theorem qs_for {it : Expr} {body : List Stmt} {qi : RA} {gq : RG} {tb : RS} (hp : PassesOwn (model X.prog X.w) X.A X.env X.xe) (hc : X.calm = true) {js : List Nat} (hi : QI X W tg it qi) (hg : QG X tg js gq) (hb : QSs X W body tb)
    (hs : ∀ x, foldedSetIterable it X.env x = pure x := by intro _; rfl) : QS X W (.For tg it body [] pos) (qFor qi gq tb) := by
  obtain ⟨wi, hi1, hi2⟩ := hi
  obtain ⟨t, hg1, hg2⟩ := hg
  obtain ⟨ts, hb1, hb2⟩ := hb
  refine ⟨_, ps_for hp hc hi1 hg1 hb1 hs, fun g O H σ ρ h D D' E o ed q => ?_⟩
  refine hi2 g O H σ ρ h _ _ _ E (o σ ρ) q fun items gh J O1 H1 h1 E0 n hgh hw q1 => ?_
  obtain ⟨Inv, h0, hst, hd⟩ := q1
  have E1 : EnvR X.K (g.add gh) O1 H1 σ ρ h1 := E0.addG hgh
  refine ⟨fun i m σ H => m = items.length - i ∧ i ≤ items.length ∧ ∃ O ρ h, EnvR X.K (g.add gh) O H σ ρ h ∧ Inv i ρ h, ⟨_, rfl, Nat.zero_le _, O1, ρ, h1, E1, h0⟩, ?_⟩
  rintro i m σ H ⟨rfl, hi, O, ρ, h, E, p⟩
  obtain ⟨w1, w2, w3⟩ := hw (g.add gh) rfl (fun z hz => List.mem_append_left _ hz) O H σ ρ h E
  by_cases hlt : i < items.length
  · refine .inr ⟨w1 i hlt, fun σ' H' => ∃ O ρ h, EnvR X.K (g.add gh) O H' σ' ρ h ∧ Inv (i + 1) ρ h, fun σ' H' p' => ⟨items.length - (i + 1), by omega, rfl, hlt, p'⟩, fun x H' y => ?_⟩
    obtain ⟨d, hd', E', n', r'⟩ := w2 i x H' hlt y
    refine hg2 (g.add gh) O H' σ ρ h d x _ _ E' r' (hst i d ρ h hd' p) fun ρ' σ' E2 _ q2 => ?_
    refine hb2 (g.add gh) O H' σ' ρ' h { D with nx := Inv (i + 1), ct := Inv (i + 1), bk := D.nx } _ E2 o.addG ?_ q2
    exact ⟨fun O H σ ρ h E q => ⟨O, ρ, h, E, q⟩, ed.addG.rt, ed.addG.nx, fun O H σ ρ h E q => ⟨O, ρ, h, E, q⟩⟩
  · have e : i = items.length := by omega
    subst e
    exact .inl ⟨w3 _ (Nat.le_refl _), ed.nx O H σ ρ h E.dropG (hd ρ h p)⟩
end
end Pu
set_option Elab.async false
set_option linter.all false
set_option maxRecDepth 100000
set_option maxHeartbeats 4000000
set_option autoImplicit false
/-! while; list comprehensions; a def's promise. -/
namespace Pu
open PySem PySem.Spec PyProof.Rows L2
def W0 : WX := fun _ _ _ _ => False
abbrev BX (X : Cx) (scope : Scope) (s : Shared) (H : Hp) (C : Addr) (cl : List (Str × Addr)) (fp : List Addr) : Cx := X.blk s H scope (compEnvC scope cl C X.env) fp
section
variable {X : Cx} {W : WX} {tg e it elt : Expr} {qa qe : RE} {pos spos p : Pos} {scope : Scope} {tb : RS} {tc : RT}
def whileK (c : RT) (tb : RS) (D : PEnds) (ρ : List Cell) (h : PHp) : Prop := ∃ Inv : Nat → List Cell → PHp → Prop, (∃ m, Inv m ρ h) ∧ ∀ m ρ' h', Inv m ρ' h' → c (D.at ρ') ρ' h' fun b h2 => if b = true then
  tb { D with nx := fun ρ'' h'' => ∃ m', m' < m ∧ Inv m' ρ'' h'', ct := fun ρ'' h'' => ∃ m', m' < m ∧ Inv m' ρ'' h'', bk := D.nx } ρ' h2 else D.nx ρ' h2
def qWhile (c : RT) (tb : RS) : RS := fun D ρ h => whileK c tb D ρ h
theorem whileK_i {c : RT} {tb : RS} {D : PEnds} {ρ : List Cell} {h : PHp} (Inv : Nat → List Cell → PHp → Prop) (m : Nat) (h0 : Inv m ρ h) (hs : ∀ m ρ' h', Inv m ρ' h' → c (D.at ρ') ρ' h' fun b h2 => if b = true then
  tb { D with nx := fun ρ'' h'' => ∃ m', m' < m ∧ Inv m' ρ'' h'', ct := fun ρ'' h'' => ∃ m', m' < m ∧ Inv m' ρ'' h'', bk := D.nx } ρ' h2 else D.nx ρ' h2) : whileK c tb D ρ h := ⟨Inv, ⟨m, h0⟩, hs⟩
theorem qs_while {c : Expr} {body : List Stmt} (hp : PassesOwn (model X.prog X.w) X.A X.env X.xe) (hc : QT X W c tc) (hb : QSs X W body tb) : QS X W (.While c body [] pos) (qWhile tc tb) := by
  obtain ⟨tt, hc1, hc2⟩ := hc
  obtain ⟨ts, hb1, hb2⟩ := hb
  refine ⟨_, ps_while hp hc1 hb1, fun g O H σ ρ h D D' E o ed q => ?_⟩
  obtain ⟨Inv, ⟨m0, h0⟩, hs⟩ := q
  refine ⟨fun m σ H => ∃ O ρ h, EnvR X.K g O H σ ρ h ∧ Inv m ρ h, ⟨m0, O, ρ, h, E, h0⟩, ?_⟩
  rintro m σ H ⟨O, ρ, h, E, p⟩
  refine hc2 g O H σ ρ h _ _ _ E (o σ ρ) (hs m ρ h p) fun b O' H' h' E' n q => ?_
  cases b with
  | true =>
    refine ⟨fun σ' H' => ∃ m', m' < m ∧ ∃ O ρ h, EnvR X.K g O H' σ' ρ h ∧ Inv m' ρ h, fun σ' H' ⟨m', l, O, ρ, h, E', p'⟩ => ⟨m', l, O, ρ, h, E', p'⟩, ?_⟩
    refine hb2 g O' H' σ ρ h' { D with nx := fun ρ'' h'' => ∃ m', m' < m ∧ Inv m' ρ'' h'', ct := fun ρ'' h'' => ∃ m', m' < m ∧ Inv m' ρ'' h'', bk := D.nx } _ E' o ?_ q
    exact ⟨fun O H σ ρ h E ⟨m', l, q⟩ => ⟨m', l, O, ρ, h, E, q⟩, ed.rt, ed.nx, fun O H σ ρ h E ⟨m', l, q⟩ => ⟨m', l, O, ρ, h, E, q⟩⟩
  | false => exact ed.nx O' H' σ ρ h' E' q
/-! ### comprehensions -/
def NoEx : XP := fun _ _ _ _ => False
theorem noEx {K : PySem.W.Frag} {g : Gm} {W : WX} {σ : L2.St} {ρ : List Cell} : OkE K g W NoEx σ ρ := fun _ _ _ _ _ _ _ _ _ _ z => z.elim
/-- one reading for all the blocks -/
theorem fam_e (h : ∀ s H C cl fp, QE (BX X scope s H C cl fp) W0 e qa) : ∃ te, (∀ s H C cl fp, PE (BX X scope s H C cl fp) e te) ∧ ∀ (g : Gm) O H σ ρ h Q P, EnvR X.K g O H σ ρ h → qa NoEx ρ h Q →
    (∀ d v O' H' h', EnvR X.K g O' H' σ ρ h' → Nx g O h H O' h' H' → Rep X.K g.so (g.A O') H' d v → Q d h' → P v H') → te σ H P := by
  refine ⟨fun σ H P => ∀ s H0 C cl fp, ∃ te, PE (BX X scope s H0 C cl fp) e te ∧ te σ H P,
    fun s H C cl fp => ⟨fun pins s' σ H' Q I hh => ?_⟩, fun g O H σ ρ h' Q P E q k s H0 C cl fp => ?_⟩
  · obtain ⟨te, h1, h2⟩ := hh s H C cl fp
    exact h1.run pins s' σ H' Q I h2
  · obtain ⟨te, h1, h2⟩ := h s H0 C cl fp
    exact ⟨te, h1, h2 g O H σ ρ h' _ Q P E noEx q k⟩
def QTs (X : Cx) (W : WX) (es : List Expr) (q : RT) : Prop := ∃ tt, PTs X es tt ∧ ∀ (g : Gm) O H σ ρ h Ex Q P, EnvR X.K g O H σ ρ h → OkE X.K g W Ex σ ρ → q Ex ρ h Q →
  (∀ b O' H' h', EnvR X.K g O' H' σ ρ h' → Nx g O h H O' h' H' → Q b h' → P b H') → tt σ H P
def qYes : RT := fun _ _ h Q => Q true h
theorem qts_nil : QTs X W [] qYes := ⟨_, pts_nil, fun g O H σ ρ h Ex Q P E o q k => k true O H h E Nx.refl q⟩
theorem qts_one (h : QT X W e tc) : QTs X W [e] tc := by
  obtain ⟨tt, h1, h2⟩ := h
  exact ⟨_, pts_one h1, h2⟩
theorem fam_t {es : List Expr} (h : ∀ s H C cl fp, QTs (BX X scope s H C cl fp) W0 es tc) : ∃ tt, (∀ s H C cl fp, PTs (BX X scope s H C cl fp) es tt) ∧ ∀ (g : Gm) O H σ ρ h Q P, EnvR X.K g O H σ ρ h → tc NoEx ρ h Q →
    (∀ b O' H' h', EnvR X.K g O' H' σ ρ h' → Nx g O h H O' h' H' → Q b h' → P b H') → tt σ H P := by
  refine ⟨fun σ H P => ∀ s H0 C cl fp, ∃ tt, PTs (BX X scope s H0 C cl fp) es tt ∧ tt σ H P,
    fun s H C cl fp => ⟨fun pins s' σ H' Q I hh => ?_⟩, fun g O H σ ρ h' Q P E q k s H0 C cl fp => ?_⟩
  · obtain ⟨tt, h1, h2⟩ := hh s H C cl fp
    exact h1.run pins s' σ H' Q I h2
  · obtain ⟨tt, h1, h2⟩ := h s H0 C cl fp
    exact ⟨tt, h1, h2 g O H σ ρ h' _ Q P E noEx q k⟩
theorem fam_g {gq : RG} {js : List Nat} (h : ∀ s H C cl fp, QG (BX X scope s H C cl fp) tg js gq) : ∃ t, (∀ s H C cl fp, PG (BX X scope s H C cl fp) tg t) ∧ ∀ (g : Gm) O H σ ρ h d v Q P, EnvR X.K g O H σ ρ h → Rep X.K g.so (g.A O) H d v → gq d ρ Q →
    (∀ ρ' σ', EnvR X.K g O H σ' ρ' h → Only σ σ' js → Q ρ' → P σ' H) → t v σ H P := by
  refine ⟨fun v σ H P => ∀ s H0 C cl fp, ∃ t, PG (BX X scope s H0 C cl fp) tg t ∧ t v σ H P,
    fun s H C cl fp => ⟨fun pins s' σ H' v u Q I r hh => ?_⟩, fun g O H σ ρ h' d v Q P E r q k s H0 C cl fp => ?_⟩
  · obtain ⟨t, h1, h2⟩ := hh s H C cl fp
    exact h1.run pins s' σ H' v u Q I r h2
  · obtain ⟨t, h1, h2⟩ := h s H0 C cl fp
    exact ⟨t, h1, h2 g O H σ ρ h' d v Q P E r q k⟩
def wipeC (ρ : List Cell) : List Nat → List Cell
  | [] => ρ
  | v :: vs => (wipeC ρ vs).set v .no
theorem EnvR.wipe {K : PySem.W.Frag} {g : Gm} {O : Addr → Prop} {H : Hp} {σ : L2.St} {ρ : List Cell} {h : PHp} (E : EnvR K g O H σ ρ h) : ∀ vs : List Nat, EnvR K g O H (L2.wipe σ vs) (wipeC ρ vs) h
  | [] => E
  | v :: vs => (E.wipe vs).setNo none
theorem wipeC_get {ρ : List Cell} {j : Nat} : ∀ {vs : List Nat}, j ∉ vs → (wipeC ρ vs)[j]? = ρ[j]?
  | [], _ => rfl
  | v :: vs, h => by
    unfold wipeC
    rw [List.getElem?_set_ne (fun z => h (by rw [z]; exact List.mem_cons_self ..)), wipeC_get fun z => h (List.mem_cons_of_mem _ z)]
theorem wipeC_in {ρ : List Cell} {j : Nat} : ∀ {vs : List Nat}, j ∈ vs → j < ρ.length → (wipeC ρ vs)[j]? = some .no
  | v :: vs, h, hl => by
    have len : ∀ ws : List Nat, (wipeC ρ ws).length = ρ.length := fun ws => by
      induction ws with
      | nil => rfl
      | cons w ws ih => unfold wipeC; rw [List.length_set, ih]
    unfold wipeC
    by_cases e : v = j
    · rw [e, List.getElem?_set_self (by rw [len]; exact hl)]
    · rw [List.getElem?_set_ne e]
      exact wipeC_in ((List.mem_cons.mp h).resolve_left fun z => e z.symm) hl
theorem wipe_get {σ : L2.St} {j : Nat} : ∀ {vs : List Nat}, j ∉ vs → (L2.wipe σ vs)[j]? = σ[j]?
  | [], _ => rfl
  | v :: vs, h => by
    unfold L2.wipe
    rw [List.getElem?_set_ne (fun z => h (by rw [z]; exact List.mem_cons_self ..)), wipe_get fun z => h (List.mem_cons_of_mem _ z)]
theorem wipe_in {σ : L2.St} {j : Nat} : ∀ {vs : List Nat}, j ∈ vs → j < σ.length → (L2.wipe σ vs)[j]? = some none
  | v :: vs, h, hl => by
    unfold L2.wipe
    by_cases e : v = j
    · rw [e, List.getElem?_set_self (by rw [wipe_length]; exact hl)]
    · rw [List.getElem?_set_ne e]
      exact wipe_in ((List.mem_cons.mp h).resolve_left fun z => e z.symm) hl
theorem wipe_eq {σ σ' : L2.St} {vs js : List Nat} (o : Only (L2.wipe σ vs) σ' js) (h : ∀ j ∈ js, j ∈ vs) : L2.wipe σ' vs = L2.wipe σ vs := by
  have hl : σ'.length = σ.length := by rw [o.1, wipe_length]
  apply List.ext_getElem?
  intro j
  by_cases hj : j ∈ vs
  · by_cases hb : j < σ.length
    · rw [wipe_in hj (by rw [hl]; exact hb), wipe_in hj hb]
    · rw [List.getElem?_eq_none (by rw [wipe_length, hl]; omega), List.getElem?_eq_none (by rw [wipe_length]; omega)]
  · rw [wipe_get hj, o.2 j fun z => hj (h j z)]
def lcK (gq : RG) (tc : RT) (te : RE) (vs : List Nat) (ρ : List Cell) (Q : D → PHp → Prop) (items : List D) (h1 : PHp) : Prop := ∃ Inv : Nat → List D → PHp → Prop, Inv 0 [] h1 ∧
  (∀ i d acc h2, items[i]? = some d → Inv i acc h2 → gq d (wipeC ρ vs) fun ρ2 => tc NoEx ρ2 h2 fun b h3 => if b = true then te NoEx ρ2 h3 fun y h4 => acc.length < sizeLine ∧ Inv (i + 1) (acc ++ [y]) h4 else Inv (i + 1) acc h3) ∧
  ∀ acc h2, Inv items.length acc h2 → Q (.lst acc) h2
theorem lcK_i {gq : RG} {tc : RT} {te : RE} {vs : List Nat} {ρ : List Cell} {Q : D → PHp → Prop} {items : List D} {h1 : PHp} (Inv : Nat → List D → PHp → Prop) (h0 : Inv 0 [] h1)
  (hs : ∀ i d acc h2, items[i]? = some d → Inv i acc h2 → gq d (wipeC ρ vs) fun ρ2 => tc NoEx ρ2 h2 fun b h3 => if b = true then te NoEx ρ2 h3 fun y h4 => acc.length < sizeLine ∧ Inv (i + 1) (acc ++ [y]) h4 else Inv (i + 1) acc h3)
  (hd : ∀ acc h2, Inv items.length acc h2 → Q (.lst acc) h2) : lcK gq tc te vs ρ Q items h1 := ⟨Inv, h0, hs, hd⟩
/-- each item gives one datum, the heap stays -/
theorem lcK_map {gq : RG} {tc : RT} {te : RE} {vs : List Nat} {ρ : List Cell} {Q : D → PHp → Prop} {items : List D} {h1 : PHp} (f : D → D) (hl : items.length ≤ sizeLine)
  (hs : ∀ d, d ∈ items → ∀ R : D → PHp → Prop, R (f d) h1 → gq d (wipeC ρ vs) fun ρ2 => tc NoEx ρ2 h1 fun b h3 => b = true ∧ te NoEx ρ2 h3 R) (hm1 : ∀ d ρ' (R R' : List Cell → Prop), (∀ z, R z → R' z) → gq d ρ' R → gq d ρ' R')
  (hm2 : ∀ ρ' (R R' : Bool → PHp → Prop), (∀ b z, R b z → R' b z) → tc NoEx ρ' h1 R → tc NoEx ρ' h1 R')
  (hd : Q (.lst (items.map f)) h1) : lcK gq tc te vs ρ Q items h1 := by
  refine ⟨fun i acc h' => h' = h1 ∧ acc = (items.take i).map f, ⟨rfl, rfl⟩, ?_, ?_⟩
  · rintro i d acc h' hd' ⟨rfl, rfl⟩
    have hlt : i < items.length := Classical.byContradiction fun z => by rw [List.getElem?_eq_none (by omega)] at hd'; cases hd'
    refine hm1 _ _ _ _ (fun z hz => hm2 _ _ _ (fun b h3 hb => ?_) hz) (hs d (List.mem_of_getElem? hd') (fun y h4 => ((items.take i).map f).length < sizeLine ∧ (h4 = h' ∧ (items.take i).map f ++ [y] = (items.take (i + 1)).map f)) ⟨?_, rfl, ?_⟩)
    · obtain ⟨rfl, hb⟩ := hb
      exact hb
    · rw [List.length_map, List.length_take]; omega
    · rw [List.take_succ, hd', List.map_append]; rfl
  · rintro acc h' ⟨rfl, rfl⟩
    rw [List.take_length]
    exact hd
def qLc (it : RA) (gq : RG) (tc : RT) (te : RE) (vs : List Nat) : RE := fun Ex ρ h Q => it Ex ρ h (lcK gq tc te vs ρ Q)
/-- the slots are the block's entry's again -/
theorem EnvR.back {K : PySem.W.Frag} {g : Gm} {O O' : Addr → Prop} {H H' : Hp} {σ σ' : L2.St} {ρ ρ' : List Cell} {h h' : PHp} (E : EnvR K g O H σ ρ h) (E' : EnvR K g O' H' σ' ρ' h') (n : Nx g O h H O' h' H') : EnvR K g O' H' σ ρ h' :=
  ⟨E.len, E'.ext, E'.st, E'.mok, E'.liv, E'.sM, E'.oM, fun i c hc => by
    have hh := E.cells i c hc
    cases c with
    | no => trivial
    | fro d => obtain ⟨v, e, r⟩ := hh; exact ⟨v, e, n.rep r⟩
    | own d => obtain ⟨p, e, c⟩ := hh; exact ⟨p, e, n.cell c⟩, E.inj, fun z hz => n.rep (E.fzr z hz), E'.hp⟩
theorem lc_run {qi : RA} {gq : RG} {own : List (Str × Nat)} {js : List Nat} {wi : TI} {gt : TG} {tt : TT} {te : TE}
    (hi2 : ∀ (g : Gm) O H σ ρ h Ex Q R, EnvR X.K g O H σ ρ h → OkE X.K g W Ex σ ρ → qi Ex ρ h Q → (∀ items gh J O' H' h', EnvR X.K g O' H' σ ρ h' → Nx g O h H O' h' H' → (∀ z ∈ gh, Rep X.K g.so (g.A O') H' z.1 z.2) → Walks X.K g J items gh → Q items h' → R J H') → wi σ H R)
    (hg2 : ∀ (g : Gm) O H σ ρ h d v Q P, EnvR X.K g O H σ ρ h → Rep X.K g.so (g.A O) H d v → gq d ρ Q → (∀ ρ' σ', EnvR X.K g O H σ' ρ' h → Only σ σ' js → Q ρ' → P σ' H) → gt v σ H P)
    (ht2 : ∀ (g : Gm) O H σ ρ h Q P, EnvR X.K g O H σ ρ h → tc NoEx ρ h Q → (∀ b O' H' h', EnvR X.K g O' H' σ ρ h' → Nx g O h H O' h' H' → Q b h' → P b H') → tt σ H P)
    (he2 : ∀ (g : Gm) O H σ ρ h Q P, EnvR X.K g O H σ ρ h → qe NoEx ρ h Q → (∀ d v O' H' h', EnvR X.K g O' H' σ ρ h' → Nx g O h H O' h' H' → Rep X.K g.so (g.A O') H' d v → Q d h' → P v H') → te σ H P)
    (hj : ∀ j ∈ js, j ∈ own.map (·.2)) {g : Gm} {O : Addr → Prop} {H : Hp} {σ : L2.St} {ρ : List Cell} {h : PHp} {Ex : XP} {Q : D → PHp → Prop} {P : VK} (E : EnvR X.K g O H σ ρ h) (o : OkE X.K g W Ex σ ρ) (hq : qLc qi gq tc qe (own.map (·.2)) Ex ρ h Q)
    (k : ∀ d p O' H' h', EnvR X.K g O' H' σ ρ h' → Nx g O h H O' h' H' → H p = none → CellOk X.K g O' H' h' d p → NoCell σ ρ p → Q d h' → P (.ref p) H') : tLc wi gt tt te (own.map (·.2)) σ H P := by
  refine hi2 g O H σ ρ h _ _ _ E o hq fun items gh J O1 H1 h1 E1 n hgh hw q1 => ?_
  obtain ⟨Inv, h0, hst, hd⟩ := q1
  intro L hL
  obtain ⟨E2, n2, nc, hf⟩ := E1.take (o := .lst []) hL
  have c2 : CellOk X.K g (fun a => O1 a ∨ a = L) (upd H1 L (.lst [])) h1 (.lst []) L := ⟨.inr rfl, hf, [], upd_same, Reps.nil⟩
  have E3 : EnvR X.K (g.add gh) (fun a => O1 a ∨ a = L) (upd H1 L (.lst [])) (L2.wipe σ (own.map (·.2))) (wipeC ρ (own.map (·.2))) h1 := (E2.addG fun z hz => n2.rep (hgh z hz)).wipe _
  have nc' : NoCell (L2.wipe σ (own.map (·.2))) (wipeC ρ (own.map (·.2))) L := fun j dd x y => by
    have hin : j ∉ own.map (·.2) := fun z => (wipe_some y).2 z
    rw [wipeC_get hin] at x
    exact nc j dd x (wipe_some y).1
  refine ⟨fun i m H => m = items.length - i ∧ i ≤ items.length ∧ ∃ O h acc, EnvR X.K (g.add gh) O H (L2.wipe σ (own.map (·.2))) (wipeC ρ (own.map (·.2))) h ∧ Nx g O1 h1 H1 O h H ∧ CellOk X.K g O H h (.lst acc) L ∧ Inv i acc h,
    ⟨_, rfl, Nat.zero_le _, _, h1, [], E3, n2, c2, h0⟩, ?_⟩
  rintro i m H2 ⟨rfl, hi, O2, h2, acc, E4, n4, c4, p⟩
  obtain ⟨w1, w2, w3⟩ := hw (g.add gh) rfl (fun z hz => List.mem_append_left _ hz) _ H2 _ _ _ E4
  by_cases hlt : i < items.length
  · refine .inr ⟨w1 i hlt, fun H => ∃ O h acc, EnvR X.K (g.add gh) O H (L2.wipe σ (own.map (·.2))) (wipeC ρ (own.map (·.2))) h ∧ Nx g O1 h1 H1 O h H ∧ CellOk X.K g O H h (.lst acc) L ∧ Inv (i + 1) acc h,
      fun H' p' => ⟨items.length - (i + 1), by omega, rfl, hlt, p'⟩, fun x H3 y => ?_⟩
    obtain ⟨d, hd', E5, n5, r'⟩ := w2 i x H3 hlt y
    refine hg2 (g.add gh) O2 H3 _ _ h2 d x _ _ E5 r' (hst i d acc h2 hd' p) fun ρ2 σ2 E6 only q2 => ?_
    refine ⟨wipe_eq only hj, ?_⟩
    refine ht2 (g.add gh) O2 H3 σ2 ρ2 h2 _ _ E6 q2 fun b O7 H7 h7 E7 n7 q3 => ?_
    have n57 : Nx g O2 h2 H2 O7 h7 H7 := ⟨(n5.trans n7).kp, (n5.trans n7).own, (n5.trans n7).up⟩
    cases b with
    | false =>
      exact ⟨O7, h7, acc, E4.back E7 ⟨n57.kp, n57.own, n57.up⟩, n4.trans n57, n57.cell c4, q3⟩
    | true =>
      refine he2 (g.add gh) O7 H7 σ2 ρ2 h7 _ _ E7 q3 fun yd yv O8 H8 h8 E8 n8 r8 q4 => ?_
      have n58 : Nx g O2 h2 H2 O8 h8 H8 := n57.trans ⟨n8.kp, n8.own, n8.up⟩
      have E9 : EnvR X.K (g.add gh) O8 H8 (L2.wipe σ (own.map (·.2))) (wipeC ρ (own.map (·.2))) h8 := E4.back E8 ⟨n58.kp, n58.own, n58.up⟩
      have c8 := n58.cell c4
      obtain ⟨us, hL8, r6⟩ := c8.own
      refine ⟨us, hL8, by rw [r6.length]; exact q4.1, O8, h8, acc ++ [yd], E9.touch c8.o c8.fr nc', ?_, ⟨c8.o, c8.fr, us ++ [yv], upd_same, Reps.kp (Kp.unseen (.inr c8.o)) _ _ (r6.append (Reps.one r8))⟩, q4.2⟩
      have n48 := n4.trans n58
      refine ⟨fun a o' e z => ?_, fun q o' x y e => ?_, fun a z => ?_⟩
      · obtain ⟨e1, e2⟩ := n48.kp a o' e z
        exact ⟨by rw [upd_ne (ne_of_none e hL)]; exact e1, e2⟩
      · obtain ⟨e1, e2, e3⟩ := n48.own q o' x y e
        exact ⟨e1, e2, by rw [upd_ne (ne_of_none e hL)]; exact e3⟩
      · unfold upd
        split
        · simp
        · exact n48.up a z
  · have e : i = items.length := by omega
    subst e
    exact .inl ⟨w3 _ (Nat.le_refl _), k (.lst acc) L O2 H2 h2 (E1.back E4.dropG n4) (n.trans n4) (n.back hL) c4 nc (hd acc h2 p)⟩
theorem qn_lc {ifs : List Expr} {qi : RA} {gq : RG} {own : List (Str × Nat)} {js : List Nat} (hc : X.calm = true) (hN : X.N.Nodup) (hi : QI X W tg it qi) (ok : BlkOk X.N X.env.scope scope own)
    (hg : ∀ s H C cl fp, QG (BX X scope s H C cl fp) tg js gq) (ht : ∀ s H C cl fp, QTs (BX X scope s H C cl fp) W0 ifs tc) (he : ∀ s H C cl fp, QE (BX X scope s H C cl fp) W0 elt qe) (hj : ∀ j ∈ js, j ∈ own.map (·.2) := by decide)
    (hs : ∀ x, foldedSetIterable it X.env x = pure x := by intro _; rfl) : QN X W (.ListComp elt [⟨tg, it, ifs, 0⟩] scope pos) (qLc qi gq tc qe (own.map (·.2))) := by
  obtain ⟨wi, hi1, hi2⟩ := hi
  obtain ⟨t, hg1, hg2⟩ := fam_g hg
  obtain ⟨tt, ht1, ht2⟩ := fam_t ht
  obtain ⟨te, he1, he2⟩ := fam_e he
  exact ⟨_, pe_lc hc hN hi1 ok hg1 ht1 he1 hs, fun g O H σ ρ h Ex Q P E o q k => lc_run hi2 hg2 ht2 he2 hj E o q k⟩
theorem qs_setLc (i : Nat) {y : Str} {py : Pos} {ifs : List Expr} {qi : RA} {gq : RG} {own : List (Str × Nat)} {js : List Nat} (hc : X.calm = true) (hN : X.N.Nodup) (hi : QI X W tg it qi) (ok : BlkOk X.N X.env.scope scope own)
    (hg : ∀ s H C cl fp, QG (BX X scope s H C cl fp) tg js gq) (ht : ∀ s H C cl fp, QTs (BX X scope s H C cl fp) W0 ifs tc) (he : ∀ s H C cl fp, QE (BX X scope s H C cl fp) W0 elt qe)
    (hsw : swapsWith (.ListComp elt [⟨tg, it, ifs, 0⟩] scope pos) (some (.Name y py)) spos.line X.env = pure true) (hy : X.N[i]? = some y := by rfl) (hyl : X.env.scope.names.lookup y = some .local := by rfl) (hj : ∀ j ∈ js, j ∈ own.map (·.2) := by decide)
    (hs : ∀ x, foldedSetIterable it X.env x = pure x := by intro _; rfl) : QS X W (.Assign [.Name y py] (.ListComp elt [⟨tg, it, ifs, 0⟩] scope pos) spos) (qSetN i (qLc qi gq tc qe (own.map (·.2)))) := by
  obtain ⟨wi, hi1, hi2⟩ := hi
  obtain ⟨t, hg1, hg2⟩ := fam_g hg
  obtain ⟨tt, ht1, ht2⟩ := fam_t ht
  obtain ⟨te, he1, he2⟩ := fam_e he
  refine ⟨_, ps_setLc hc hN hy hyl hsw hi1 ok hg1 ht1 he1 hs, fun g O H σ ρ h D D' E o ed q => ?_⟩
  exact lc_run hi2 hg2 ht2 he2 hj E (o σ ρ) q fun d w O' H' h' E' n hw c nc q' => ed.nx O' H' _ _ h' (E'.setN c nc) q'
end
end Pu
set_option Elab.async false
set_option linter.all false
set_option maxRecDepth 100000
set_option maxHeartbeats 4000000
set_option autoImplicit false
/-! A def's promise from its pure reading. -/
namespace Pu
open PySem PySem.Spec PyProof.Rows L2
def startC (n : Nat) (ds : List D) : List Cell := ds.map .fro ++ List.replicate (n - ds.length) .no
abbrev WF (E : XK) : WX := fun cls d _ H => E cls d H
section
variable {P : Program} {w : World} {K : PySem.W.Frag} {mg : Str → Option Value} {base : Heap} {x qual : Str} {params : Arguments} {body : List Stmt} {scope : Scope} {dvs : List V} {f : Addr} {fd : FuncData} {N ps : List Str} {k : Nat} {sp : Spec} {q : RS}
theorem start_env {g : Gm} {ds : List D} {us : List V} {n : Nat} {H : Hp} {h : PHp} (wd : Wd K g (dom h) H h) (hr : Reps K g.so (g.A (dom h)) H ds us) (N : List Str) (hn : N.length = n) :
    EnvR K { g with fz := [] } (dom h) H (L2.start N us) (startC n ds) h := by
  have hl := hr.length
  refine ⟨?_, wd.ext, wd.st, wd.mok, wd.liv, wd.sM, wd.oM, fun i c hc => ?_, fun i j p d d' h1 _ _ _ => ?_, fun z hz => (List.not_mem_nil hz).elim, wd.hp⟩
  · unfold L2.start startC
    rw [List.length_append, List.length_append, List.length_map, List.length_map, List.length_replicate, List.length_replicate, hl, hn]
  · unfold startC at hc
    rcases Nat.lt_or_ge i ds.length with hi | hi
    · rw [List.getElem?_append_left (by rw [List.length_map]; exact hi), List.getElem?_map, List.getElem?_eq_getElem hi] at hc
      cases hc
      obtain ⟨u, hu, ru⟩ := hr.get (List.getElem?_eq_getElem hi)
      refine ⟨u, ?_, ru⟩
      unfold L2.start
      rw [List.getElem?_append_left (by rw [List.length_map, hl]; exact hi), List.getElem?_map, hu]
      rfl
    · rw [List.getElem?_append_right (by rw [List.length_map]; exact hi)] at hc
      have := List.mem_of_getElem? hc
      rw [List.eq_of_mem_replicate this]
      trivial
  · unfold startC at h1
    have m := List.mem_of_getElem? h1
    rcases List.mem_append.mp m with m | m
    · obtain ⟨_, _, e⟩ := List.mem_map.mp m
      cases e
    · have := List.eq_of_mem_replicate m
      cases this
theorem EnvR.wd {g : Gm} {O : Addr → Prop} {H : Hp} {σ : L2.St} {ρ : List Cell} {h : PHp} (E : EnvR K { g with fz := [] } O H σ ρ h) : Wd K g O H h := ⟨E.ext, E.st, E.mok, E.liv, E.sM, E.oM, E.hp⟩
theorem fn_ok (F : FunD K x qual params body scope dvs [] f fd) (S : FnScope N ps scope) (hlen : ∀ ds h Qp Ep, sp ds h Qp Ep → ds.length = ps.length)
    (hq : ∀ (cdv : Value) (A : Around) (outer : List Env) (s : Shared) (H : Hp) (E : XK), Room k (A.deeper (envOfC qual scope s.heap.objs.size f cdv)) → Takes (cxOf (L2.CX P w) P w K mg base N qual scope f cdv A outer s H E) (WF E) →
      QSs (cxOf (L2.CX P w) P w K mg base N qual scope f cdv A outer s H E) (WF E) body q)
    (hv : ∀ ds h Qp Ep, sp ds h Qp Ep → q { nx := fun _ h' => Qp .non h', rt := Qp, ex := fun c fs vs _ h' => Ep c fs vs h' } (startC N.length ds) h) : FnOk P w K mg base (L2.CX P w) (k + 1) f fd ps (SpD K sp) := by
  refine F.ok S (fun vs H Q E h => ?_) (fun cdv A outer s H vs Q E hr h => ?_)
  · obtain ⟨g, h, ds, Qp, Ep, _, r, h2, _⟩ := h
    rw [r.length]
    exact hlen _ _ _ _ h2
  · obtain ⟨g, h, ds, Qp, Ep, wd, r, hsp, kr, ke⟩ := h
    obtain ⟨ts, h1, h2⟩ := hq cdv A outer s H E hr (takes_of rfl rfl rfl rfl)
    refine ⟨ts, h1, ?_⟩
    refine h2 { g with fz := [] } (dom h) H _ _ h { nx := fun _ h' => Qp .non h', rt := Qp, ex := fun c fs vs _ h' => Ep c fs vs h' } _ (start_env wd r N rfl) ?_ ⟨fun O H' σ ρ h' E q => ?_, fun O H' σ ρ h' d v E rv q => ?_, fun _ _ _ _ _ _ z => z.elim, fun _ _ _ _ _ _ z => z.elim⟩ (hv ds h Qp Ep hsp)
    · exact fun σ ρ O H' h' c dd us vs' E' h3 h4 h5 => ke O H' h' c dd us vs' E'.wd h3 h4 h5
    · exact kr O H' h' _ _ E.wd Rep.non q
    · exact kr O H' h' d v E.wd rv q
end
end Pu
set_option Elab.async false
set_option linter.all false
set_option maxRecDepth 100000
set_option maxHeartbeats 4000000
set_option autoImplicit false
/-! Callees by name; a def's promise from its walk. -/
namespace Pu
open PySem PySem.Spec PyProof.Rows L2
def Cal (P : Program) (w : World) (K : PySem.W.Frag) (mg : Str → Option Value) (base : Heap) (x : Str) (ps : List Str) (k : Nat) (sp : Spec) : Prop :=
  ∃ f fd, mg x = some (.ref f) ∧ PySem.W.keepIn K (.ref f) = true ∧ Binds K fd ps [] ∧ FnOk P w K mg base (L2.CX P w) k f fd ps (SpD K sp)
def GD (K : PySem.W.Frag) (mg : Str → Option Value) (x : Str) (st : Stmt) : Prop :=
  ∃ f fd, mg x = some (.ref f) ∧ FunD K x x (defArgs st) (defBody st) (defScope st) [] [] f fd
section
variable {P : Program} {w : World} {K : PySem.W.Frag} {mg : Str → Option Value} {base : Heap} {x : Str} {st : Stmt} {N ps : List Str} {k : Nat} {sp : Spec} {q : RS}
theorem Cal.mono {j : Nat} (c : Cal P w K mg base x ps j sp) (h : j ≤ k) : Cal P w K mg base x ps k sp := by
  obtain ⟨f, fd, h1, h2, h3, h4⟩ := c
  exact ⟨f, fd, h1, h2, h3, h4.mono h⟩
theorem SpD.imp {sp sp' : Spec} (h : ∀ ds h Q E, sp' ds h Q E → sp ds h Q E) : ∀ vs H Q E, SpD K sp' vs H Q E → SpD K sp vs H Q E :=
  fun vs H Q E ⟨g, hh, ds, Qp, Ep, a, b, c, d⟩ => ⟨g, hh, ds, Qp, Ep, a, b, h _ _ _ _ c, d⟩
theorem Cal.imp {sp' : Spec} (c : Cal P w K mg base x ps k sp) (h : ∀ ds h Q E, sp' ds h Q E → sp ds h Q E) : Cal P w K mg base x ps k sp' := by
  obtain ⟨f, fd, h1, h2, h3, h4⟩ := c
  exact ⟨f, fd, h1, h2, h3, h4.imp (SpD.imp h)⟩
abbrev WkOk (P : Program) (w : World) (K : PySem.W.Frag) (mg : Str → Option Value) (base : Heap) (N : List Str) (x : Str) (st : Stmt) (k : Nat) (q : RS) : Prop :=
  ∀ (f : Addr) (cdv : Value) (A : Around) (outer : List Env) (s : Shared) (H : Hp) (E : XK), Room k (A.deeper (envOfC x (defScope st) s.heap.objs.size f cdv)) → Takes (cxOf (L2.CX P w) P w K mg base N x (defScope st) f cdv A outer s H E) (WF E) →
    QSs (cxOf (L2.CX P w) P w K mg base N x (defScope st) f cdv A outer s H E) (WF E) (defBody st) q
theorem cal_of (D : GD K mg x st) (S : FnScope N ps (defScope st)) (hb : ∀ f fd, FunD K x x (defArgs st) (defBody st) (defScope st) [] [] f fd → Binds K fd ps []) (hlen : ∀ ds h Qp Ep, sp ds h Qp Ep → ds.length = ps.length)
    (hq : WkOk P w K mg base N x st k q) (hv : ∀ ds h Qp Ep, sp ds h Qp Ep → q { nx := fun _ h' => Qp .non h', rt := Qp, ex := fun c fs vs _ h' => Ep c fs vs h' } (startC N.length ds) h) : Cal P w K mg base x ps (k + 1) sp := by
  obtain ⟨f, fd, h1, F⟩ := D
  exact ⟨f, fd, h1, F.kp, hb f fd F, fn_ok F S hlen (hq f) hv⟩
end
section
variable {X : Cx} {W : WX} {a b c : Expr} {qa qb qc : RE} {pos p : Pos} {x : Str} {k j : Nat} {ps : List Str} {sp : Spec} {es : List Expr} {r : RA}
theorem qe_callC (C : Cal X.prog X.w X.K X.mg X.base x ps j sp) (hr : Room k X.A) (tk : Takes X W) (ha : QA X W (a :: es) r) (hj : j ≤ k := by decide) (hg : Gl X x := by rfl) (hdb : (x == ("__debug__" : Str)) = false := by decide)
    (he : starEach (a :: es) X.env = (false, eval a X.env) :: starEach es X.env := by rfl) (hpl : (backTo pos (starEach es X.env)).any (·.1) = false := by rfl) : QE X W (.Call (.Name x p) (a :: es) [] pos) (qCall sp r) := by
  obtain ⟨f, fd, h1, h2, h3, h4⟩ := C
  exact qe_call h4 (hr.mono hj) h1 h2 h3 tk ha hg hdb he hpl
theorem takes0 {X : Cx} : Takes X W0 := fun _ _ ⟨_, _, _, _, _, _, _, _, _, _, _, _, _, _, _, _, z⟩ => z.elim
theorem _root_.L2.Room.u1 {A : Around} (r : Room k A) : A.units + 1 < cLine := by have := r.un; omega
end
end Pu
set_option Elab.async false
set_option linter.all false
set_option maxRecDepth 100000
set_option maxHeartbeats 4000000
set_option autoImplicit false
/-! More rules: min and max of two, chained comparisons, reversed. -/
namespace Pu
open PySem PySem.Spec PyProof.Rows L2
/-! ### min, max of two -/
def sLt : Value → Value → Bool
  | .str a _, .str b _ => decide (a.cps.toList < b.cps.toList)
  | _, _ => false
inductive StrV : Value → Prop
  | mk (x t) : StrV (.str x t)
section
variable {prog : Program} {w : World} {A : Around} {E : Value → Shared → Prop} {s : Shared} {Q : Value → Shared → Prop} {a b : Value}
theorem cmpS_lt (vs : Array Value) (hn : ∀ v ∈ vs, StrV v) :
    CmpOf prog w A .Lt (fun i v => vs[i]? = some v) (fun i j => sLt (vs.getD i .none) (vs.getD j .none)) := fun i j vi vj s Q E hi hj h => by
  have e1 : vs.getD i .none = vi := by simp [Array.getD_eq_getD_getElem?, hi]
  have e2 : vs.getD j .none = vj := by simp [Array.getD_eq_getD_getElem?, hj]
  simp only [e1, e2] at h
  cases hn _ (Array.mem_of_getElem? hi)
  cases hn _ (Array.mem_of_getElem? hj)
  exact lt_str h
theorem cmpS_gt (vs : Array Value) (hn : ∀ v ∈ vs, StrV v) :
    CmpOf prog w A .Gt (fun i v => vs[i]? = some v) (fun i j => sLt (vs.getD j .none) (vs.getD i .none)) := fun i j vi vj s Q E hi hj h => by
  have e1 : vs.getD i .none = vi := by simp [Array.getD_eq_getD_getElem?, hi]
  have e2 : vs.getD j .none = vj := by simp [Array.getD_eq_getD_getElem?, hj]
  simp only [e1, e2] at h
  cases hn _ (Array.mem_of_getElem? hi)
  cases hn _ (Array.mem_of_getElem? hj)
  exact PySem.P.gt_str h
theorem max_two_str (hh : A.handled = none) (ha : StrV a) (hb : StrV b)
    (h : ∀ h' tk, (∀ c o, s.heap.get? c = some o → h'.get? c = some o) → Q (if sLt a b then b else a) { s with heap := h', toks := tk }) :
    wpAny (model prog w) A (call (.builtin "max") [a, b]) Q E s := by
  have hT : (s.heap.push { cls := .type "tuple", data := .seq #[a, b] }).IsTuple s.heap.objs.size #[a, b] := ⟨_, Heap.get?_push_size _ rfl, rfl, 0, rfl⟩
  refine call_max_two (wpAny_pyIter_tuple hT ?_)
  have hsz : (s.heap.push { cls := .type "tuple", data := .seq #[a, b] }).objs.size = s.heap.objs.size + 1 := Heap.size_push ..
  refine ⟨_, [_, s.heap.objs.size], [_], _, _, _, _, rfl, Walks.tuple (A := A.in1) hh _ s.heap.objs.size (by rw [hsz]; exact Nat.ne_of_lt (Nat.lt_succ_self _)) #[a, b],
    ⟨⟨_, Heap.get?_push_size _ rfl, rfl, rfl⟩, hT.push _⟩, fun c hc => ?_, by simp, cmpS_gt #[a, b] (by simp [ha, hb]), fun v h' tk hP hk => ?_⟩
  · show c < ((s.heap.push _).push _).objs.size
    rw [Heap.size_push, hsz]
    rcases List.mem_cons.mp hc with rfl | hc
    · rw [hsz]; exact Nat.lt_succ_self _
    · rcases List.mem_cons.mp hc with rfl | hc
      · exact Nat.lt_succ_of_lt (Nat.lt_succ_self _)
      · cases hc
  · have hold : ∀ c o, s.heap.get? c = some o → h'.get? c = some o := fun c o e => by
      refine hk c o (fun hm => ?_) (Heap.get?_push_of_some _ (Heap.get?_push_of_some _ e))
      rcases List.mem_cons.mp hm with e1 | hm
      · have := Heap.lt_size e; rw [e1, hsz] at this; exact Nat.lt_irrefl _ (Nat.lt_of_succ_lt this)
      · cases hm
    have := h h' tk hold
    have hv : v = if sLt a b then b else a := by
      cases hc : sLt a b <;> simp [argBest, hc] at hP <;> simp [hP]
    rw [hv]; exact this
theorem min_two_str (hh : A.handled = none) (ha : StrV a) (hb : StrV b)
    (h : ∀ h' tk, (∀ c o, s.heap.get? c = some o → h'.get? c = some o) → Q (if sLt b a then b else a) { s with heap := h', toks := tk }) :
    wpAny (model prog w) A (call (.builtin "min") [a, b]) Q E s := by
  have hT : (s.heap.push { cls := .type "tuple", data := .seq #[a, b] }).IsTuple s.heap.objs.size #[a, b] := ⟨_, Heap.get?_push_size _ rfl, rfl, 0, rfl⟩
  refine call_min_two (wpAny_pyIter_tuple hT ?_)
  have hsz : (s.heap.push { cls := .type "tuple", data := .seq #[a, b] }).objs.size = s.heap.objs.size + 1 := Heap.size_push ..
  refine ⟨_, [_, s.heap.objs.size], [_], _, _, _, _, rfl, Walks.tuple (A := A.in1) hh _ s.heap.objs.size (by rw [hsz]; exact Nat.ne_of_lt (Nat.lt_succ_self _)) #[a, b],
    ⟨⟨_, Heap.get?_push_size _ rfl, rfl, rfl⟩, hT.push _⟩, fun c hc => ?_, by simp, cmpS_lt #[a, b] (by simp [ha, hb]), fun v h' tk hP hk => ?_⟩
  · show c < ((s.heap.push _).push _).objs.size
    rw [Heap.size_push, hsz]
    rcases List.mem_cons.mp hc with rfl | hc
    · rw [hsz]; exact Nat.lt_succ_self _
    · rcases List.mem_cons.mp hc with rfl | hc
      · exact Nat.lt_succ_of_lt (Nat.lt_succ_self _)
      · cases hc
  · have hold : ∀ c o, s.heap.get? c = some o → h'.get? c = some o := fun c o e => by
      refine hk c o (fun hm => ?_) (Heap.get?_push_of_some _ (Heap.get?_push_of_some _ e))
      rcases List.mem_cons.mp hm with e1 | hm
      · have := Heap.lt_size e; rw [e1, hsz] at this; exact Nat.lt_irrefl _ (Nat.lt_of_succ_lt this)
      · cases hm
    have := h h' tk hold
    have hv : v = if sLt b a then b else a := by
      cases hc : sLt b a <;> simp [argBest, hc] at hP <;> simp [hP]
    rw [hv]; exact this
end
def rMin2 (mx : Bool) : List V → Hp → VK → Prop := fun xs H Q => (∃ i j, xs = [.int i, .int j] ∧ Q (.int (if mx then (if j > i then j else i) else (if j < i then j else i))) H) ∨
  ∃ i j, xs = [.str i, .str j] ∧ Q (.str (if mx then (if i.cps.toList < j.cps.toList then j else i) else (if j.cps.toList < i.cps.toList then j else i))) H
section
variable {X : Cx}
theorem call_min2A (hc : X.calm = true) : CallR X (.builtin "min") (rMin2 false) := by
  intro pins s σ H xs us Q I r h
  rcases h with h | ⟨i, j, rfl, q⟩
  · exact call_min2 hc pins s σ H xs us Q I r h
  · obtain ⟨u, w', rfl, ⟨t, rfl⟩, ⟨t', rfl⟩⟩ := vals2 r
    refine min_two_str (I.ok.hd hc) (.mk ..) (.mk ..) fun h' tk k => ⟨_, H, I.kept k, ?_, q⟩
    show RelV (.str (if j.cps.toList < i.cps.toList then j else i)) (if decide (j.cps.toList < i.cps.toList) = true then _ else _)
    by_cases hj : j.cps.toList < i.cps.toList
    · rw [if_pos hj, if_pos (decide_eq_true hj)]; exact ⟨_, rfl⟩
    · rw [if_neg hj, if_neg (by rw [decide_eq_true_eq]; exact hj)]; exact ⟨_, rfl⟩
theorem call_max2A (hc : X.calm = true) : CallR X (.builtin "max") (rMin2 true) := by
  intro pins s σ H xs us Q I r h
  rcases h with h | ⟨i, j, rfl, q⟩
  · exact call_max2 hc pins s σ H xs us Q I r h
  · obtain ⟨u, w', rfl, ⟨t, rfl⟩, ⟨t', rfl⟩⟩ := vals2 r
    refine max_two_str (I.ok.hd hc) (.mk ..) (.mk ..) fun h' tk k => ⟨_, H, I.kept k, ?_, q⟩
    show RelV (.str (if i.cps.toList < j.cps.toList then j else i)) (if decide (i.cps.toList < j.cps.toList) = true then _ else _)
    by_cases hj : i.cps.toList < j.cps.toList
    · rw [if_pos hj, if_pos (decide_eq_true hj)]; exact ⟨_, rfl⟩
    · rw [if_neg hj, if_neg (by rw [decide_eq_true_eq]; exact hj)]; exact ⟨_, rfl⟩
def minD : OpD
  | .int i, .int j, Q => Q (.int (if j < i then j else i))
  | .str i, .str j, Q => Q (.str (if j.cps.toList < i.cps.toList then j else i))
  | _, _, _ => False
def maxD : OpD
  | .int i, .int j, Q => Q (.int (if j > i then j else i))
  | .str i, .str j, Q => Q (.str (if i.cps.toList < j.cps.toList then j else i))
  | _, _, _ => False
theorem cs_min2 : CallS2 X (rMin2 false) minD := by
  intro g O H σ ρ h x y u v Q P E r1 r2 q k
  unfold minD at q
  split at q
  · rw [r1.int, r2.int]; exact .inl ⟨_, _, rfl, k _ _ H E Nx.refl Rep.int q⟩
  · rw [r1.str, r2.str]; exact .inr ⟨_, _, rfl, k _ _ H E Nx.refl Rep.str q⟩
  · exact q.elim
theorem cs_max2 : CallS2 X (rMin2 true) maxD := by
  intro g O H σ ρ h x y u v Q P E r1 r2 q k
  unfold maxD at q
  split at q
  · rw [r1.int, r2.int]; exact .inl ⟨_, _, rfl, k _ _ H E Nx.refl Rep.int q⟩
  · rw [r1.str, r2.str]; exact .inr ⟨_, _, rfl, k _ _ H E Nx.refl Rep.str q⟩
  · exact q.elim
end
section
variable {X : Cx} {W : WX} {a b c : Expr} {qa qb qc : RE} {pos p : Pos} {x : Str}
/-! ### a op b op c -/
def qChain (f f' : OpD) (a b c : RE) : RE := fun Ex ρ h Q => a Ex ρ h fun x h1 => b Ex ρ h1 fun y h2 => f (deref h2 x) (deref h2 y) fun d => asB (fun k h3 => if k = true then c Ex ρ h3 fun z h4 => f' (deref h4 y) (deref h4 z) fun d' => Q d' h4 else Q (.bl false) h3) d h2
theorem chain_run {r r' : R2} {f f' : OpD} {ta tb tc : TE} {g : Gm} {O : Addr → Prop} {H : Hp} {σ : L2.St} {ρ : List Cell} {h : PHp} {Ex : XP} {Q : D → PHp → Prop} {P : VK} (hs : OpS X r f) (hs' : OpS X r' f')
    (ha : ∀ (g : Gm) O H σ ρ h Ex Q P, EnvR X.K g O H σ ρ h → OkE X.K g W Ex σ ρ → qa Ex ρ h Q → (∀ d v O' H' h', EnvR X.K g O' H' σ ρ h' → Nx g O h H O' h' H' → RepV X.K g O' H' h' d v → Q d h' → P v H') → ta σ H P)
    (hb : ∀ (g : Gm) O H σ ρ h Ex Q P, EnvR X.K g O H σ ρ h → OkE X.K g W Ex σ ρ → qb Ex ρ h Q → (∀ d v O' H' h', EnvR X.K g O' H' σ ρ h' → Nx g O h H O' h' H' → RepV X.K g O' H' h' d v → Q d h' → P v H') → tb σ H P)
    (hc : ∀ (g : Gm) O H σ ρ h Ex Q P, EnvR X.K g O H σ ρ h → OkE X.K g W Ex σ ρ → qc Ex ρ h Q → (∀ d v O' H' h', EnvR X.K g O' H' σ ρ h' → Nx g O h H O' h' H' → RepV X.K g O' H' h' d v → Q d h' → P v H') → tc σ H P)
    (E : EnvR X.K g O H σ ρ h) (o : OkE X.K g W Ex σ ρ) (hq : qChain f f' qa qb qc Ex ρ h Q)
    (k : ∀ d v O' H' h', EnvR X.K g O' H' σ ρ h' → Nx g O h H O' h' H' → Rep X.K g.so (g.A O') H' d v → Q d h' → P v H') : tChain r r' ta tb tc σ H P := by
  refine ha g O H σ ρ h Ex _ _ E o hq fun x u O1 H1 h1 E1 n1 r1 q1 => ?_
  refine hb g O1 H1 σ ρ h1 Ex _ _ E1 o q1 fun y v O2 H2 h2 E2 n2 r2 q2 => ?_
  refine hs g O2 H2 σ ρ h2 _ _ u v _ _ E2 (E2.deref (n2.repv r1)) (E2.deref r2) q2 fun d w H3 E3 n3 rr qq => ?_
  obtain ⟨b, e, qb'⟩ := asB_v rr.v qq
  refine ⟨b, e, ?_⟩
  have n13 := (n1.trans n2).trans n3
  cases b with
  | false =>
    exact k _ _ O2 H3 h2 E3 n13 Rep.bl qb'
  | true =>
    refine hc g O2 H3 σ ρ h2 Ex _ _ E3 o qb' fun z w' O4 H4 h4 E4 n4 r4 q4 => ?_
    exact hs' g O4 H4 σ ρ h4 _ _ v w' _ _ E4 (E4.deref ((n3.trans n4).repv r2)) (E4.deref r4) q4 fun d' w2 H5 E5 n5 r5 q5 => k d' w2 O4 H5 h4 E5 ((n13.trans n4).trans n5) r5 q5
theorem qe_chain {op op' : CmpOp} {r r' : R2} {f f' : OpD} (ho : OpR X (compareOp op) r) (hs : OpS X r f) (ho' : OpR X (compareOp op') r') (hs' : OpS X r' f') (ha : QK X W a qa) (hb : QK X W b qb) (hc : QK X W c qc)
    (hm : lastMarks [op, op'] [b, c] = false := by with_unfolding_all rfl) : QE X W (.Compare a [op, op'] [b, c] pos) (qChain f f' qa qb qc) := by
  obtain ⟨ta, ha1, ha2⟩ := ha
  obtain ⟨tb, hb1, hb2⟩ := hb
  obtain ⟨tc, hc1, hc2⟩ := hc
  exact ⟨_, pe_chain ho ho' ha1 hb1 hc1 hm, fun g O H σ ρ h Ex Q P E o hq k => chain_run hs hs' ha2 hb2 hc2 E o hq k⟩
theorem qt_chain {op op' : CmpOp} {r r' : R2} {f f' : OpD} (ho : OpR X (compareOp op) r) (hs : OpS X r f) (ho' : OpR X (compareOp op') r') (hs' : OpS X r' f') (ha : QK X W a qa) (hb : QK X W b qb) (hc : QK X W c qc)
    (hm : lastMarks [op, op'] [b, c] = false := by with_unfolding_all rfl) : QT X W (.Compare a [op, op'] [b, c] pos) (qTest (qChain f f' qa qb qc)) := by
  obtain ⟨ta, ha1, ha2⟩ := ha
  obtain ⟨tb, hb1, hb2⟩ := hb
  obtain ⟨tc, hc1, hc2⟩ := hc
  refine ⟨_, pt_chain ho ho' ha1 hb1 hc1 hm, fun g O H σ ρ h Ex Q P E o hq k => chain_run (Q := asB Q) hs hs' ha2 hb2 hc2 E o hq fun d v O' H' h' E' n r q => ?_⟩
  obtain ⟨z, e, q⟩ := asB_v r.v q
  exact ⟨z, e, k z O' H' h' E' n q⟩
/-! ### -1 -/
theorem qe_neg {i : Int} {j : Nat} {p1 : Pos} : QE X W (.UnaryOp .USub (.Constant (.int i) j p1) pos) (qC (.int (-i))) :=
  ⟨_, pe_un un_neg pe_int, fun g O H σ ρ h Ex Q P E o hq k => ⟨i, rfl, k _ _ O H h E Nx.refl Rep.int hq⟩⟩
/-! ### x[::-1] -/
def revS (z : Str) : Str := ⟨z.cps.toList.reverse.toArray⟩
theorem revS_len (z : Str) : (revS z).length = z.length := by
  show z.cps.toList.reverse.toArray.size = z.cps.size
  rw [List.size_toArray, List.length_reverse, Array.length_toList]
theorem rev_ix (n : Nat) : Builtin.Str.strSliceIndices none none (-1) n = (List.range n).map fun k => n - 1 - k := PySem.W.krv_sliceRange n
theorem rev_pick (z : Str) : (⟨((Builtin.Str.strSliceIndices none none (-1) z.length).filterMap (z.cps[·]?)).toArray⟩ : Str) = revS z := by
  rw [rev_ix]
  have h := PySem.W.krv_all z.cps
  show Str.mk _ = Str.mk _
  rw [← h, ← List.filterMap_reverse]
  congr 1
  congr 1
  exact congrArg _ (PySem.W.krv_range _)
def tRevS : TE → TE := fun te σ H Q => te σ H fun x H1 => ∃ z : Str, x = .str z ∧ z.length ≤ sizeLine ∧ Q (.str (revS z)) H1
theorem pe_revS {e : Expr} {te : TE} {k : Nat} {p1 p2 p3 pos : Pos} (he : PE X e te) : PE X (.Subscript e (.Slice none none (some (.UnaryOp .USub (.Constant (.int 1) k p1) p2)) p3) pos) (tRevS te) := by
  refine ⟨fun pins s σ H Q I h => ?_⟩
  refine Subscript_ (thn (he.run pins s σ H _ I h) fun v s1 ⟨x, H1, I1, r1, q1⟩ => ?_)
  obtain ⟨z, ex, hz, q⟩ := q1
  subst ex
  obtain ⟨t, rfl⟩ := r1
  have hst : PO X (some (.UnaryOp .USub (.Constant (.int 1) k p1) p2)) (tPart (tUn (rU fun i => .int (-i)) (tC (.int 1)))) := po_some (pe_un un_neg pe_int)
  refine wpAny_Slice (thn (po_none.run pins s1 σ H1 (fun o H2 => o = none ∧ H2 = H1) I1 ⟨rfl, rfl⟩) fun vl s2 ⟨l, H2, I2, pl, el, e2⟩ => ?_)
  subst el e2
  refine thn (po_none.run pins s2 σ H2 (fun o H3 => o = none ∧ H3 = H2) I2 ⟨rfl, rfl⟩) fun vu s3 ⟨u, H3, I3, pu, eu, e3⟩ => ?_
  subst eu e3
  refine thn (hst.run pins s3 σ H3 (fun o H4 => o = some (-1) ∧ H4 = H3) I3 ⟨1, rfl, -1, rfl, rfl, rfl⟩) fun vs s4 ⟨o, H4, I4, ps, eo, e4⟩ => ?_
  subst eo e4
  have I5 : Inv X pins σ H4 { s4 with heap := s4.heap.push { cls := .type "slice", data := .fields #[vl, vu, vs] } } := I4.kept (t' := s4.toks) fun b ob q => Heap.get?_push_of_some _ q
  show wpAny (model X.prog X.w) X.A (subscriptTail e (.Slice none none (some (.UnaryOp .USub (.Constant (.int 1) k p1) p2)) p3) (.str z t) (.ref s4.heap.objs.size)) (EP X pins σ Q) X.xe { s4 with heap := s4.heap.push { cls := .type "slice", data := .fields #[vl, vu, vs] } }
  refine tail_any (ops := [.str z t, .ref s4.heap.objs.size]) (typeIs_str _ _ _) (PySem.F.slot_str_getitem.lookup) ?_ (by with_unfolding_all rfl)
  obtain ⟨l, rfl, e1⟩ := IsPart.raw pl
  obtain ⟨u, rfl, e2⟩ := IsPart.raw pu
  obtain ⟨st, rfl, e3⟩ := IsPart.raw ps
  have e1 : l = none := by
    cases l with
    | none => rfl
    | some y => cases e1
  have e2 : u = none := by
    cases u with
    | none => rfl
    | some y => cases e2
  subst e1 e2
  obtain ⟨t1, rfl⟩ : ∃ t1, st = some (-1, t1) := by
    cases st with
    | none => cases e3
    | some y => obtain ⟨y1, y2⟩ := y; cases e3; exact ⟨y2, rfl⟩
  refine wpAny_getItem_str_slice (l := none) (u := none) (st := some (-1, t1)) ⟨_, Heap.get?_push_size _ rfl, rfl, rfl⟩ rfl ?_
  show Made.post (if ((-1 : Int) == 1 && _) = true then Made.val (.str z t) else Made.str ⟨((Builtin.Str.strSliceIndices none none (-1) z.length).filterMap (z.cps[·]?)).toArray⟩) (EP X pins σ Q) _
  rw [if_neg (by simp), rev_pick]
  exact ⟨by rw [revS_len]; exact hz, .str _, _, I5.tok _, ⟨_, rfl⟩, q⟩
def revD : D → (D → Prop) → Prop
  | .str z, Q => z.length ≤ sizeLine ∧ Q (.str (revS z))
  | _, _ => False
theorem qe_rev {k : Nat} {p1 p2 p3 : Pos} (ha : QK X W a qa) : QE X W (.Subscript a (.Slice none none (some (.UnaryOp .USub (.Constant (.int 1) k p1) p2)) p3) pos) (qUn revD qa) := by
  obtain ⟨ta, ha1, ha2⟩ := ha
  refine ⟨_, pe_revS ha1, fun g O H σ ρ h Ex Q P E o hq kk => ha2 g O H σ ρ h Ex _ _ E o hq fun d v O' H' h' E' n rr q => ?_⟩
  have r := E'.deref rr
  generalize deref h' d = d at q r
  unfold revD at q
  split at q
  · exact ⟨_, r.str, q.1, kk _ _ O' H' h' E' n Rep.str q.2⟩
  · exact q.elim
end
end Pu
set_option Elab.async false
set_option linter.all false
set_option maxRecDepth 100000
set_option maxHeartbeats 4000000
set_option autoImplicit false
/-! list(reversed(xs)) -/
namespace Pu
open PySem PySem.Calls PySem.Spec PyProof.Rows L2 RT
section
variable {prog : Program} {w : World} {A : Around} {E : Value → Shared → Prop} {s : Shared}
theorem lrev_extend {R : Result → Shared → Prop} {it l : Addr} {items : Array Value} (hh : A.handled = none) (S : Addr) (hSi : S ≠ it) (hSl : S ≠ l) (res : Value) (c₀ : Nat) (hS₁ : s.heap.get? S = some { cls := .type "list", data := .seq #[] c₀ })
    (hit1 : s.heap.IsRevIter it l ((items.size : Int) - 1)) (hl1 : s.heap.IsList l items) (hne : l ≠ it) (hn : items.size ≤ sizeLine)
    (hR : ∀ h' tk acc' c', (∀ b o, b ≠ S → b ≠ it → s.heap.get? b = some o → h'.get? b = some o) → h'.get? S = some { cls := .type "list", dict := none, data := .seq acc' c', slots := #[] } → ItemsOf (fun i v => items[items.size - 1 - i]? = some v) acc' items.size → R (.ok (.ret res)) { s with heap := h', toks := tk }) :
    wpAny (model prog w) A.in1 (Builtin.List.listExtendWith (.ref S) (.ref it) res)
      (fun fin s' => match fin with | .done f => R (.ok f) s' | .again c' => c'.quiet = true ∧ codeAny (model prog w) A c' R s') (fun e s' => R (.error e) s') s := by
  have W := (Walks.listRev (prog := prog) (w := w) (A := A.in1) hh it l hne items).toS
  have hSf : S ∉ [it, l] := by simp only [List.mem_cons, List.not_mem_nil, or_false, not_or]; exact ⟨hSi, hSl⟩
  have hT : s.TypeIs (.ref it) "list_reverseiterator" := hit1.typeIs
  have h1 : Builtin.List.listSameRef (.ref S) (.ref it) = false := by simp [Builtin.List.listSameRef, hSi]
  unfold Builtin.List.listExtendWith
  refine wpAny_bind (wpAny_typeOf hT ?_)
  rw [if_neg (by rw [h1]; decide)]
  refine wpAny_bind (wpAny_pyIter_revIter hit1 ?_)
  refine wpAny_bind (wpAny_holding ?_)
  unfold Builtin.List.listLengthHint
  refine wpAny_bind (wpAny_specialOf hT nolen_lri ?_)
  show wpAny _ A.in1 (specialOf (Value.ref it) (Str.ofString "__length_hint__") >>= _) _ _ _
  refine wpAny_bind (wpAny_specialOf hT hint_lri ?_)
  generalize hid : ("list_reverseiterator.__length_hint__" : String) = id0
  wp_delta
  rw [show splitId id0 = some ("list_reverseiterator", "__length_hint__") from by subst hid; decide +kernel]
  subst hid
  refine wpAny_bind (wpAny_isInstance (b := true) hT (by rw [isSubtype_type]; kernel_rfl) ?_)
  refine wpAny_pure ?_
  rw [if_neg (by decide)]
  have e0 : ((items.size : Nat) : Int) - 1 - ((0 : Nat) : Int) = (items.size : Int) - 1 := by omega
  refine wpAny_pure ⟨plainId_quiet PySem.F.plain_extend_loop _, codeAny_extend_loopS W hn _ hSf _ items.size 0 _ _ _ rfl (Nat.zero_le _) ⟨Nat.zero_le _, by rw [e0]; exact hit1, hl1⟩ hS₁ (ItemsOf.nil _) fun s' acc' c' hm hS' hacc => ?_⟩
  rw [Moved.eq_with hm]
  refine hR s'.heap s'.toks acc' c' (fun b o hb hb2 e => hm.heap b o (fun hmem => ?_) e) hS' hacc
  rcases List.mem_cons.mp hmem with e' | hmem
  · exact hb e'
  · exact hb2 (List.mem_singleton.mp hmem)
theorem lrev_call {Q : Value → Shared → Prop} {it l : Addr} {items : Array Value} (hh : A.handled = none) (hit : s.heap.IsRevIter it l ((items.size : Int) - 1)) (hl : s.heap.IsList l items) (hne : l ≠ it) (hn : items.size ≤ sizeLine)
    (hQ : ∀ h' tk acc' c', (∀ b o, b ≠ it → s.heap.get? b = some o → h'.get? b = some o) → h'.get? s.heap.objs.size = some { cls := .type "list", dict := none, data := .seq acc' c', slots := #[] } → ItemsOf (fun i v => items[items.size - 1 - i]? = some v) acc' items.size → Q (.ref s.heap.objs.size) { s with heap := h', toks := tk }) :
    wpAny (model prog w) A (call (.type "list") [.ref it]) Q E s := by
  refine callType_codes (Q₁ := fun obj s₁ => obj = .ref s.heap.objs.size ∧ s₁ = { s with heap := s.heap.push { cls := .type "list", data := .seq #[] } }) PySem.F.called_list (PySem.F.typeCall_list_1 _) PySem.F.entry_list_init
    (code_list_new _ ⟨rfl, rfl⟩) fun obj s₁ h₁ => ?_
  obtain ⟨rfl, rfl⟩ := h₁
  obtain ⟨oi, hoi, _⟩ := id hit
  obtain ⟨ol, hol, _⟩ := id hl
  have hSi : s.heap.objs.size ≠ it := Nat.ne_of_gt (Heap.lt_size hoi)
  have hSl : s.heap.objs.size ≠ l := Nat.ne_of_gt (Heap.lt_size hol)
  have hS : (s.heap.push { cls := .type "list", data := .seq #[] }).get? s.heap.objs.size = some { cls := .type "list", data := .seq #[] } := Heap.get?_push_size _ rfl
  refine ⟨⟨_, hS, rfl⟩, PySem.F.args_list_init_2 _ _, ?_⟩
  show wpAny _ _ (do let old ← Builtin.List.listItems (.ref s.heap.objs.size); Builtin.List.listUpdate (.ref s.heap.objs.size) (fun _ => #[]); letGo old.toList.reverse; Builtin.List.listExtendWith (.ref s.heap.objs.size) (.ref it) .none) _ _ _
  refine wpAny_bind ?_
  unfold Builtin.List.listItems
  refine wpAny_bind (wpAny_seqItems hS rfl (wpAny_pure ?_))
  show wpAny _ _ (updateSeq s.heap.objs.size (fun _ => #[]) >>= fun _ => letGo (#[] : Array Value).toList.reverse >>= fun _ => Builtin.List.listExtendWith (.ref s.heap.objs.size) (.ref it) .none) _ _ _
  refine wpAny_bind (wpAny_updateSeq hS rfl ?_)
  have hS₂ := Heap.get?_update_self (Obj.mapSeq (fun _ => (#[] : Array Value))) hS rfl
  have oth : ∀ b o, b ≠ s.heap.objs.size → s.heap.get? b = some o → ((s.heap.push { cls := .type "list", data := .seq #[] }).update s.heap.objs.size (Obj.mapSeq (fun _ => (#[] : Array Value)))).get? b = some o :=
    fun b o hb e => (Heap.get?_update_other _ _ (Ne.symm hb)).trans (Heap.get?_push_of_some _ e)
  refine wpAny_bind (wpAny_letGo ?_)
  have hit' := hit.at (h' := (s.heap.push { cls := .type "list", data := .seq #[] }).update s.heap.objs.size (Obj.mapSeq (fun _ => (#[] : Array Value)))) fun o e => oth _ o hSi.symm e
  have hl' : ((s.heap.push { cls := .type "list", data := .seq #[] }).update s.heap.objs.size (Obj.mapSeq (fun _ => (#[] : Array Value)))).IsList l items := by
    obtain ⟨o, h1, h2⟩ := hl
    exact ⟨o, oth _ o hSl.symm h1, h2⟩
  refine lrev_extend (A := A.in1) (s := { s with heap := (s.heap.push { cls := .type "list", data := .seq #[] }).update s.heap.objs.size (Obj.mapSeq (fun _ => (#[] : Array Value))) }) hh _ hSi hSl .none _ hS₂ hit' hl' hne hn fun h' tk acc' c' hk hS' hacc => ?_
  refine ⟨rfl, hQ h' tk acc' c' (fun b o hb e => hk b o (Nat.ne_of_lt (Heap.lt_size e)) hb (oth b o (Nat.ne_of_lt (Heap.lt_size e)) e)) hS' hacc⟩
end
section
variable {X : Cx} {W : WX} {a b c : Expr} {qa qb qc : RE} {pos p : Pos} {x : Str}
def tListRev (K : PySem.W.Frag) (te : TE) : TE := fun σ H Q => te σ H fun v H1 => ∃ (a : Addr) (xs : List V), v = .ref a ∧ SqL K H1 a xs ∧ ∀ q, H1 q = none → Q (.ref q) (upd H1 q (.lst xs.reverse))
theorem pe_listRev {e : Expr} {te : TE} {p p2 pos pos2 : Pos} (hc : X.calm = true) (hg : Gl X "list") (hm : X.mg "list" = none) (hg2 : Gl X "reversed") (hm2 : X.mg "reversed" = none) (he : PE X e te)
    (hs : starEach [e] X.env = (false, eval e X.env) :: starEach [] X.env := by rfl)
    (hs2 : starEach [.Call (.Name "reversed" p2) [e] [] pos2] X.env = (false, eval (.Call (.Name "reversed" p2) [e] [] pos2) X.env) :: starEach [] X.env := by rfl) :
    PE X (.Call (.Name "list" p) [.Call (.Name "reversed" p2) [e] [] pos2] [] pos) (tListRev X.K te) := by
  refine ⟨fun pins s σ H Q I h => ?_⟩
  refine Call_ (ld_blt I hg hm (show bootBuiltins "list" = some (.type "list") by decide +kernel) (PyProof.Rows.callWith_type1 (args_cons (Call_ (ld_blt I hg2 hm2 PyProof.Rows.boot_reversed (PyProof.Rows.callWith_type1 (args_cons (thn (he.run pins s σ H _ I h) fun u s1 ⟨v, H1, I1, r1, q1⟩ => args_nil ?_) hs) hs rfl))) hs2) hs2 rfl))
  obtain ⟨a, xs, ev, hq, q⟩ := q1
  subst ev
  obtain rfl : u = Value.ref a := r1
  obtain ⟨its, rv, p', hz⟩ := I1.list hq
  refine call_reversed_list p'.isList (args_nil ?_)
  have k0 : ∀ b o, s1.heap.get? b = some o → (s1.heap.push (revObj a ((its.toArray.size : Int) - 1))).get? b = some o := fun b o e => Heap.get?_push_of_some _ e
  have I2 : Inv X pins σ H1 { s1 with heap := s1.heap.push (revObj a ((its.toArray.size : Int) - 1)) } := I1.kept (t' := s1.toks) k0
  obtain ⟨f0, f1, f2, f3, f4, f5⟩ := I1.fpOk (H' := H1) (b := s1.heap.objs.size) (Nat.le_refl _) (I1.hok.fresh (Nat.le_refl _))
  have hl := p'.isList
  obtain ⟨ol, hol, _⟩ := id hl
  have hne : a ≠ s1.heap.objs.size := Nat.ne_of_lt (Heap.lt_size hol)
  have hn : its.toArray.size ≤ sizeLine := by rw [List.size_toArray, ← rv.length]; exact hz
  refine lrev_call (s := { s1 with heap := s1.heap.push (revObj a ((its.toArray.size : Int) - 1)) }) (I1.ok.hd hc) ⟨_, Heap.get?_push_size _ rfl, rfl, rfl⟩ (hl.push _) hne hn fun h' tk acc c' hk hD hi => ?_
  refine ⟨.ref _, upd H1 _ (.lst xs.reverse), I2.turnedNew (t' := tk) (ch := [s1.heap.objs.size]) (T := (s1.heap.push (revObj a ((its.toArray.size : Int) - 1))).objs.size) (fun b o hb e => hk b o (fun z => hb (List.mem_singleton.mpr z)) e) (fun b hb => ?_) (Nat.le_refl _) ⟨by rw [List.length_reverse]; exact hz, acc.toList, c', vals_rev rv hi, by rw [Array.toArray_toList]; exact hD⟩, rfl, q _ (I2.hok.fresh (Nat.le_refl _))⟩
  have e : b = s1.heap.objs.size := List.mem_singleton.mp hb
  subst e
  exact ⟨f0, f1, f2, f3, f4, f5⟩
def lrevD : D → (D → Prop) → Prop
  | .lst xs, Q => Q (.lst xs.reverse)
  | _, _ => False
theorem Reps.reverse {K : PySem.W.Frag} {so : Option Sto} {A : Addr → Prop} {H : Hp} : ∀ {xs : List D} {us : List V}, Reps K so A H xs us → Reps K so A H xs.reverse us.reverse
  | [], us, r => by
    unfold Reps at r
    subst r
    exact Reps.nil
  | d :: ds, us, r => by
    unfold Reps at r
    obtain ⟨u, rs, rfl, r1, r2⟩ := r
    rw [List.reverse_cons, List.reverse_cons]
    exact r2.reverse.append (Reps.one r1)
theorem qn_listRev {a : Expr} {p2 pos2 : Pos} (hm : X.mg "list" = none) (hm2 : X.mg "reversed" = none) (ha : QK X W a qa) (hc : X.calm = true := by rfl) (hg : Gl X "list" := by rfl) (hg2 : Gl X "reversed" := by rfl)
    (hs : starEach [a] X.env = (false, eval a X.env) :: starEach [] X.env := by rfl)
    (hs2 : starEach [.Call (.Name "reversed" p2) [a] [] pos2] X.env = (false, eval (.Call (.Name "reversed" p2) [a] [] pos2) X.env) :: starEach [] X.env := by rfl) :
    QN X W (.Call (.Name "list" p) [.Call (.Name "reversed" p2) [a] [] pos2] [] pos) (qUn lrevD qa) := by
  obtain ⟨ta, ha1, ha2⟩ := ha
  refine ⟨_, pe_listRev hc hg hm hg2 hm2 ha1 hs hs2, fun g O H σ ρ h Ex Q P E o hq kk => ha2 g O H σ ρ h Ex _ _ E o hq fun d v O' H' h' E' n rr q => ?_⟩
  have r := E'.deref rr
  generalize deref h' d = d at q r
  unfold lrevD at q
  split at q
  · obtain ⟨a, us, rfl, h1, r⟩ := r.lst
    exact ⟨a, us, rfl, SqL.of h1, fun l hl => let z := E'.newL hl r.reverse; kk _ l _ _ _ z.1 (n.trans z.2.1) (n.back hl) z.2.2.1 z.2.2.2 q⟩
  · exact q.elim
end
end Pu
set_option Elab.async false
set_option linter.all false
set_option maxRecDepth 100000
set_option maxHeartbeats 4000000
set_option autoImplicit false
/-! xs[i] = e, d[k] = e, del d[k]; isinstance; or of texts and lists. -/
namespace Pu
open PySem PySem.Spec PyProof.Rows L2
def dputV : List Key → List D → Key → D → List D
  | k :: ks, v :: vs, q, x => (if k = q then x else v) :: dputV ks vs q x
  | _, _, _, _ => []
def dput (ks : List Key) (vs : List D) (k : Key) (x : D) : D := if (ks.any fun y => decide (y = k)) = true then .dic ks (dputV ks vs k x) else .dic (ks ++ [k]) (vs ++ [x])
def ddelV : List Key → List D → Key → List D
  | k :: ks, v :: vs, q => if k = q then ddelV ks vs q else v :: ddelV ks vs q
  | _, _, _ => []
def ddel (ks : List Key) (vs : List D) (k : Key) : D := .dic (ks.filter fun y => decide (y ≠ k)) (ddelV ks vs k)
def setD : D → D → D → (D → Prop) → Prop
  | .lst xs, .int k, x, Q => ∃ j, ixN xs.length k = some j ∧ Q (.lst (xs.set j x))
  | .dic ks vs, y, x, Q => ∃ k, keyD y = some k ∧ ks.length < sizeLine ∧ Q (dput ks vs k x)
  | _, _, _, _ => False
def delD : D → D → (D → Prop) → Prop
  | .dic ks vs, y, Q => ∃ k, keyD y = some k ∧ (dlook ks vs k).isSome = true ∧ Q (ddel ks vs k)
  | _, _, _ => False
section
variable {K : PySem.W.Frag} {so : Option Sto} {A : Addr → Prop} {H : Hp}
theorem dput_map : ∀ {us : List (Key × V)} {vs : List D} {k : Key} {x : D} {v : V}, Reps K so A H vs (us.map (·.2)) → Rep K so A H x v →
    ((us.map fun kv => if kv.1 = k then (kv.1, v) else kv).map (·.1)) = us.map (·.1) ∧ Reps K so A H (dputV (us.map (·.1)) vs k x) ((us.map fun kv => if kv.1 = k then (kv.1, v) else kv).map (·.2))
  | [], [], k, x, v, r, rx => ⟨rfl, r⟩
  | [], _ :: _, k, x, v, r, rx => by
    unfold Reps at r
    obtain ⟨_, _, e, _⟩ := r
    cases e
  | (k', u) :: us, [], k, x, v, r, rx => by
    unfold Reps at r
    cases r
  | (k', u) :: us, d :: vs, k, x, v, r, rx => by
    unfold Reps at r
    obtain ⟨u', rs, e, r1, r2⟩ := r
    rw [List.map_cons] at e
    obtain ⟨rfl, rfl⟩ := List.cons.inj e
    obtain ⟨i1, i2⟩ := dput_map (k := k) (x := x) (v := v) r2 rx
    simp only [List.map_cons]
    unfold dputV
    refine ⟨?_, ?_⟩
    · rw [i1]
      congr 1
      split <;> rfl
    · refine Reps.cons ?_ i2
      by_cases c : k' = k
      · rw [if_pos c, if_pos c]; exact rx
      · rw [if_neg c, if_neg c]; exact r1
theorem dput_own {us : List (Key × V)} {vs : List D} {k : Key} {x : D} {v : V} {p : Addr} (r : Reps K so A H vs (us.map (·.2))) (rx : Rep K so A H x v) (hH : H p = some (.dK (putK us k v))) : Own K so A H (dput (us.map (·.1)) vs k x) p := by
  unfold dput putK at *
  have e : ((us.map (·.1)).any fun y => decide (y = k)) = us.any fun kv => decide (kv.1 = k) := by rw [List.any_map]; rfl
  rw [e]
  by_cases c : (us.any fun kv => decide (kv.1 = k)) = true
  · rw [if_pos c]
    rw [if_pos c] at hH
    obtain ⟨i1, i2⟩ := dput_map (k := k) r rx
    exact ⟨_, hH, i1, i2⟩
  · rw [if_neg c]
    rw [if_neg c] at hH
    refine ⟨_, hH, by simp, ?_⟩
    rw [List.map_append]
    exact r.append (Reps.one rx)
theorem ddel_map : ∀ {us : List (Key × V)} {vs : List D} {k : Key}, Reps K so A H vs (us.map (·.2)) →
    ((dropK us k).map (·.1)) = (us.map (·.1)).filter (fun y => decide (y ≠ k)) ∧ Reps K so A H (ddelV (us.map (·.1)) vs k) ((dropK us k).map (·.2))
  | [], [], k, r => ⟨rfl, r⟩
  | [], _ :: _, k, r => by
    unfold Reps at r
    obtain ⟨_, _, e, _⟩ := r
    cases e
  | (k', u) :: us, [], k, r => by
    unfold Reps at r
    cases r
  | (k', u) :: us, d :: vs, k, r => by
    unfold Reps at r
    obtain ⟨u', rs, e, r1, r2⟩ := r
    rw [List.map_cons] at e
    obtain ⟨rfl, rfl⟩ := List.cons.inj e
    obtain ⟨i1, i2⟩ := ddel_map (k := k) r2
    unfold dropK at i1 i2 ⊢
    by_cases c : k' = k
    · have e1 : decide (k' ≠ k) = false := by simp [c]
      rw [List.filter_cons_of_neg (by simp [c]), List.map_cons, List.filter_cons_of_neg (by simp [c])]
      refine ⟨i1, ?_⟩
      unfold ddelV
      rw [if_pos c]
      exact i2
    · rw [List.filter_cons_of_pos (by simp [c]), List.map_cons, List.map_cons, List.map_cons, List.filter_cons_of_pos (by simp [c])]
      refine ⟨by rw [i1], ?_⟩
      unfold ddelV
      rw [if_neg c]
      exact Reps.cons r1 i2
end
def onOwn (ρ : List Cell) (i : Nat) (F : D → Prop) : Prop := match ρ[i]? with
  | some (.own d) => F d
  | _ => False
theorem onOwn_get {ρ : List Cell} {i : Nat} {F : D → Prop} (q : onOwn ρ i F) : ∃ d, ρ[i]? = some (.own d) ∧ F d := by
  unfold onOwn at q
  split at q
  · rename_i d e
    exact ⟨d, e, q⟩
  · exact q.elim
def qPut (i : Nat) (a b : RE) : RS := fun D ρ h => onOwn ρ i fun d => a (D.at ρ) ρ h fun x h1 => b (D.at ρ) ρ h1 fun j h2 => setD d j x fun d' => D.nx (ρ.set i (.own d')) h2
def onPtr (h : PHp) (F : Addr → D → Prop) : D → Prop
  | .ptr p => match h p with
    | some d => F p d
    | none => False
  | _ => False
def qPutP (a b c : RE) : RS := fun D ρ h => a (D.at ρ) ρ h fun x h1 => c (D.at ρ) ρ h1 fun t h2 => b (D.at ρ) ρ h2 fun j h3 => onPtr h3 (fun p d => setD d j x fun d' => D.nx ρ (pset h3 p d')) t
def qDelP (b c : RE) : RS := fun D ρ h => c (D.at ρ) ρ h fun t h1 => b (D.at ρ) ρ h1 fun j h2 => onPtr h2 (fun p d => delD d j fun d' => D.nx ρ (pset h2 p d')) t
theorem onPtr_get {h : PHp} {F : Addr → D → Prop} {t : D} (q : onPtr h F t) : ∃ p d, t = .ptr p ∧ h p = some d ∧ F p d := by
  unfold onPtr at q
  split at q
  · rename_i p
    split at q
    · rename_i d e
      exact ⟨p, d, rfl, e, q⟩
    · exact q.elim
  · exact q.elim
def rSetA : TSet := fun o i v H Q => rSetL o i v H Q ∨ rSetD o i v H Q
section
variable {X : Cx} {W : WX} {a b c : Expr} {qa qb qc : RE} {pos p pos' : Pos} {x : Str}
theorem set_all (hu : X.A.units + 1 < cLine) : PSet X rSetA := by
  intro pins s σ H o i v ov iv u Q I ro ri rv h
  rcases h with h | h
  · exact set_list pins s σ H o i v ov iv u Q I ro ri rv h
  · exact set_dict hu pins s σ H o i v ov iv u Q I ro ri rv h
theorem setD_run {g : Gm} {O : Addr → Prop} {H : Hp} {p : Addr} {d y x : D} {iv v : V} {Q : D → Prop} {R : Hp → Prop} (hO : g.A O p) (ho : Own X.K g.so (g.A O) H d p) (ry : Rep X.K g.so (g.A O) H y iv) (rx : Rep X.K g.so (g.A O) H x v)
    (q : setD d y x Q) (k : ∀ d' o, Own X.K g.so (g.A O) (upd H p o) d' p → Q d' → R (upd H p o)) : rSetA (.ref p) iv v H R := by
  have kp : ∀ o, Kp (g.A O) (g.A O) H (upd H p o) := fun o => Kp.unseen hO
  unfold setD at q
  split at q
  · obtain ⟨j, hj, q⟩ := q
    obtain ⟨us, h1, r⟩ := ho
    refine .inl ⟨p, us, _, j, rfl, ry.k.int, h1, by rw [r.length]; exact hj, k _ (.lst (us.set j v)) (show Own X.K g.so (g.A O) _ (.lst _) p from ⟨_, upd_same, Reps.kp (kp _) _ _ (r.set j rx)⟩) q⟩
  · obtain ⟨kk, hk, hl, q⟩ := q
    obtain ⟨us, h1, rfl, r⟩ := ho
    refine .inr ⟨p, _, rfl, ?_, k _ (.dK (putK us kk v)) (dput_own (Reps.kp (kp _) _ _ r) (Rep.kp (kp _) _ _ rx) upd_same) q⟩
    rw [key_v hk ry.k]
    exact DPut.k h1 (by rw [List.length_map] at hl; exact hl)
  · exact q.elim
theorem qs_put (i : Nat) (hu : X.A.units + 1 < cLine) (ha : QE X W a qa) (hb : QE X W b qb) (hi : X.N[i]? = some x := by rfl) (hv : Vis X.env.scope x := by first | exact Or.inl rfl | exact Or.inr (Or.inl rfl) | exact Or.inr (Or.inr rfl)) (hd : (x == ("__debug__" : Str)) = false := by decide)
    (hcd : (x == ("__classdict__" : Str)) = false := by decide)
    (has : ∀ v, assign (.Subscript (.Name x p) b pos') X.env v = (do
      let ov ← holding [v] (eval (.Name x p) X.env)
      let iv ← holding [v, ov] (eval b X.env)
      standAt pos'
      holding [v, ov, iv] (setItem ov iv v)
      release [v, ov, iv] []) := by intro _; rfl)
    (hs : swapsWithSole [.Subscript (.Name x p) b pos'] a pos.line X.env = pure false := by rfl) (hw : swappedStores [.Subscript (.Name x p) b pos'] a X.env = pure none := by rfl)
    (h1' : (assignEach [.Subscript (.Name x p) b pos'] X.env).map (·.2) = [assign (.Subscript (.Name x p) b pos') X.env] := by rfl) :
    QS X W (.Assign [.Subscript (.Name x p) b pos'] a pos) (qPut i qa qb) := by
  obtain ⟨ta, ha1, ha2⟩ := ha
  obtain ⟨tb, hb1, hb2⟩ := hb
  refine ⟨_, ps_asg ha1 (pg_sub (pe_var hi hv hd hcd) hb1 (set_all hu) has) hs hw h1', fun g O H σ ρ h D D' E o ed q => ?_⟩
  obtain ⟨d0, e0, q⟩ := onOwn_get q
  refine ha2 g O H σ ρ h _ _ _ E (o σ ρ) q fun d v O1 H1 h1 E1 n1 r1 q1 => ?_
  obtain ⟨w, ew, cw⟩ := E1.getO e0
  refine ⟨.ref w, ew, ?_⟩
  refine hb2 g O1 H1 σ ρ h1 _ _ _ E1 (o σ ρ) q1 fun j iv O2 H2 h2 E2 n2 r2 q2 => ?_
  obtain ⟨w', ew', cw'⟩ := E2.getO e0
  rw [ew] at ew'
  cases ew'
  exact setD_run (.inr cw'.o) cw'.own r2 (n2.rep r1) q2 fun d' o' ho q3 => ed.nx O2 _ σ _ h2 (E2.setO e0 ew ho) q3
theorem qs_putP (hu : X.A.units + 1 < cLine) (ha : QE X W a qa) (hb : QE X W b qb) (hc : QE X W c qc)
    (has : ∀ v, assign (.Subscript c b pos') X.env v = (do
      let ov ← holding [v] (eval c X.env)
      let iv ← holding [v, ov] (eval b X.env)
      standAt pos'
      holding [v, ov, iv] (setItem ov iv v)
      release [v, ov, iv] []) := by intro _; rfl)
    (hs : swapsWithSole [.Subscript c b pos'] a pos.line X.env = pure false := by rfl) (hw : swappedStores [.Subscript c b pos'] a X.env = pure none := by rfl)
    (h1' : (assignEach [.Subscript c b pos'] X.env).map (·.2) = [assign (.Subscript c b pos') X.env] := by rfl) :
    QS X W (.Assign [.Subscript c b pos'] a pos) (qPutP qa qb qc) := by
  obtain ⟨ta, ha1, ha2⟩ := ha
  obtain ⟨tb, hb1, hb2⟩ := hb
  obtain ⟨tc, hc1, hc2⟩ := hc
  refine ⟨_, ps_asg ha1 (pg_sub hc1 hb1 (set_all hu) has) hs hw h1', fun g O H σ ρ h D D' E o ed q => ?_⟩
  refine ha2 g O H σ ρ h _ _ _ E (o σ ρ) q fun d v O1 H1 h1 E1 n1 r1 q1 => ?_
  refine hc2 g O1 H1 σ ρ h1 _ _ _ E1 (o σ ρ) q1 fun t w O2 H2 h2 E2 n2 r2 q2 => ?_
  refine hb2 g O2 H2 σ ρ h2 _ _ _ E2 (o σ ρ) q2 fun j iv O3 H3 h3 E3 n3 r3 q3 => ?_
  obtain ⟨p, d0, rfl, hp, q4⟩ := onPtr_get q3
  have e : w = .ref p := by
    unfold Rep at r2
    exact r2
  subst e
  exact setD_run (.inr (E3.hp p d0 hp).1) (E3.hp p d0 hp).2 r3 ((n2.trans n3).rep r1) q4 fun d' o' ho q5 => ed.nx O3 _ σ ρ _ (E3.setH hp ho) q5
theorem qs_delP (hb : QE X W b qb) (hc : QE X W c qc) : QS X W (.Delete [.Subscript c b pos'] pos) (qDelP qb qc) := by
  obtain ⟨tb, hb1, hb2⟩ := hb
  obtain ⟨tc, hc1, hc2⟩ := hc
  refine ⟨_, ps_ddel hc1 hb1, fun g O H σ ρ h D D' E o ed q => ?_⟩
  refine hc2 g O H σ ρ h _ _ _ E (o σ ρ) q fun t w O2 H2 h2 E2 n2 r2 q2 => ?_
  refine hb2 g O2 H2 σ ρ h2 _ _ _ E2 (o σ ρ) q2 fun j iv O3 H3 h3 E3 n3 r3 q3 => ?_
  obtain ⟨p, d0, rfl, hp, q4⟩ := onPtr_get q3
  have e : w = .ref p := by
    unfold Rep at r2
    exact r2
  subst e
  unfold delD at q4
  split at q4
  · rename_i ks vs
    obtain ⟨k, hk, hl, q4⟩ := q4
    obtain ⟨hO, us, h1, rfl, r⟩ := E3.hp p _ hp
    rcases dlook_v k r with ⟨z1, z2⟩ | ⟨d', w, z1, z2, rw'⟩
    · rw [z1] at hl; cases hl
    · refine ⟨p, us, k, rfl, h1, key_v hk r3.k, by rw [z2]; rfl, ?_⟩
      refine ed.nx O3 _ σ ρ _ (E3.setH hp (d' := ddel (us.map (·.1)) vs k) ?_) q4
      obtain ⟨i1, i2⟩ := ddel_map (k := k) r
      exact ⟨_, upd_same, i1, Reps.kp (Kp.unseen (.inr hO)) _ _ i2⟩
  · exact q4.elim
theorem qn_dic0 : QN X W (.Dict [] [] pos) (qC (.dic [] [])) := ⟨_, pe_dnewK, fun g O H σ ρ h Ex Q P E o hq k p hp => by
  obtain ⟨E1, n1, nc, hf⟩ := E.take (o := .dK []) hp
  exact k _ p _ _ h E1 n1 hp ⟨.inr rfl, hf, show Own X.K g.so _ _ (.dic [] []) p from ⟨[], upd_same, rfl, Reps.nil⟩⟩ nc hq⟩
/-! ### isinstance -/
def tyD : D → Option String
  | .non => some "NoneType"
  | .bl _ => some "bool"
  | .int _ => some "int"
  | .str _ => some "str"
  | .lst _ => some "list"
  | .tup _ => some "tuple"
  | .dic _ _ => some "dict"
  | _ => none
def isiS (n c : String) : Bool := n == c || (n == "bool" && c == "int")
def isiD (cs : List String) : D → (D → Prop) → Prop := fun x Q => match tyD x with
  | some n => Q (.bl (cs.any fun c => isiS n c))
  | none => False
theorem kitB_all : ∀ n ∈ ["NoneType", "bool", "int", "str", "list", "tuple", "dict"], ∀ c ∈ ["bool", "int", "str", "list", "tuple", "dict"], kitB n c = some (isiS n c) := by decide +kernel
theorem boot_all : ∀ c ∈ ["bool", "int", "str", "list", "tuple", "dict"], bootBuiltins (Str.ofString c) = some (.type c) := by decide +kernel
theorem tyD_in {x : D} {n : String} (h : tyD x = some n) : n ∈ ["NoneType", "bool", "int", "str", "list", "tuple", "dict"] := by
  cases x <;> first | (cases h; decide) | cases h
theorem tyD_v {K : PySem.W.Frag} {so : Option Sto} {A : Addr → Prop} {H : Hp} {x : D} {u : V} {n : String} (h : tyD x = some n) (r : RepK K so A H x u) : TyX K H u (.type n) := by
  cases x with
  | non => cases h; rw [r.non]; exact .base .non
  | bl b => cases h; rw [r.bl]; exact .base (.bl b)
  | int i => cases h; rw [r.int]; exact .base (.int i)
  | str i => cases h; rw [r.str]; exact .base (.str i)
  | lst xs => cases h; obtain ⟨a, us, rfl, h1, _⟩ := r.lst; exact .base (.lst h1)
  | tup xs =>
    cases h
    obtain ⟨a, us, rfl, h1, _⟩ := r.tup
    rcases h1 with (h1 | ⟨o, h1⟩) | ⟨o, its, n, h1, h2, _⟩
    · exact .base (.tup h1)
    · exact .fTuple h1
    · exact .kTuple h1 h2
  | dic ks vs => cases h; obtain ⟨a, us, rfl, h1, _⟩ := r.dic; exact .base (.dK h1)
  | _ => cases h
theorem kit2 {K : PySem.W.Frag} {n c c2 : Value} {b1 b2 : Bool} (e1 : PySem.W.kitOne K n c = some b1) (e2 : PySem.W.kitOne K n c2 = some b2) : PySem.W.kitAny K n [c, c2] = some (b1 || b2) := by
  unfold PySem.W.kitAny
  rw [e1]
  cases b1 with
  | true => rfl
  | false =>
    show PySem.W.kitAny K n [c2] = some b2
    unfold PySem.W.kitAny
    rw [e2]
    cases b2 <;> rfl
theorem qe_isi1 (c : String) (hm : X.mg "isinstance" = none) (hmc : X.mg (Str.ofString c) = none) (ha : QK X W a qa) {pc : Pos} (hc : c ∈ ["bool", "int", "str", "list", "tuple", "dict"] := by decide) (hg : Gl X "isinstance" := by rfl) (hgc : Gl X (Str.ofString c) := by rfl)
    (hn : Str.ofString c ≠ "__name__" := by decide) (hd : (Str.ofString c == ("__debug__" : Str)) = false := by decide)
    (h1 : starEach [a, .Name (Str.ofString c) pc] X.env = (false, eval a X.env) :: starEach [.Name (Str.ofString c) pc] X.env := by rfl) (h2 : starEach [.Name (Str.ofString c) pc] X.env = (false, eval (.Name (Str.ofString c) pc) X.env) :: starEach [] X.env := by rfl)
    (hpl : (backTo pos (starEach [.Name (Str.ofString c) pc] X.env)).any (·.1) = false := by rfl) :
    QE X W (.Call (.Name "isinstance" p) [a, .Name (Str.ofString c) pc] [] pos) (qUn (isiD [c]) qa) := by
  obtain ⟨ta, ha1, ha2⟩ := ha
  refine ⟨_, pe_callB call_isi hg hm PyProof.Rows.boot_isinstance (pa_cons ha1 (pa_cons (pe_bltn (v := .ty c) hgc hmc (boot_all c hc) rfl hn hd) pa_nil h2) h1) (by decide) (by decide) h1 hpl, fun g O H σ ρ h Ex Q P E o hq kk => ha2 g O H σ ρ h Ex _ _ E o hq fun d v O' H' h' E' n rr q => ?_⟩
  have r := E'.deref rr
  generalize deref h' d = d at q r
  unfold isiD at q
  split at q
  · rename_i n' e
    rw [show ([c].any fun c => isiS n' c) = isiS n' c by simp] at q
    exact ⟨v, .ty c, _, _, _, rfl, .ty c, tyD_v e r, kit_ty (kitB_all n' (tyD_in e) c hc), kk _ _ O' H' h' E' n Rep.bl q⟩
  · exact q.elim
theorem qe_isi2 (c c2 : String) (hm : X.mg "isinstance" = none) (hmc : X.mg (Str.ofString c) = none) (hmc2 : X.mg (Str.ofString c2) = none) (ha : QK X W a qa) {pc pc2 tp : Pos} {j : Nat} (hc : c ∈ ["bool", "int", "str", "list", "tuple", "dict"] := by decide) (hc2 : c2 ∈ ["bool", "int", "str", "list", "tuple", "dict"] := by decide) (hg : Gl X "isinstance" := by rfl) (hgc : Gl X (Str.ofString c) := by rfl) (hgc2 : Gl X (Str.ofString c2) := by rfl)
    (hn : Str.ofString c ≠ "__name__" := by decide) (hd : (Str.ofString c == ("__debug__" : Str)) = false := by decide) (hn2 : Str.ofString c2 ≠ "__name__" := by decide) (hd2 : (Str.ofString c2 == ("__debug__" : Str)) = false := by decide)
    (h1 : starEach [a, .Tuple [.Name (Str.ofString c) pc, .Name (Str.ofString c2) pc2] j tp] X.env = (false, eval a X.env) :: starEach [.Tuple [.Name (Str.ofString c) pc, .Name (Str.ofString c2) pc2] j tp] X.env := by rfl) (h2 : starEach [.Tuple [.Name (Str.ofString c) pc, .Name (Str.ofString c2) pc2] j tp] X.env = (false, eval (.Tuple [.Name (Str.ofString c) pc, .Name (Str.ofString c2) pc2] j tp) X.env) :: starEach [] X.env := by rfl)
    (h3 : starEach [.Name (Str.ofString c) pc, .Name (Str.ofString c2) pc2] X.env = (false, eval (.Name (Str.ofString c) pc) X.env) :: starEach [.Name (Str.ofString c2) pc2] X.env := by rfl) (h4 : starEach [.Name (Str.ofString c2) pc2] X.env = (false, eval (.Name (Str.ofString c2) pc2) X.env) :: starEach [] X.env := by rfl)
    (hpl : (backTo pos (starEach [.Tuple [.Name (Str.ofString c) pc, .Name (Str.ofString c2) pc2] j tp] X.env)).any (·.1) = false := by rfl) :
    QE X W (.Call (.Name "isinstance" p) [a, .Tuple [.Name (Str.ofString c) pc, .Name (Str.ofString c2) pc2] j tp] [] pos) (qUn (isiD [c, c2]) qa) := by
  obtain ⟨ta, ha1, ha2⟩ := ha
  refine ⟨_, pe_callB call_isiT hg hm PyProof.Rows.boot_isinstance (pa_cons ha1 (pa_cons (pe_tup (pa_cons (pe_bltn (v := .ty c) hgc hmc (boot_all c hc) rfl hn hd) (pa_cons (pe_bltn (v := .ty c2) hgc2 hmc2 (boot_all c2 hc2) rfl hn2 hd2) pa_nil h4) h3)) pa_nil h2) h1) (by decide) (by decide) h1 hpl, fun g O H σ ρ h Ex Q P E o hq kk => ha2 g O H σ ρ h Ex _ _ E o hq fun d v O' H' h' E' n rr q => ?_⟩
  refine ⟨by show 2 ≤ sizeLine; rw [sizeLine_eq]; omega, fun w hw => ?_⟩
  obtain ⟨E2, n2⟩ := E'.new (o := .tup [.ty c, .ty c2]) hw
  have r := E2.deref (n2.repv rr)
  generalize deref h' d = d at q r
  unfold isiD at q
  split at q
  · rename_i n' e
    have key := kit2 (kit_ty (K := X.K) (kitB_all n' (tyD_in e) c hc)) (kit_ty (K := X.K) (kitB_all n' (tyD_in e) c2 hc2))
    rw [show ([c, c2].any fun c => isiS n' c) = (isiS n' c || isiS n' c2) by simp only [List.any_cons, List.any_nil, Bool.or_false]] at q
    exact ⟨v, w, _, _, _, _, rfl, upd_same, .cons (.ty c) (.cons (.ty c2) .nil), tyD_v e r, key, kk _ _ O' _ h' E2 (n.trans n2) Rep.bl q⟩
  · exact q.elim
end
end Pu
set_option Elab.async false
set_option linter.all false
set_option maxRecDepth 100000
set_option maxHeartbeats 4000000
set_option autoImplicit false
/-! f-strings; or, and of any values. -/
namespace Pu
open PySem PySem.Calls PySem.Spec PyProof.Rows L2
def pad5 (a : Int) : Str := ⟨(List.replicate (5 - (Nat.toDigits 10 a.natAbs).length) 48 ++ (Nat.toDigits 10 a.natAbs).map Char.toNat).toArray⟩
open PySem.Builtin PySem.Builtin.Float in
theorem spec5 : ∃ f, parseFormatSpec (Str.ofString "05d").cps.toList "int" 62 = .ok f ∧ f.fill = 48 ∧ f.align = 61 ∧ f.width = some 5 ∧ f.type = some 100 ∧ f.precision = none ∧ f.noNeg0 = false ∧ f.alt = false ∧ f.grouping = none ∧ f.sign = none := ⟨_, rfl, rfl, rfl, rfl, rfl, rfl, rfl, rfl, rfl, rfl⟩
theorem log_small {a : Int} (h0 : 0 ≤ a) (h1 : a < 100000) : a.natAbs.log2 < 1920 := by
  by_cases hz : a.natAbs = 0
  · rw [hz]; decide
  · rw [Nat.log2_lt hz]
    exact Nat.lt_of_lt_of_le (show a.natAbs < 2 ^ 17 by omega) (Nat.pow_le_pow_right (by decide) (by decide))
theorem pad5_of {f : PySem.Builtin.Float.FormatSpec} {a : Int} (h0 : 0 ≤ a) (h1 : f.fill = 48) (h2 : f.align = 61) (h3 : f.width = some 5) (h4 : f.grouping = none) (h5 : f.sign = none) :
    intField' f (decide (a < 0)) [] ((Nat.toDigits 10 a.natAbs).map fun c => (if (100 : Nat) == 88 then c.toUpper else c).toNat) [] 3 = pad5 a := by
  have hneg : decide (a < 0) = false := decide_eq_false (by omega)
  have hd : ((Nat.toDigits 10 a.natAbs).map fun c => (if (100 : Nat) == 88 then c.toUpper else c).toNat).isEmpty = false := by
    have := tDigits_len_ge 10 a.natAbs
    cases h : Nat.toDigits 10 a.natAbs with
    | nil => rw [h] at this; simp at this
    | cons _ _ => rfl
  rw [hneg, intField'_zero_nonneg _ _ 3 h4 h5 hd h1 h2, List.length_map, h3]
  rfl
open PySem.Builtin PySem.Builtin.Float in
theorem gives_fmt5 (a : Int) (t u : Tok) (h0 : 0 ≤ a) (h1 : a < 100000) : Gives («int.__format__» ⟨[.int a t, .str (Str.ofString "05d") u], []⟩) (.str (pad5 a)) := by
  have hlog := log_small h0 h1
  obtain ⟨f, hp, f1, f2, f3, f4, f5, f6, f7, f8, f9⟩ := spec5
  have e := pad5_of h0 f1 f2 f3 f8 f9
  unfold «int.__format__»
  refine gives_after_typeNameOf (T := "str") (fun s => typeIs_str s _ _) (by decide) fun _ => ?_
  intro prog w A R s hq
  refine wpAny_bind (wpAny_of_eq (a := some (Str.ofString "05d")) rfl ?_)
  show wpAny _ _ (typeNameOfCut 200 (.int a t) >>= _) _ _ _
  refine wpAny_bind (wpAny_typeNameOfCut_int ?_)
  simp only [hp, f4]
  rw [if_pos (by decide)]
  show wpAny _ _ (if _ then _ else _) _ _ _
  rw [if_neg (by simp [f5])]
  show wpAny _ _ (if _ then _ else _) _ _ _
  rw [if_neg (by simp [f6])]
  show wpAny _ _ (if _ then _ else _) _ _ _
  rw [if_neg (by decide)]
  show wpAny _ _ (overDigitLimit? a >>= _) _ _ _
  rw [PySem.overDigitLimit_small hlog]
  show wpAny _ _ (if _ then _ else _) _ _ _
  rw [if_neg (by simp [f3])]
  simp only [f7]
  obtain ⟨fl, al, sg, nn, at_, wd, gr, pr, ty⟩ := f
  dsimp only at f1 f2 f3 f4 f5 f6 f7 f8 f9
  subst f1 f2 f3 f4 f5 f6 f7 f8 f9
  refine (congrArg (fun z => wpAny (model prog w) A.in1 (retStr z) (fun fin s' => match fin with
      | Fin.done f => R (Except.ok f) s'
      | Fin.again c' => c'.quiet = true ∧ codeAny (model prog w) A c' R s') (fun e s' => R (.error e) s') s) (?_ : _ = pad5 a)).mpr ?_
  · refine Eq.trans ?_ e
    with_unfolding_all rfl
  exact Gives.of_eq (m := .str (pad5 a)) rfl prog w A R s hq
theorem pad5_len (a : Int) (h1 : a < 100000) (h0 : 0 ≤ a) : (pad5 a).length = 5 := by
  show ((List.replicate (5 - (Nat.toDigits 10 a.natAbs).length) 48 ++ (Nat.toDigits 10 a.natAbs).map Char.toNat).toArray).size = 5
  have := digits10_le (k := 5) (n := a.natAbs) (by omega) (by omega)
  simp
  omega
section
variable {prog : Program} {w : World} {A : Around} {E : Value → Shared → Prop} {s : Shared}
theorem fmt5 {a : Int} {t : Tok} {Q : Value → Shared → Prop} (h0 : 0 ≤ a) (h1 : a < 100000) (h : Q (.str (pad5 a) (s.toks + 1)) { s with toks := s.toks + 1 + 1 }) :
    wpAny (model prog w) A (formatField (.int a t) (Str.ofString "05d")) Q E s :=
  wpAny_formatField_spec (by decide) (fun s' => typeIs_int s' a t) PySem.F.slot_int_format PySem.F.entry_int_format PySem.F.args_int_format_2 (fun u => gives_fmt5 a t u h0 h1) h (by decide) (by rw [pad5_len a h1 h0, sizeLine_eq]; omega)
end
section
variable {X : Cx} {W : WX} {a b c : Expr} {qa qb qc : RE} {pos p : Pos} {x : Str}
/-! ### f-strings -/
def fmtD : D → (D → Prop) → Prop
  | .str y, Q => y.length ≤ sizeLine ∧ Q (.str y)
  | .int i, Q => i.natAbs.log2 < 1920 ∧ Q (.str (toString i))
  | _, _ => False
theorem qe_fmt (ha : QE X W a qa) : QE X W (.FormattedValue a (-1) none pos) (qUn fmtD qa) := by
  obtain ⟨ta, ha1, ha2⟩ := ha
  refine ⟨_, pe_fmt ha1, fun g O H σ ρ h Ex Q P E o hq kk => ha2 g O H σ ρ h Ex _ _ E o hq fun d v O' H' h' E' n rr q => ?_⟩
  have r := E'.deref rr.v
  generalize deref h' d = d at q r
  unfold fmtD at q
  split at q
  · exact .inl ⟨_, r.str, q.1, kk _ _ O' H' h' E' n Rep.str q.2⟩
  · exact .inr ⟨_, r.int, q.1, kk _ _ O' H' h' E' n Rep.str q.2⟩
  · exact q.elim
def tFmt5 (te : TE) : TE := fun σ H Q => te σ H fun x H1 => ∃ i : Int, x = .int i ∧ 0 ≤ i ∧ i < 100000 ∧ Q (.str (pad5 i)) H1
theorem pe_fmt5 {e : Expr} {te : TE} {j : Nat} {p1 p2 : Pos} (he : PE X e te) : PE X (.FormattedValue e (-1) (some (.JoinedStr [.Constant (.str "05d") j p1] p2)) pos) (tFmt5 te) := by
  refine ⟨fun pins s σ H Q I h => ?_⟩
  refine wpAny_FormattedValue_spec (thn (he.run pins s σ H _ I h) fun v s1 hv => ?_)
  obtain ⟨x, H1, I1, r1, i, rfl, h0, h1, q⟩ := hv
  obtain ⟨t, rfl⟩ := r1
  refine thn ((pe_joined1 (X := X) (pos := p2) (pe_str (X := X) (x := "05d") (j := j) (pos := p1))).run pins s1 σ H1 (fun y H2 => y = .str "05d" ∧ H2 = H1) I1 ⟨rfl, rfl⟩) fun u s2 hu => ?_
  obtain ⟨y, H2, I2, r2, rfl, rfl⟩ := hu
  obtain ⟨t2, rfl⟩ := r2
  exact ⟨_, t2, rfl, fmt5 h0 h1 ⟨.str (pad5 i), _, I2.tok _, ⟨_, rfl⟩, q⟩⟩
def fmt5D : D → (D → Prop) → Prop
  | .int i, Q => 0 ≤ i ∧ i < 100000 ∧ Q (.str (pad5 i))
  | _, _ => False
theorem qe_fmt5 {j : Nat} {p1 p2 : Pos} (ha : QE X W a qa) : QE X W (.FormattedValue a (-1) (some (.JoinedStr [.Constant (.str "05d") j p1] p2)) pos) (qUn fmt5D qa) := by
  obtain ⟨ta, ha1, ha2⟩ := ha
  refine ⟨_, pe_fmt5 ha1, fun g O H σ ρ h Ex Q P E o hq kk => ha2 g O H σ ρ h Ex _ _ E o hq fun d v O' H' h' E' n rr q => ?_⟩
  have r := E'.deref rr.v
  generalize deref h' d = d at q r
  unfold fmt5D at q
  split at q
  · exact ⟨_, r.int, q.1, q.2.1, kk _ _ O' H' h' E' n Rep.str q.2.2⟩
  · exact q.elim
/-- the parts, one behind the other -/
abbrev RJ := Str → XP → List Cell → PHp → (Str → PHp → Prop) → Prop
def qjNil : RJ := fun acc _ _ h Q => Q acc h
def qjCons (a : RE) (r : RJ) : RJ := fun acc Ex ρ h Q => a Ex ρ h fun x h1 => ∃ y, x = .str y ∧ (acc ++ y).length ≤ sizeLine ∧ r (acc ++ y) Ex ρ h1 Q
def qJoined (r : RJ) : RE := fun Ex ρ h Q => r Str.empty Ex ρ h fun y h1 => Q (.str y) h1
def QJ (X : Cx) (W : WX) (es : List Expr) (q : RJ) : Prop := ∃ ts, PJ X es ts ∧ ∀ (g : Gm) O H σ ρ h Ex acc Q P, EnvR X.K g O H σ ρ h → OkE X.K g W Ex σ ρ → q acc Ex ρ h Q →
  (∀ d O' H' h', EnvR X.K g O' H' σ ρ h' → Nx g O h H O' h' H' → Q d h' → P d H') → tJs ts acc σ H P
theorem qj_nil : QJ X W [] qjNil := ⟨_, .nil, fun g O H σ ρ h Ex acc Q P E o q k => k acc O H h E Nx.refl q⟩
theorem qj_cons {es : List Expr} {r : RJ} (ha : QE X W a qa) (hr : QJ X W es r) : QJ X W (a :: es) (qjCons qa r) := by
  obtain ⟨ta, ha1, ha2⟩ := ha
  obtain ⟨tr, hr1, hr2⟩ := hr
  refine ⟨_, .cons ha1 hr1, fun g O H σ ρ h Ex acc Q P E o q k => ha2 g O H σ ρ h Ex _ _ E o q fun d v O1 H1 h1 E1 n1 r1 q1 => ?_⟩
  obtain ⟨y, rfl, hy, q2⟩ := q1
  exact ⟨y, r1.k.str, hy, hr2 g O1 H1 σ ρ h1 Ex _ Q P E1 o q2 fun d O' H' h' E' n q => k d O' H' h' E' (n1.trans n) q⟩
theorem qe_joined {e1 e2 : Expr} {rest : List Expr} {r : RJ} (h : QJ X W (e1 :: e2 :: rest) r) : QE X W (.JoinedStr (e1 :: e2 :: rest) pos) (qJoined r) := by
  obtain ⟨ts, h1, h2⟩ := h
  exact ⟨_, pe_joined h1, fun g O H σ ρ h Ex Q P E o q k => h2 g O H σ ρ h Ex _ _ _ E o q fun d O' H' h' E' n q => k _ _ O' H' h' E' n Rep.str q⟩
/-! ### or, and of any values -/
def truD : D → Option Bool
  | .non => some false
  | .bl b => some b
  | .int i => some (i != 0)
  | .str x => some ((x.length : Int) != 0)
  | .lst xs => some (!xs.isEmpty)
  | .tup xs => some (!xs.isEmpty)
  | .dic ks _ => some (!ks.isEmpty)
  | _ => none
def onTru (h : PHp) (d : D) (F : Bool → Prop) : Prop := match deref h d with
  | .str x => x.length ≤ sizeLine ∧ F ((x.length : Int) != 0)
  | d' => match truD d' with
    | some b => F b
    | none => False
def qOrT (a b : RE) : RE := fun Ex ρ h Q => a Ex ρ h fun x h1 => onTru h1 x fun k => if k = true then Q x h1 else b Ex ρ h1 Q
def qAndT (a b : RE) : RE := fun Ex ρ h Q => a Ex ρ h fun x h1 => onTru h1 x fun k => if k = true then b Ex ρ h1 Q else Q x h1
theorem isEmpty_rep {K : PySem.W.Frag} {so : Option Sto} {A : Addr → Prop} {H : Hp} {xs : List D} {us : List V} (r : Reps K so A H xs us) : us.isEmpty = xs.isEmpty := by
  have := r.length
  cases us <;> cases xs <;> first | rfl | cases this
theorem onTru_v {K : PySem.W.Frag} {g : Gm} {O : Addr → Prop} {H : Hp} {σ : L2.St} {ρ : List Cell} {h : PHp} (E : EnvR K g O H σ ρ h) {d : D} {v : V} {F : Bool → Prop} (r : RepV K g O H h d v) (q : onTru h d F) : ∃ k, TruV K v H k ∧ F k := by
  have r := E.deref r
  unfold onTru at q
  generalize deref h d = d at q r
  cases d with
  | non => rw [r.non]; exact ⟨_, rfl, q⟩
  | bl b => rw [r.bl]; exact ⟨_, rfl, q⟩
  | int i => rw [r.int]; exact ⟨_, rfl, q⟩
  | str i => rw [r.str]; exact ⟨_, ⟨q.1, rfl⟩, q.2⟩
  | lst xs =>
    obtain ⟨a, us, rfl, h1, rr⟩ := r.lst
    exact ⟨_, .inl ⟨us, SqL.of h1, rfl⟩, by rw [isEmpty_rep rr]; exact q⟩
  | tup xs =>
    obtain ⟨a, us, rfl, h1, rr⟩ := r.tup
    exact ⟨_, .inr (.inl ⟨us, h1, rfl⟩), by rw [isEmpty_rep rr]; exact q⟩
  | dic ks vs =>
    obtain ⟨a, us, rfl, h1, rfl, rr⟩ := r.dic
    refine ⟨_, .inr (.inr ⟨us, h1, rfl⟩), ?_⟩
    rw [show (!us.isEmpty) = !(us.map (·.1)).isEmpty by cases us <;> rfl]
    exact q
  | _ => exact q.elim
theorem qe_orT {rest : List Expr} (ha : QE X W a qa) (hb : QE X W (.BoolOp .Or (b :: rest) pos) qb) : QE X W (.BoolOp .Or (a :: b :: rest) pos) (qOrT qa qb) := by
  obtain ⟨ta, ha1, ha2⟩ := ha
  obtain ⟨tb, hb1, hb2⟩ := hb
  refine ⟨_, pe_orT ha1 hb1, fun g O H σ ρ h Ex Q P E o hq k => ha2 g O H σ ρ h Ex _ _ E o hq fun d v O' H' h' E' n r q => ?_⟩
  obtain ⟨z, ev, q⟩ := onTru_v E' r.v q
  refine ⟨z, ev, ?_⟩
  cases z with
  | true => exact k _ _ O' H' h' E' n r q
  | false => exact hb2 g O' H' σ ρ h' Ex Q P E' o q fun b v O2 H2 h2 E2 n' => k b v O2 H2 h2 E2 (n.trans n')
theorem qe_andT {rest : List Expr} (ha : QE X W a qa) (hb : QE X W (.BoolOp .And (b :: rest) pos) qb) : QE X W (.BoolOp .And (a :: b :: rest) pos) (qAndT qa qb) := by
  obtain ⟨ta, ha1, ha2⟩ := ha
  obtain ⟨tb, hb1, hb2⟩ := hb
  refine ⟨_, pe_andT ha1 hb1, fun g O H σ ρ h Ex Q P E o hq k => ha2 g O H σ ρ h Ex _ _ E o hq fun d v O' H' h' E' n r q => ?_⟩
  obtain ⟨z, ev, q⟩ := onTru_v E' r.v q
  refine ⟨z, ev, ?_⟩
  cases z with
  | true => exact hb2 g O' H' σ ρ h' Ex Q P E' o q fun b v O2 H2 h2 E2 n' => k b v O2 H2 h2 E2 (n.trans n')
  | false => exact k _ _ O' H' h' E' n r q
end
end Pu
set_option Elab.async false
set_option linter.all false
set_option maxRecDepth 100000
set_option maxHeartbeats 4000000
set_option autoImplicit false
/-! Objects of own classes: attributes, properties, methods, making. -/
namespace Pu
open PySem PySem.Spec PyProof.Rows L2
def flook : List Str → List D → Str → Option D
  | k :: ks, v :: vs, q => if q = k then some v else flook ks vs q
  | _, _, _ => none
def fputV : List Str → List D → Str → D → List D
  | k :: ks, v :: vs, q, x => if k = q then x :: vs else v :: fputV ks vs q x
  | _, _, _, x => [x]
def fputK : List Str → Str → List Str
  | k :: ks, q => if k = q then k :: ks else k :: fputK ks q
  | [], q => [q]
section
variable {K : PySem.W.Frag} {so : Option Sto} {A : Addr → Prop} {H : Hp}
theorem flook_v (q : Str) : ∀ {us : List (Str × V)} {vs : List D} {d : D}, Reps K so A H vs (us.map (·.2)) → flook (us.map (·.1)) vs q = some d → ∃ v, us.lookup q = some v ∧ Rep K so A H d v
  | [], vs, d, r, h => by cases h
  | (k, u) :: us, [], d, r, h => by cases h
  | (k, u) :: us, v :: vs, d, r, h => by
    unfold Reps at r
    obtain ⟨u', rs, e, r1, r2⟩ := r
    rw [List.map_cons] at e
    obtain ⟨rfl, rfl⟩ := List.cons.inj e
    rw [List.map_cons] at h
    unfold flook at h
    by_cases c : q = k
    · rw [if_pos c] at h
      cases h
      subst c
      exact ⟨u, by rw [List.lookup_cons]; simp, r1⟩
    · rw [if_neg c] at h
      obtain ⟨w, h1, h2⟩ := flook_v q r2 h
      exact ⟨w, by rw [List.lookup_cons, beq_eq_false_iff_ne.mpr c]; exact h1, h2⟩
theorem fput_v (q : Str) {x : D} {y : V} (rx : Rep K so A H x y) : ∀ {us : List (Str × V)} {vs : List D}, Reps K so A H vs (us.map (·.2)) → (putF q y us).map (·.1) = fputK (us.map (·.1)) q ∧ Reps K so A H (fputV (us.map (·.1)) vs q x) ((putF q y us).map (·.2))
  | [], [], r => by
    unfold putF
    exact ⟨rfl, Reps.one rx⟩
  | [], _ :: _, r => by
    unfold Reps at r
    obtain ⟨_, _, e, _⟩ := r
    cases e
  | (k, u) :: us, [], r => by
    unfold Reps at r
    cases r
  | (k, u) :: us, v :: vs, r => by
    unfold Reps at r
    obtain ⟨u', rs, e, r1, r2⟩ := r
    rw [List.map_cons] at e
    obtain ⟨rfl, rfl⟩ := List.cons.inj e
    obtain ⟨i1, i2⟩ := fput_v q rx r2
    unfold putF
    rw [List.map_cons]
    unfold fputK fputV
    by_cases c : k = q
    · rw [if_pos c, if_pos c, if_pos c]
      exact ⟨rfl, Reps.cons rx r2⟩
    · rw [if_neg c, if_neg c, if_neg c]
      exact ⟨by rw [List.map_cons, i1], Reps.cons r1 i2⟩
end
def pdel (h : PHp) (a : Addr) : PHp := fun b => if b = a then none else h b
theorem pdel_same {h : PHp} {a : Addr} : pdel h a a = none := if_pos rfl
theorem pdel_ne {h : PHp} {a b : Addr} (n : b ≠ a) : pdel h a b = h b := if_neg n
section
variable {K : PySem.W.Frag} {g : Gm} {O O' O'' : Addr → Prop} {H H' H'' : Hp} {σ σ' : L2.St} {ρ ρ' : List Cell} {h h' h'' : PHp}
/-- a shared object is frozen -/
theorem EnvR.unshare (E : EnvR K g O H σ ρ h) {x : Addr} {d : D} (hx : h x = some d) : EnvR K g (fun a => O a ∧ a ≠ x) H σ ρ (pdel h x) ∧ Kp (g.A O) (g.A fun a => O a ∧ a ≠ x) H H ∧ Rep K g.so (g.A fun a => O a ∧ a ≠ x) H d (.ref x) := by
  obtain ⟨hO, own⟩ := E.hp x d hx
  have sub : ∀ a, g.A (fun a => O a ∧ a ≠ x) a → g.A O a := fun a z => z.elim .inl fun z => .inr z.1
  have k : Kp (g.A O) (g.A fun a => O a ∧ a ≠ x) H H := Kp.weak sub
  have ne : ∀ {q : Addr} {d' : D}, pdel h x q = some d' → q ≠ x ∧ h q = some d' := fun {q d'} e => by
    unfold pdel at e
    split at e
    · cases e
    · rename_i n
      exact ⟨n, e⟩
  have no : ∀ {q : Addr}, h q = none → q ≠ x ∧ pdel h x q = none := fun {q} e => by
    have n : q ≠ x := fun z => by rw [z, hx] at e; cases e
    exact ⟨n, by rw [pdel_ne n]; exact e⟩
  refine ⟨⟨E.len, E.ext, E.st.kp (fun _ _ => rfl) k, E.mok, E.liv, E.sM, fun q z => E.oM q z.1, fun i c' hc => ?_, E.inj, fun z hz => Rep.kp k _ _ (E.fzr z hz), fun a d' e => ?_⟩, k, ?_⟩
  · have hh := E.cells i c' hc
    cases c' with
    | no => trivial
    | fro d => obtain ⟨v, e, r⟩ := hh; exact ⟨v, e, Rep.kp k _ _ r⟩
    | own d => obtain ⟨q, e, c2⟩ := hh; exact ⟨q, e, ⟨c2.o, (no c2.fr).1⟩, (no c2.fr).2, c2.own.kp k fun _ x => x⟩
  · obtain ⟨n, e⟩ := ne e
    exact ⟨⟨(E.hp a d' e).1, n⟩, (E.hp a d' e).2.kp k fun _ x => x⟩
  · refine Own.rep ?_ (own.kp k fun _ x => x)
    rintro (z | z)
    · exact (E.oM x hO).1 z
    · exact z.2 rfl
end
def fldD (c f : Str) : D → (D → Prop) → Prop
  | .obj c' fs vs, Q => c' = c ∧ ∃ d, flook fs vs f = some d ∧ Q d
  | _, _ => False
def setF (c f : Str) (x : D) : D → (D → Prop) → Prop
  | .obj c' fs vs, Q => c' = c ∧ fs.length < 1000 ∧ Q (.obj c (fputK fs f) (fputV fs vs f x))
  | _, _ => False
def isObj (c : Str) : D → Prop
  | .obj c' _ _ => c' = c
  | _ => False
def hasNo (m : Str) : D → Prop
  | .obj _ fs _ => m ∉ fs
  | _ => False
def qPutF (c f : Str) (a v : RE) : RS := fun D ρ h => v (D.at ρ) ρ h fun x h1 => a (D.at ρ) ρ h1 fun t h2 => onPtr h2 (fun p d => setF c f x d fun d' => D.nx ρ (pset h2 p d')) t
section
variable {X : Cx} {W : WX} {a b o : Expr} {qa qb qo : RE} {pos p : Pos} {x c f : Str} {es : List Expr} {r : RA} {k j : Nat} {sp : Spec} {ps : List Str}
theorem RepK.obj {K : PySem.W.Frag} {so : Option Sto} {A : Addr → Prop} {H : Hp} {u : V} {fs : List Str} {vs : List D} (h : RepK K so A H (.obj c fs vs) u) : ∃ a dx us, u = .ref a ∧ H a = some (.ins (He.ga K c) dx us) ∧ us.map (·.1) = fs ∧ Reps K so A H vs (us.map (·.2)) := by
  rcases h with h | ⟨p, e, dx, us, h1, h2, r⟩
  · unfold Rep at h
    obtain ⟨a, dx, us, e, _, h1, h2, r⟩ := h
    exact ⟨a, dx, us, e, h1, h2, r⟩
  · exact ⟨p, dx, us, e, h1, h2, r⟩
theorem qe_fld (hc : Cls X.K (He.ga X.K c)) (hn : NoAttr X.K (He.ga X.K c) f) (ha : QK X W a qa) (hb : attributeBase a f X.env (eval a X.env) = eval a X.env := by rfl) : QE X W (.Attribute a f pos) (qUn (fldD c f) qa) := by
  obtain ⟨ta, ha1, ha2⟩ := ha
  refine ⟨_, pe_fld ha1 hb, fun g O H σ ρ h Ex Q P E o hq kk => ha2 g O H σ ρ h Ex _ _ E o hq fun d v O' H' h' E' n rr q => ?_⟩
  have r := E'.deref rr
  generalize deref h' d = d at q r
  unfold fldD at q
  split at q
  · obtain ⟨rfl, d', hd, q⟩ := q
    obtain ⟨w, dx, us, rfl, h1, rfl, r0⟩ := r.obj
    obtain ⟨y, hy, ry⟩ := flook_v f r0 hd
    exact ⟨w, _, dx, us, y, rfl, h1, hc, hn, hy, kk _ _ O' H' h' E' n ry q⟩
  · exact q.elim
theorem qs_fld (hc : Cls X.K (He.ga X.K c)) (hn : NoAttr X.K (He.ga X.K c) f) {pos' : Pos} (ha : QE X W a qa) (hb : QE X W b qb) (hs : swapsWith b (some (.Attribute a f pos')) pos.line X.env = pure false := by rfl) : QS X W (.Assign [.Attribute a f pos'] b pos) (qPutF c f qa qb) := by
  obtain ⟨ta, ha1, ha2⟩ := ha
  obtain ⟨tb, hb1, hb2⟩ := hb
  refine ⟨_, ps_fld ha1 hb1 hs, fun g O H σ ρ h D D' E o ed q => ?_⟩
  refine hb2 g O H σ ρ h _ _ _ E (o σ ρ) q fun d v O1 H1 h1 E1 n1 r1 q1 => ?_
  refine ha2 g O1 H1 σ ρ h1 _ _ _ E1 (o σ ρ) q1 fun t w O2 H2 h2 E2 n2 r2 q2 => ?_
  obtain ⟨p, d0, rfl, hp, q3⟩ := onPtr_get q2
  have e : w = .ref p := by
    unfold Rep at r2
    exact r2
  subst e
  unfold setF at q3
  split at q3
  · obtain ⟨rfl, hl, q3⟩ := q3
    obtain ⟨hO, dx, us, h3, h4, r⟩ := E2.hp p _ hp
    subst h4
    rw [List.length_map] at hl
    refine ⟨p, _, dx, us, rfl, h3, hc, hn, hl, ed.nx O2 _ σ ρ _ (E2.setH hp ?_) q3⟩
    have kp : ∀ o, Kp (g.A O2) (g.A O2) H2 (upd H2 p o) := fun o => Kp.unseen (.inr hO)
    obtain ⟨i1, i2⟩ := fput_v f (Rep.kp (kp _) _ _ (n2.rep r1)) (Reps.kp (kp _) _ _ r)
    exact ⟨dx, _, upd_same, i1, i2⟩
  · exact q3.elim
/-- a property's getter -/
def CalP (P : Program) (w : World) (K : PySem.W.Frag) (mg : Str → Option Value) (base : Heap) (c f : Str) (k : Nat) (sp : Spec) : Prop :=
  ∃ (p g : Addr) (fd : FuncData), PropOf K (He.ga K c) f p g ∧ Binds K fd ["self"] [] ∧ FnOk P w K mg base (L2.CX P w) k g fd ["self"] (SpD K sp)
def qProp (c : Str) (sp : Spec) (a : RE) : RE := fun Ex ρ h Q => a Ex ρ h fun x h1 => isObj c (deref h1 x) ∧ sp [x] h1 Q fun _ _ _ _ => False
theorem isObj_v {K : PySem.W.Frag} {so : Option Sto} {A : Addr → Prop} {H : Hp} {d : D} {u : V} (hx : isObj c d) (r : RepK K so A H d u) : ∃ a dx fs, u = .ref a ∧ H a = some (.ins (He.ga K c) dx fs) := by
  cases d with
  | obj c' fs vs =>
    obtain ⟨a, dx, us, h1, h2, _⟩ := r.obj
    rw [show c' = c from hx] at h2
    exact ⟨a, dx, us, h1, h2⟩
  | _ => exact hx.elim
theorem spd_E0 {K : PySem.W.Frag} {g : Gm} {O : Addr → Prop} {H : Hp} {σ : L2.St} {ρ : List Cell} {h : PHp} {ds : List D} {us : List V} {Q : D → PHp → Prop} {P : VK} (E : EnvR K g O H σ ρ h) (rr : Reps K g.so (g.A O) H ds us) (hq : sp ds h Q fun _ _ _ _ => False)
    (kk : ∀ d v O' H' h', EnvR K g O' H' σ ρ h' → Nx g O h H O' h' H' → Rep K g.so (g.A O') H' d v → Q d h' → P v H') : SpD K sp us H P E0 := by
  obtain ⟨w1, w2, w3⟩ := E.call
  refine ⟨g.callee O H h, h, ds, Q, _, w1, w2 _ _ rr, hq, fun O1 H1 h1 d v wd rv q => ?_, fun O1 H1 h1 c dd us' vs' wd e rv q => q.elim⟩
  obtain ⟨O2, E2, n2, k1, k2⟩ := w3 O1 H1 h1 wd
  exact kk d v O2 H1 h1 E2 n2 (k1 _ _ rv) q
theorem qe_prop (C : CalP X.prog X.w X.K X.mg X.base c f j sp) (hcl : Cls X.K (He.ga X.K c)) (hr : Room k X.A) (ha : QE X W a qa) (hj : j + 1 ≤ k := by decide) (hab : attributeBase a f X.env (eval a X.env) = eval a X.env := by rfl) : QE X W (.Attribute a f pos) (qProp c sp qa) := by
  obtain ⟨ta, ha1, ha2⟩ := ha
  obtain ⟨p, g, fd, hp, hb, F⟩ := C
  refine ⟨_, pe_prop ha1 hcl hp F (hr.mono hj) hb .nil passLW hab, fun g O H σ ρ h Ex Q P E o hq kk => ha2 g O H σ ρ h Ex _ _ E o hq fun d v O' H' h' E' n rr q => ?_⟩
  obtain ⟨w, dx, fs, rfl, hH⟩ := isObj_v q.1 (E'.deref rr.v)
  exact ⟨w, dx, fs, rfl, hH, spd_E0 E' (Reps.one rr) q.2 fun d v O2 H2 h2 E2 n2 => kk d v O2 H2 h2 E2 (n.trans n2)⟩
/-- a method -/
def CalM (P : Program) (w : World) (K : PySem.W.Frag) (mg : Str → Option Value) (base : Heap) (c f : Str) (ps : List Str) (k : Nat) (sp : Spec) : Prop :=
  ∃ (g : Addr) (fd : FuncData), Meth K (He.ga K c) f g ∧ Binds K fd ps [] ∧ FnOk P w K mg base (L2.CX P w) k g fd ps (SpD K sp)
def qMeth (c f : Str) (sp : Spec) (a : RE) (r : RA) : RE := fun Ex ρ h Q => a Ex ρ h fun x h1 => isObj c (deref h1 x) ∧ hasNo f (deref h1 x) ∧ r Ex ρ h1 fun xs h2 => sp (x :: xs) h2 Q fun _ _ _ _ => False
theorem lookup_no {us : List (Str × V)} {m : Str} (h : m ∉ us.map (·.1)) : us.lookup m = none := by
  induction us with
  | nil => rfl
  | cons q r ih =>
    rw [List.map_cons, List.mem_cons, not_or] at h
    rw [List.lookup_cons, beq_eq_false_iff_ne.mpr h.1]
    exact ih h.2
theorem qe_meth {pl : Sem Bool} {apos : Pos} (C : CalM X.prog X.w X.K X.mg X.base c f ps j sp) (hcl : Cls X.K (He.ga X.K c)) (hr : Room k X.A) (ha : QE X W a qa) (hb : QA X W (b :: es) r) (hj : j ≤ k := by decide)
    (hst : starEach (b :: es) X.env = (false, eval b X.env) :: starEach es X.env := by rfl) (hpl : (backTo pos (starEach es X.env)).any (·.1) = false := by rfl)
    (ht : eval (.Call (.Attribute a f apos) (b :: es) [] pos) X.env = (do
      let ov ← eval a X.env
      standAt apos.atName
      let (f, first) ← holding [ov] (getMethod ov f pl)
      callWith pos f first (backTo pos (starEach (b :: es) X.env)) (backToKw pos (keywordEach [] X.env))) := by rfl) : QE X W (.Call (.Attribute a f apos) (b :: es) [] pos) (qMeth c f sp qa r) := by
  obtain ⟨ta, ha1, ha2⟩ := ha
  obtain ⟨tb, hb1, hb2⟩ := hb
  obtain ⟨g, fd, hm, hbn, F⟩ := C
  refine ⟨_, pe_meth ha1 hcl hm F (hr.mono hj) hbn .nil passLW hb1 hst hpl ht, fun g O H σ ρ h Ex Q P E o hq kk => ha2 g O H σ ρ h Ex _ _ E o hq fun d v O' H' h' E' n rr q => ?_⟩
  have r := E'.deref rr.v
  obtain ⟨q1, q2, q3⟩ := q
  have key : ∃ w dx fs, v = .ref w ∧ H' w = some (.ins (He.ga X.K c) dx fs) ∧ fs.lookup f = none := by
    revert q1 q2 r
    generalize deref h' d = d
    intro r q1 q2
    cases d with
    | obj c' fs vs =>
      obtain ⟨w, dx, us, h1, h2, h3, _⟩ := r.obj
      rw [show c' = c from q1] at h2
      exact ⟨w, dx, us, h1, h2, lookup_no (by rw [h3]; exact q2)⟩
    | _ => exact q1.elim
  obtain ⟨w, dx, fs, rfl, hH, hl⟩ := key
  refine ⟨w, dx, fs, rfl, hH, hl, hb2 g O' H' σ ρ h' Ex _ _ E' o q3 fun xs us O1 H1 h1 E1 n1 r1 l1 q4 => ?_⟩
  show SpD X.K sp (.ref w :: (us ++ [])) H1 P E0
  rw [List.append_nil]
  exact spd_E0 E1 (Reps.cons (n1.rep rr) r1) q4 fun d v O2 H2 h2 E2 n2 => kk d v O2 H2 h2 E2 ((n.trans n1).trans n2)
/-- making -/
def CalC (P : Program) (w : World) (K : PySem.W.Frag) (mg : Str → Option Value) (base : Heap) (c : Str) (ps : List Str) (k : Nat) (sp : Spec) : Prop :=
  mg c = some (.ref (He.ga K c)) ∧ ∃ (g : Addr) (fd : FuncData), Mk K (He.ga K c) g ∧ Binds K fd ps [] ∧ FnOk P w K mg base (L2.CX P w) k g fd ps (SpD K sp)
def qMake (c : Str) (sp : Spec) (r : RA) : RE := fun Ex ρ h Q => r Ex ρ h fun xs h1 => ∀ x, h1 x = none → sp (.ptr x :: xs) (pset h1 x (.obj c [] [])) (fun y h2 => y = .non ∧ ∃ d, h2 x = some d ∧ Q d (pdel h2 x)) fun _ _ _ _ => False
theorem qe_make (C : CalC X.prog X.w X.K X.mg X.base x ps j sp) (hr : Room k X.A) (hb : QA X W (b :: es) r) (hj : j + 1 ≤ k := by decide) (hg : Gl X x := by rfl) (hdb : (x == ("__debug__" : Str)) = false := by decide)
    (he : starEach (b :: es) X.env = (false, eval b X.env) :: starEach es X.env := by rfl) (hpl : (backTo pos (starEach es X.env)).any (·.1) = false := by rfl) : QE X W (.Call (.Name x p) (b :: es) [] pos) (qMake x sp r) := by
  obtain ⟨tb, hb1, hb2⟩ := hb
  obtain ⟨hm, f, fd, M, hbn, F⟩ := C
  refine ⟨_, pe_make M F (hr.mono hj) hg hm hbn .nil passLW hb1 hdb he hpl, fun g O H σ ρ h Ex Q P E o hq kk => ?_⟩
  refine hb2 g O H σ ρ h Ex _ _ E o hq fun xs us O1 H1 h1 E1 n1 r1 l1 q1 => ?_
  intro z dx hz hdx hne
  obtain ⟨E2, n2⟩ := E1.new (o := .own z) hdx
  have hz2 : upd H1 dx (.own z) z = none := by rw [upd_ne (Ne.symm hne)]; exact hz
  obtain ⟨E3, n3, nc, hf⟩ := E2.take (o := .ins (He.ga X.K x) dx []) hz2
  have c3 : CellOk X.K g (fun a => O1 a ∨ a = z) (upd (upd H1 dx (.own z)) z (.ins (He.ga X.K x) dx [])) h1 (.obj x [] []) z := ⟨.inr rfl, hf, dx, [], upd_same, rfl, Reps.nil⟩
  have E4 := E3.share c3 nc
  have r4 := n3.reps (n2.reps r1)
  rw [List.append_nil]
  have n23 := n2.trans n3
  refine spd_E0 E4 (Reps.cons (by unfold Rep; rfl) r4) (q1 z hf) fun y v O5 H5 h5 E5 n5 rv q5 => ?_
  obtain ⟨rfl, d, hd, q5⟩ := q5
  obtain ⟨E6, k6, r6⟩ := E5.unshare hd
  refine ⟨rv.k.non, kk d (.ref z) _ H5 _ E6 (n1.trans ⟨(n23.kp.trans n5.kp).trans k6, fun q o hq hn e => ?_, fun a ha => n5.up a (n23.up a ha)⟩) r6 q5⟩
  obtain ⟨y1, y2, y3⟩ := n23.own q o hq hn e
  have nz : q ≠ z := ne_of_none e hz
  obtain ⟨w1, w2, w3⟩ := n5.own q o y1 (by rw [pset_ne nz]; exact y2) y3
  exact ⟨⟨w1, nz⟩, by rw [pdel_ne nz]; exact w2, w3⟩
end
end Pu
set_option Elab.async false
set_option linter.all false
set_option maxRecDepth 100000
set_option maxHeartbeats 4000000
set_option autoImplicit false
/-! The drawn store is written to. -/
namespace Pu
open PySem PySem.Spec PyProof.Rows L2
section
variable {K : PySem.W.Frag} {g : Gm} {O : Addr → Prop} {H : Hp} {σ : L2.St} {ρ : List Cell} {h : PHp}
theorem EnvR.wrS (E : EnvR K g O H σ ρ h) {S : Sto} (eS : g.so = some S) {pl dg st tk : Int} (hp : 0 ≤ pl) : EnvR K g O (upd H S.s (.lst [.ref S.c, .int pl, .int dg, .int st, .int tk])) σ ρ h := by
  have hM := E.sM S.s ⟨S, eS, rfl⟩
  have k : Kp (g.A O) (g.A O) H (upd H S.s (.lst [.ref S.c, .int pl, .int dg, .int st, .int tk])) := Kp.unseen (.inl hM.1)
  have up : ∀ a, H a ≠ none → upd H S.s (.lst [.ref S.c, .int pl, .int dg, .int st, .int tk]) a ≠ none := fun a z => by
    unfold upd
    split
    · simp
    · exact z
  have nO : ∀ {q : Addr}, O q → q ≠ S.s := fun {q} z e => (E.oM q z).1 (by rw [e]; exact hM.1)
  refine ⟨E.len, fun a u e => ?_, fun S' e' => ?_, fun a z => up a (E.mok a z), fun a z => up a (E.liv a z), E.sM, fun q z => ⟨(E.oM q z).1, (E.oM q z).2.1, up q (E.oM q z).2.2⟩, fun i c hc => ?_, E.inj, fun z hz => Rep.kp k _ _ (E.fzr z hz), fun a d e => ⟨(E.hp a d e).1, (E.hp a d e).2.kp k fun o' e' => ?_⟩⟩
  · rw [upd_ne (ne_of_none e hM.2)]
    exact E.ext a u e
  · rw [eS] at e'
    cases e'
    obtain ⟨_, h3, h4⟩ := E.st S eS
    refine ⟨⟨pl, dg, st, tk, upd_same, hp⟩, h3, ?_⟩
    rw [upd_ne fun e => h3 (by rw [e]; exact .inl hM.1)]
    exact h4
  · have hh := E.cells i c hc
    cases c with
    | no => trivial
    | fro d => obtain ⟨v, e, r⟩ := hh; exact ⟨v, e, Rep.kp k _ _ r⟩
    | own d =>
      obtain ⟨q, e, c⟩ := hh
      exact ⟨q, e, c.o, c.fr, c.own.kp k fun o' e' => by rw [upd_ne (nO c.o)]; exact e'⟩
  · rw [upd_ne (nO (E.hp a d e).1)]
    exact e'
end
def putS (R : Prop) : D → D → D → Prop
  | .sto, .int k, .int i => 0 < k ∧ k < 5 ∧ (k = 1 → 0 ≤ i) ∧ R
  | _, _, _ => False
theorem putS_get {R : Prop} {t j x : D} (q : putS R t j x) : ∃ k i : Int, t = .sto ∧ j = .int k ∧ x = .int i ∧ 0 < k ∧ k < 5 ∧ (k = 1 → 0 ≤ i) ∧ R := by
  unfold putS at q
  split at q
  · exact ⟨_, _, rfl, rfl, rfl, q⟩
  · exact q.elim
def qPutS (a b c : RE) : RS := fun D ρ h => a (D.at ρ) ρ h fun x h1 => c (D.at ρ) ρ h1 fun t h2 => b (D.at ρ) ρ h2 fun j h3 => putS (D.nx ρ h3) t j x
section
variable {X : Cx} {W : WX} {a b c : Expr} {qa qb qc : RE} {pos p pos' : Pos}
theorem qs_putS (hu : X.A.units + 1 < cLine) (ha : QE X W a qa) (hb : QE X W b qb) (hc : QE X W c qc)
    (has : ∀ v, assign (.Subscript c b pos') X.env v = (do
      let ov ← holding [v] (eval c X.env)
      let iv ← holding [v, ov] (eval b X.env)
      standAt pos'
      holding [v, ov, iv] (setItem ov iv v)
      release [v, ov, iv] []) := by intro _; rfl)
    (hs : swapsWithSole [.Subscript c b pos'] a pos.line X.env = pure false := by rfl) (hw : swappedStores [.Subscript c b pos'] a X.env = pure none := by rfl)
    (h1' : (assignEach [.Subscript c b pos'] X.env).map (·.2) = [assign (.Subscript c b pos') X.env] := by rfl) :
    QS X W (.Assign [.Subscript c b pos'] a pos) (qPutS qa qb qc) := by
  obtain ⟨ta, ha1, ha2⟩ := ha
  obtain ⟨tb, hb1, hb2⟩ := hb
  obtain ⟨tc, hc1, hc2⟩ := hc
  refine ⟨_, ps_asg ha1 (pg_sub hc1 hb1 (set_all hu) has) hs hw h1', fun g O H σ ρ h D D' E o ed q => ?_⟩
  refine ha2 g O H σ ρ h _ _ _ E (o σ ρ) q fun d v O1 H1 h1 E1 n1 r1 q1 => ?_
  refine hc2 g O1 H1 σ ρ h1 _ _ _ E1 (o σ ρ) q1 fun t w O2 H2 h2 E2 n2 r2 q2 => ?_
  refine hb2 g O2 H2 σ ρ h2 _ _ _ E2 (o σ ρ) q2 fun j iv O3 H3 h3 E3 n3 r3 q3 => ?_
  obtain ⟨k, i, rfl, rfl, rfl, k0, k5, ki, q4⟩ := putS_get q3
  have r2' := (n3.rep r2)
  unfold Rep at r2'
  obtain ⟨S, eS, rfl⟩ := r2'
  have e1 := r1.k.int
  have e2 := r3.k.int
  subst e1 e2
  obtain ⟨⟨pl, dg, st, tk, h1, h2'⟩, _, _⟩ := E3.st S eS
  have hc : k = 1 ∨ k = 2 ∨ k = 3 ∨ k = 4 := by omega
  rcases hc with rfl | rfl | rfl | rfl
  · exact .inl ⟨S.s, _, 1, 1, rfl, rfl, h1, rfl, ed.nx O3 _ σ ρ _ (E3.wrS eS (ki rfl)) q4⟩
  · exact .inl ⟨S.s, _, 2, 2, rfl, rfl, h1, rfl, ed.nx O3 _ σ ρ _ (E3.wrS eS h2') q4⟩
  · exact .inl ⟨S.s, _, 3, 3, rfl, rfl, h1, rfl, ed.nx O3 _ σ ρ _ (E3.wrS eS h2') q4⟩
  · exact .inl ⟨S.s, _, 4, 4, rfl, rfl, h1, rfl, ed.nx O3 _ σ ρ _ (E3.wrS eS h2') q4⟩
end
end Pu
set_option Elab.async false
set_option linter.all false
set_option maxRecDepth 100000
set_option maxHeartbeats 4000000
set_option autoImplicit false
/-! Plain facts. -/
namespace Pu
open PySem PySem.Spec PyProof.Rows L2
def rSortD : List V → Hp → VK → Prop := fun xs H Q => ∃ (a : Addr) (kvs : List (Key × V)) (ks : List Str), xs = [.ref a] ∧ Rd H a (.dK kvs) ∧ kvs.map (·.1) = ks.map Sum.inr ∧ ks.length < 64 ∧
  ∀ (ys : List Str) (p : Addr), ys.Perm ks → sortedS ys = true → H p = none → Q (.ref p) (upd H p (.lst (ys.map V.str)))
def rSortA (K : PySem.W.Frag) : List V → Hp → VK → Prop := fun xs H Q => rSortedS K xs H Q ∨ rSortD xs H Q
theorem call_sortA {X : Cx} (hc : X.calm = true) : CallR X (.builtin "sorted") (rSortA X.K) := CallR.or (r := rSortedS X.K) (r' := rSortD) cr_sortedS (call_sortedD hc)
/-- sorted of texts, or of a dict's text keys -/
def sortAD : D → (D → Prop) → Prop := fun x Q => ∃ ss : List Str, (x = .lst (ss.map D.str) ∨ ∃ vs, x = .dic (ss.map Sum.inr) vs) ∧ ss.length < 64 ∧ ∀ ys : List Str, ys.Perm ss → sortedS ys = true → Q (.lst (ys.map D.str))
theorem cn_sortA {X : Cx} : CallN1 X (rSortA X.K) sortAD := by
  intro g O H σ ρ h x u Q P E r1 q k
  obtain ⟨ss, hx, hl, q⟩ := q
  rcases hx with rfl | ⟨vs, rfl⟩
  · obtain ⟨a, us, rfl, h1, r⟩ := r1.lst
    have e := strs_of r
    subst e
    exact .inl ⟨a, ss, rfl, SqL.of h1, hl, fun ys p hp hs hn => let z := E.newL hn (of_strs (ss := ys)); k _ p _ _ z.1 z.2.1 hn z.2.2.1 z.2.2.2 (q ys hp hs)⟩
  · obtain ⟨a, us, rfl, h1, h2, r⟩ := r1.dic
    exact .inr ⟨a, us, ss, rfl, .inl h1, h2, hl, fun ys p hp hs hn => let z := E.newL hn (of_strs (ss := ys)); k _ p _ _ z.1 z.2.1 hn z.2.2.1 z.2.2.2 (q ys hp hs)⟩
theorem fmod_pos {a m : Int} (h : 0 < m) : 0 ≤ a.fmod m ∧ a.fmod m < m := by
  rw [Int.fmod_eq_emod_of_nonneg a (Int.le_of_lt h)]
  exact ⟨Int.emod_nonneg a (by omega), Int.emod_lt_of_pos a h⟩
theorem fmod_emod {a m : Int} (h : 0 ≤ m) : a.fmod m = a % m := Int.fmod_eq_emod_of_nonneg a h
theorem fdiv_ediv {a m : Int} (h : 0 ≤ m) : a.fdiv m = a / m := Int.fdiv_eq_ediv_of_nonneg a h
theorem atI_pos {α : Type} {xs : List α} {i : Int} (h0 : 0 ≤ i) (h1 : i < xs.length) : atI xs i = xs[i.toNat]? := by
  unfold atI ixN
  rw [if_pos h0, if_pos h1]
  rfl
theorem atI_get {α : Type} {xs : List α} {i : Int} (h0 : 0 ≤ i) (h1 : i < xs.length) : ∃ a, atI xs i = some a ∧ a ∈ xs ∧ xs[i.toNat]? = some a := by
  have hl : i.toNat < xs.length := by omega
  refine ⟨xs[i.toNat], ?_, List.getElem_mem hl, List.getElem?_eq_getElem hl⟩
  rw [atI_pos h0 h1, List.getElem?_eq_getElem hl]
theorem atI_nat {α : Type} {xs : List α} {i : Nat} {a : α} (h : xs[i]? = some a) : atI xs (i : Int) = some a := by
  have hl : i < xs.length := Classical.byContradiction fun z => by rw [List.getElem?_eq_none (by omega)] at h; cases h
  rw [atI_pos (by omega) (by omega), Int.toNat_natCast, h]
theorem atI_map {α β : Type} {xs : List α} {f : α → β} {i : Int} (h0 : 0 ≤ i) (h1 : i < xs.length) : ∃ a, atI (xs.map f) i = some (f a) ∧ a ∈ xs ∧ xs[i.toNat]? = some a := by
  obtain ⟨a, h2, h3, h4⟩ := atI_get h0 h1
  refine ⟨a, ?_, h3, h4⟩
  rw [atI_pos h0 (by rw [List.length_map]; exact h1), List.getElem?_map, h4]
  rfl
theorem atI_last {α : Type} {xs : List α} {a : α} : atI (xs ++ [a]) (-1) = some a := by
  unfold atI ixN
  rw [if_neg (by omega), if_pos (by rw [List.length_append, List.length_singleton]; omega)]
  show (xs ++ [a])[((-1 : Int) + ((xs ++ [a]).length : Nat)).toNat]? = some a
  rw [List.length_append, List.length_singleton, show ((-1 : Int) + ((xs.length + 1 : Nat) : Int)).toNat = xs.length by omega]
  simp
theorem rng_get {n i : Nat} {d : D} (h : (rngD n)[i]? = some d) : d = .int (i : Int) ∧ i < n := by
  unfold rngD at h
  rw [List.getElem?_map] at h
  cases e : (List.range n)[i]? with
  | none => rw [e] at h; cases h
  | some c =>
    rw [e] at h
    have hl : i < n := Classical.byContradiction fun z => by rw [List.getElem?_eq_none (by rw [List.length_range]; omega)] at e; cases e
    rw [List.getElem?_range hl] at e
    cases e
    cases h
    exact ⟨rfl, hl⟩
theorem rng_len {n : Nat} : (rngD n).length = n := by
  unfold rngD
  rw [List.length_map, List.length_range]
theorem ixN_pos {n : Nat} {i : Int} (h0 : 0 ≤ i) (h1 : i < n) : ixN n i = some i.toNat := by
  unfold ixN
  rw [if_pos h0, if_pos h1]
theorem swap_perm {xs : List D} {i j : Nat} {a b : D} (h1 : xs[i]? = some a) (h2 : xs[j]? = some b) : ((xs.set i b).set j a).Perm xs := by
  have l1 : i < xs.length := Classical.byContradiction fun z => by rw [List.getElem?_eq_none (by omega)] at h1; cases h1
  have l2 : j < xs.length := Classical.byContradiction fun z => by rw [List.getElem?_eq_none (by omega)] at h2; cases h2
  rw [List.getElem?_eq_getElem l1] at h1
  rw [List.getElem?_eq_getElem l2] at h2
  cases h1
  cases h2
  exact List.set_set_perm l1 l2
def tl (x : Str) : List Nat := x.cps.toList
theorem tl_cat (x y : Str) : tl (x ++ y) = tl x ++ tl y := TL.tl_append x y
theorem tl_len (x : Str) : x.length = (tl x).length := TL.len_tl x
theorem tl_ext {x y : Str} (h : tl x = tl y) : x = y := TL.ext_tl h
theorem tl_of (s : String) : tl (Str.ofString s) = s.toList.map Char.toNat := TL.tl_ofString s
theorem tl_join (a : Str) (ys : List Str) : tl (Txt.join a ys) = TL.joinL (tl a) (ys.map tl) := by
  rw [TL.join_eq]
  exact TL.tl_join a ys
theorem joinL_nil : ∀ ys : List (List Nat), TL.joinL [] ys = ys.flatten
  | [] => rfl
  | [x] => by simp [TL.joinL]
  | x :: y :: r => by
    show x ++ ([] ++ TL.joinL [] (y :: r)) = (x :: y :: r).flatten
    rw [joinL_nil (y :: r), List.nil_append]
    rfl
theorem join_len0 {ss : List Str} (h : ∀ s ∈ ss, s.length = 1) : (Txt.join (Str.ofString "") ss).length = ss.length := by
  rw [tl_len, tl_join, show tl (Str.ofString "") = [] from rfl, joinL_nil]
  induction ss with
  | nil => rfl
  | cons s r ih =>
    rw [List.map_cons, List.flatten_cons, List.length_append, ih fun z hz => h z (List.mem_cons_of_mem _ hz), ← tl_len, h s (List.mem_cons_self ..), List.length_cons]
    omega
theorem sum_ones {ss : List Str} (h : ∀ s ∈ ss, s.length = 1) : (ss.map (·.length)).sum = ss.length := by
  induction ss with
  | nil => rfl
  | cons s r ih =>
    rw [List.map_cons, List.sum_cons, ih fun z hz => h z (List.mem_cons_of_mem _ hz), h s (List.mem_cons_self ..), List.length_cons]
    omega
end Pu
set_option Elab.async false
set_option linter.all false
set_option maxRecDepth 100000
set_option maxHeartbeats 4000000
set_option autoImplicit false
/-! Defs of classes. -/
namespace Pu
open PySem PySem.Spec PyProof.Rows L2
def GP (K : PySem.W.Frag) (c f q : Str) (st : Stmt) : Prop := ∃ p g fd, PropOf K (He.ga K c) f p g ∧ FunD K f q (defArgs st) (defBody st) (defScope st) [] [] g fd
def GM (K : PySem.W.Frag) (c f q : Str) (st : Stmt) : Prop := ∃ g fd, Meth K (He.ga K c) f g ∧ FunD K f q (defArgs st) (defBody st) (defScope st) [] [] g fd
def GC (K : PySem.W.Frag) (mg : Str → Option Value) (c q : Str) (n : Nat) (st : Stmt) : Prop := mg c = some (.ref (He.ga K c)) ∧ ∃ g fd dvs, dvs.length = n ∧ Mk K (He.ga K c) g ∧ FunD K "__init__" q (defArgs st) (defBody st) (defScope st) dvs [] g fd
section
variable {P : Program} {w : World} {K : PySem.W.Frag} {mg : Str → Option Value} {base : Heap} {c f qn : Str} {st : Stmt} {N ps : List Str} {k : Nat} {sp : Spec} {q : RS}
theorem calP_of (D : GP K c f qn st) (S : FnScope N ["self"] (defScope st)) (hb : ∀ g fd, FunD K f qn (defArgs st) (defBody st) (defScope st) [] [] g fd → Binds K fd ["self"] []) (hlen : ∀ ds h Qp Ep, sp ds h Qp Ep → ds.length = ["self"].length)
    (hq : WkOk P w K mg base N qn st k q) (hv : ∀ ds h Qp Ep, sp ds h Qp Ep → q { nx := fun _ h' => Qp .non h', rt := Qp, ex := fun c fs vs _ h' => Ep c fs vs h' } (startC N.length ds) h) : CalP P w K mg base c f (k + 1) sp := by
  obtain ⟨p, g, fd, h1, F⟩ := D
  exact ⟨p, g, fd, h1, hb g fd F, fn_ok F S hlen (hq g) hv⟩
theorem calM_of (D : GM K c f qn st) (S : FnScope N ps (defScope st)) (hb : ∀ g fd, FunD K f qn (defArgs st) (defBody st) (defScope st) [] [] g fd → Binds K fd ps []) (hlen : ∀ ds h Qp Ep, sp ds h Qp Ep → ds.length = ps.length)
    (hq : WkOk P w K mg base N qn st k q) (hv : ∀ ds h Qp Ep, sp ds h Qp Ep → q { nx := fun _ h' => Qp .non h', rt := Qp, ex := fun c fs vs _ h' => Ep c fs vs h' } (startC N.length ds) h) : CalM P w K mg base c f ps (k + 1) sp := by
  obtain ⟨g, fd, h1, F⟩ := D
  exact ⟨g, fd, h1, hb g fd F, fn_ok F S hlen (hq g) hv⟩
theorem calC_of {n : Nat} (D : GC K mg c qn n st) (S : FnScope N ps (defScope st)) (hb : ∀ g fd dvs, dvs.length = n → FunD K "__init__" qn (defArgs st) (defBody st) (defScope st) dvs [] g fd → Binds K fd ps []) (hlen : ∀ ds h Qp Ep, sp ds h Qp Ep → ds.length = ps.length)
    (hq : WkOk P w K mg base N qn st k q) (hv : ∀ ds h Qp Ep, sp ds h Qp Ep → q { nx := fun _ h' => Qp .non h', rt := Qp, ex := fun c fs vs _ h' => Ep c fs vs h' } (startC N.length ds) h) : CalC P w K mg base c ps (k + 1) sp := by
  obtain ⟨hm, g, fd, dvs, hl, M, F⟩ := D
  exact ⟨hm, g, fd, M, hb g fd dvs hl F, fn_ok F S hlen (hq g) hv⟩
/-- all arguments are given though there are defaults -/
theorem FunD.bindsGiven {x qual : Str} {params : Arguments} {body : List Stmt} {scope : Scope} {dvs : List V} {g : Addr} {fd : FuncData} (F : FunD K x qual params body scope dvs [] g fd) {n : Nat} (hn : dvs.length = n) (h0 : 0 < n)
    (h : ∀ (T : Addr) (kV doc pm : Value) (an : Option Addr) (cdv ct : Value) (us its : List Value), us.length = ps.length → its.length = n →
      ∃ k, bindArgs (PySem.W.fnOf x qual params body scope (.ref T) kV doc pm an cdv ct) ⟨us, []⟩ = seqItems? (.ref T) >>= k ∧ k (some its.toArray) = pure (ps.zip us)) : Binds K fd ps [] := by
  obtain ⟨ds, h1, h2⟩ := F.binds1 (ps := ps) ps.length n (fun z => by rw [z] at hn; simp at hn; omega) (by omega) fun T kV doc pm an cdv ct us its l1 l2 => by
    obtain ⟨k, e1, e2⟩ := h T kV doc pm an cdv ct us its l1 (by omega)
    refine ⟨k, e1, ?_⟩
    rw [List.drop_of_length_le (by omega), List.append_nil]
    exact e2
  rw [List.drop_of_length_le (by omega)] at h1
  cases h1
  exact h2
end
end Pu
set_option Elab.async false
set_option linter.all false
set_option maxRecDepth 100000
set_option maxHeartbeats 4000000
set_option autoImplicit false
/-! The head's Hook: defs at any address, one more Bool; properties. -/
namespace Pu
open PySem PySem.Spec PyProof.Rows L2
def propP (K : PySem.W.Frag) (c f : Str) : Addr := match PySem.W.findIn K (.ref (He.ga K c)) f with
  | some (some (.ref p)) => p
  | _ => 0
def propG (K : PySem.W.Frag) (c f : Str) : Addr := match PySem.W.recIn K (propP K c f) "property" with
  | some (.ref g :: _) => g
  | _ => 0
def isRefHd : Option (List Value) → Addr → Bool
  | some (.ref g :: _), a => decide (g = a)
  | _, _ => false
def propB (K : PySem.W.Frag) (c f : Str) : Bool :=
  He.eqO (PySem.W.findIn K (.ref (He.ga K c)) f) (some (some (.ref (propP K c f)))) && (He.eqO (PySem.W.specialIn K (.ref (propP K c f)) "__get__") (some (some (.builtin "property.__get__"))) &&
  (decide (PySem.W.takesIn K (.ref (propP K c f)) = some true) && isRefHd (PySem.W.recIn K (propP K c f) "property") (propG K c f)))
theorem propB_ok {K : PySem.W.Frag} {c f : Str} (h : propB K c f = true) : PropOf K (He.ga K c) f (propP K c f) (propG K c f) := by
  unfold propB at h
  rw [Bool.and_eq_true, Bool.and_eq_true, Bool.and_eq_true] at h
  obtain ⟨h1, h2, h3, h4⟩ := h
  refine ⟨He.eqO_ok h1, He.eqO_ok h2, of_decide_eq_true h3, ?_⟩
  cases e : PySem.W.recIn K (propP K c f) "property" with
  | none => rw [e] at h4; cases h4
  | some l =>
    rw [e] at h4
    cases l with
    | nil => cases h4
    | cons v r =>
      cases v with
      | ref g =>
        have : g = propG K c f := of_decide_eq_true h4
        exact ⟨r, by rw [this]⟩
      | _ => cases h4
abbrev DefA := He5.DefA
def obsQ (fa : List He.Fa) (fn : List DefA) (ex : PySem.W.Frag → Bool) (K : PySem.W.Frag) : He.AlD × Bool := (He5.obsA fa fn K, ex K)
def valQ (fn : List DefA) : He.AlD × Bool := (He5.valA fn, true)
def obsQG (n : Nat) (fa : List He.Fa) (fn : List DefA) (ex : PySem.W.Frag → Bool) (g : Addr → Option Obj) : He.AlD × Bool := obsQ fa fn ex (He.frG g (He.asD g n))
def hookQ (n : Nat) (fa : List He.Fa) (fn : List DefA) (ex : PySem.W.Frag → Bool) : PySem.W.Hook where
  α := He.AlD × Bool
  obs := fun s => obsQG n fa fn ex s.heap.get?
  val := fun _ => valQ fn
  says := fun _ h => ∃ K : PySem.W.Frag, K.In h ∧ obsQ fa fn ex K = valQ fn
  of := fun _ _ e => ⟨_, He.frG_in, e⟩
  keeps := fun _ _ _ ⟨K, hK, c⟩ k => ⟨K, PySem.W.Frag.In.keeps hK k, c⟩
theorem obsQG_eq {n : Nat} {fa : List He.Fa} {fn : List DefA} {ex : PySem.W.Frag → Bool} {g : Addr → Option Obj} {s : Shared} (h : ∀ a, g a = s.heap.get? a) : obsQG n fa fn ex g = (hookQ n fa fn ex).obs s := by
  have e : g = s.heap.get? := funext h
  rw [e] <;> rfl
end Pu
set_option Elab.async false
set_option linter.all false
set_option maxRecDepth 100000
set_option maxHeartbeats 4000000
set_option autoImplicit false
/-! The end: the law's promise where exceptions fly. -/
namespace Pu
open PySem PySem.W PySem.Spec PyProof.Rows L2
theorem cx_none {P : Program} {w : World} (H : Hp) (s : Shared) (e : Value) (s' : Shared) : L2.CX P w [] H s (fun _ _ _ => False) e s' → False :=
  fun ⟨_, _, _, _, _, _, _, _, _, _, _, _, z⟩ => z
theorem walk_ofX {l : PySem.W.OpenLaw} {n k : Nat} {q : Program} {loose : List Str} {XQ : (Str → Option Value) → Heap → Prop} {YP : World → Heap → Prop} {d : DefRec} {x : Str}
    (hn : l.most = some n) (hn2 : n ≤ sizeLine) (hdf : d.params.defaults = []) (hr : Room k callerA)
    (F : ∀ (w : World) (mg : Str → Option Value) (fa : Addr) (h : Heap), YP w h → h.Ns mainGlobals mg → mg d.name = some (.ref fa) →
      ∃ (K : PySem.W.Frag) (fd : FuncData) (sp : Sp), K.In h ∧ (∀ (s : Shared) (u : Value), BindsTo s fd ⟨[u], []⟩ [(x, u)]) ∧
        (∀ (H : Hp) (a : Addr) (ns : List Int), ns.length ≤ n → SqL K H a (ns.map V.int) → sp [.ref a] H (fun v _ => v = .bl true) fun _ _ _ => False) ∧
        ∀ base : Heap, K.In base → base.Ns mainGlobals mg → FnOk l.prog w K mg base (L2.CX l.prog w) k fa fd [x] sp) :
    PySem.W.WalkO q loose XQ YP l.row.toRowW d [] (fun f vs => PySem.call f vs) := by
  refine Att.attach_call hn hdf fun w s₀ s₁ mg mb fa o pm cd doc a vs ns G Y ho hd hcd hmg hobj hints hlen hg => ?_
  obtain ⟨K, fd, sp, KX, hb, hsp, hF⟩ := F w mg fa _ Y G.T.g hmg
  exact law_call KX G.T.g G.T.b G.T.builtins G.T.nolimit hg hobj hints (Nat.le_trans hlen hn2) hr hF hb (fun H hO hS => hsp H a ns hlen hS) fun H e s' => cx_none H s₁ e s'
end Pu
set_option Elab.async false
set_option linter.all false
set_option maxRecDepth 100000
set_option maxHeartbeats 4000000
set_option autoImplicit false
namespace Pu.L70
open PySem PySem.Spec PyProof.Rows L2
def topS (i : Nat) : Stmt := PySem.Challenge.pw_keptjoined_k70_record_sums.main.body.getD i (.Pass ⟨0, 0, 0, 0⟩)
abbrev s__wall : Stmt := topS 0
abbrev s_KeptError____init__ : Stmt := inClass (topS 2) 0
abbrev s_BadName____init__ : Stmt := inClass (topS 3) 0
abbrev s_NoHouse____init__ : Stmt := inClass (topS 4) 0
abbrev s_NoLine____init__ : Stmt := inClass (topS 5) 0
abbrev s_SelfLine____init__ : Stmt := inClass (topS 6) 0
abbrev s_Taken____init__ : Stmt := inClass (topS 7) 0
abbrev s_BadNumber____init__ : Stmt := inClass (topS 8) 0
abbrev s_TooMany____init__ : Stmt := inClass (topS 9) 0
abbrev s_BadDeed____init__ : Stmt := inClass (topS 10) 0
abbrev s_is_letter : Stmt := topS 16
abbrev s_is_digit : Stmt := topS 17
abbrev s_is_name : Stmt := topS 18
abbrev s_check_name : Stmt := topS 19
abbrev s_check_number : Stmt := topS 20
abbrev s_check_houses : Stmt := topS 21
abbrev s_ordered : Stmt := topS 22
abbrev s_has_deed_form : Stmt := topS 24
abbrev s_need_houses : Stmt := topS 25
abbrev s_ready_put : Stmt := topS 26
abbrev s_ready_take : Stmt := topS 27
abbrev s_stand_after : Stmt := topS 28
abbrev s_next_deed : Stmt := topS 29
abbrev s_checked_deeds : Stmt := topS 30
abbrev s_Journal____init__ : Stmt := inClass (topS 31) 0
abbrev s_Journal__from_web : Stmt := inClass (topS 31) 1
abbrev s_Journal__houses : Stmt := inClass (topS 31) 2
abbrev s_Journal__deeds : Stmt := inClass (topS 31) 3
abbrev s_Journal____eq__ : Stmt := inClass (topS 31) 4
abbrev s_Journal____len__ : Stmt := inClass (topS 31) 5
abbrev s_Journal____iter__ : Stmt := inClass (topS 31) 6
abbrev s_Journal__web_at : Stmt := inClass (topS 31) 7
abbrev s_Journal__prefix : Stmt := inClass (topS 31) 8
abbrev s_Journal__with_deed : Stmt := inClass (topS 31) 9
abbrev s_Journal__inverse : Stmt := inClass (topS 31) 10
abbrev s_Journal__settled : Stmt := inClass (topS 31) 11
abbrev s_record_sum : Stmt := topS 33
abbrev s_record_row : Stmt := topS 34
abbrev s_houses_row : Stmt := topS 35
abbrev s_deed_row : Stmt := topS 36
abbrev s_write_log : Stmt := topS 37
abbrev s__law_store : Stmt := topS 39
abbrev s__law_take : Stmt := topS 40
abbrev s__law_between : Stmt := topS 41
abbrev s__law_pick : Stmt := topS 42
abbrev s__law_shuffled : Stmt := topS 43
abbrev s__law_names : Stmt := topS 44
abbrev s__law_text : Stmt := topS 45
abbrev s__law_houses : Stmt := topS 46
abbrev s__law_without : Stmt := topS 47
abbrev s__law_handed_deeds : Stmt := topS 48
abbrev s__law_like : Stmt := topS 49
abbrev s__law_ends : Stmt := topS 50
abbrev s__law_doings : Stmt := topS 51
abbrev s__law_due_sum : Stmt := topS 52
abbrev s__law_sums : Stmt := topS 53
abbrev s__law_bodies : Stmt := topS 54
abbrev s__law_rows : Stmt := topS 55
abbrev s_law : Stmt := topS 56
structure GE (K : PySem.W.Frag) (mg : Str → Option Value) : Prop where
  f__wall : GD K mg "_wall" s__wall
  f_is_letter : GD K mg "is_letter" s_is_letter
  f_is_digit : GD K mg "is_digit" s_is_digit
  f_is_name : GD K mg "is_name" s_is_name
  f_check_name : GD K mg "check_name" s_check_name
  f_check_number : GD K mg "check_number" s_check_number
  f_check_houses : GD K mg "check_houses" s_check_houses
  f_ordered : GD K mg "ordered" s_ordered
  f_has_deed_form : GD K mg "has_deed_form" s_has_deed_form
  f_need_houses : GD K mg "need_houses" s_need_houses
  f_ready_put : GD K mg "ready_put" s_ready_put
  f_ready_take : GD K mg "ready_take" s_ready_take
  f_stand_after : GD K mg "stand_after" s_stand_after
  f_next_deed : GD K mg "next_deed" s_next_deed
  f_checked_deeds : GD K mg "checked_deeds" s_checked_deeds
  f_record_sum : GD K mg "record_sum" s_record_sum
  f_record_row : GD K mg "record_row" s_record_row
  f_houses_row : GD K mg "houses_row" s_houses_row
  f_deed_row : GD K mg "deed_row" s_deed_row
  f_write_log : GD K mg "write_log" s_write_log
  f__law_store : GD K mg "_law_store" s__law_store
  f__law_take : GD K mg "_law_take" s__law_take
  f__law_between : GD K mg "_law_between" s__law_between
  f__law_pick : GD K mg "_law_pick" s__law_pick
  f__law_shuffled : GD K mg "_law_shuffled" s__law_shuffled
  f__law_names : GD K mg "_law_names" s__law_names
  f__law_text : GD K mg "_law_text" s__law_text
  f__law_houses : GD K mg "_law_houses" s__law_houses
  f__law_without : GD K mg "_law_without" s__law_without
  f__law_handed_deeds : GD K mg "_law_handed_deeds" s__law_handed_deeds
  f__law_like : GD K mg "_law_like" s__law_like
  f__law_ends : GD K mg "_law_ends" s__law_ends
  f__law_doings : GD K mg "_law_doings" s__law_doings
  f__law_due_sum : GD K mg "_law_due_sum" s__law_due_sum
  f__law_sums : GD K mg "_law_sums" s__law_sums
  f__law_bodies : GD K mg "_law_bodies" s__law_bodies
  f__law_rows : GD K mg "_law_rows" s__law_rows
  n_len : mg "len" = none
  n_int : mg "int" = none
  n_str : mg "str" = none
  n_ord : mg "ord" = none
  n_tuple : mg "tuple" = none
  n_all : mg "all" = none
  n_list : mg "list" = none
  n_sorted : mg "sorted" = none
  n_min : mg "min" = none
  n_max : mg "max" = none
  n_isinstance : mg "isinstance" = none
  n_bool : mg "bool" = none
  n_dict : mg "dict" = none
  n_range : mg "range" = none
  n_enumerate : mg "enumerate" = none
  n_reversed : mg "reversed" = none
  c_MOST_HOUSES : ∃ t, mg "MOST_HOUSES" = some (.int 32 t)
  c_MOST_LINES : ∃ t, mg "MOST_LINES" = some (.int 96 t)
  c_MOST_DEEDS : ∃ t, mg "MOST_DEEDS" = some (.int 240 t)
  c_LONGEST_NAME : ∃ t, mg "LONGEST_NAME" = some (.int 12 t)
  k_Journal : Cls K (He.ga K "Journal")
  na_Journal_house_row : NoAttr K (He.ga K "Journal") "house_row"
  na_Journal_done_deeds : NoAttr K (He.ga K "Journal") "done_deeds"
  i_Journal____init__ : GC K mg "Journal" "Journal.__init__" 2 s_Journal____init__
  m_Journal__prefix : GM K "Journal" "prefix" "Journal.prefix" s_Journal__prefix
  p_Journal__houses : GP K "Journal" "houses" "Journal.houses" s_Journal__houses
  p_Journal__deeds : GP K "Journal" "deeds" "Journal.deeds" s_Journal__deeds
abbrev PE0 (Qp : D → PHp → Prop) (Ep : XP) : PEnds := { nx := fun _ h' => Qp .non h', rt := Qp, ex := fun c fs vs _ h' => Ep c fs vs h' }
end Pu.L70
set_option Elab.async false
set_option linter.all false
set_option maxRecDepth 100000
set_option maxHeartbeats 0
set_option autoImplicit false
namespace Pu.L70
open PySem PySem.Spec PyProof.Rows L2
def d__wall : DefA := { at_ := fun K => He.fAd K ("_wall", none), name := "_wall", qual := "_wall", params := defArgs s__wall, body := defBody s__wall, scope := defScope s__wall, dfl := [] }
def d_is_letter : DefA := { at_ := fun K => He.fAd K ("is_letter", none), name := "is_letter", qual := "is_letter", params := defArgs s_is_letter, body := defBody s_is_letter, scope := defScope s_is_letter, dfl := [] }
def d_is_digit : DefA := { at_ := fun K => He.fAd K ("is_digit", none), name := "is_digit", qual := "is_digit", params := defArgs s_is_digit, body := defBody s_is_digit, scope := defScope s_is_digit, dfl := [] }
def d_is_name : DefA := { at_ := fun K => He.fAd K ("is_name", none), name := "is_name", qual := "is_name", params := defArgs s_is_name, body := defBody s_is_name, scope := defScope s_is_name, dfl := [] }
def d_check_name : DefA := { at_ := fun K => He.fAd K ("check_name", none), name := "check_name", qual := "check_name", params := defArgs s_check_name, body := defBody s_check_name, scope := defScope s_check_name, dfl := [] }
def d_check_number : DefA := { at_ := fun K => He.fAd K ("check_number", none), name := "check_number", qual := "check_number", params := defArgs s_check_number, body := defBody s_check_number, scope := defScope s_check_number, dfl := [] }
def d_check_houses : DefA := { at_ := fun K => He.fAd K ("check_houses", none), name := "check_houses", qual := "check_houses", params := defArgs s_check_houses, body := defBody s_check_houses, scope := defScope s_check_houses, dfl := [] }
def d_ordered : DefA := { at_ := fun K => He.fAd K ("ordered", none), name := "ordered", qual := "ordered", params := defArgs s_ordered, body := defBody s_ordered, scope := defScope s_ordered, dfl := [] }
def d_has_deed_form : DefA := { at_ := fun K => He.fAd K ("has_deed_form", none), name := "has_deed_form", qual := "has_deed_form", params := defArgs s_has_deed_form, body := defBody s_has_deed_form, scope := defScope s_has_deed_form, dfl := [] }
def d_need_houses : DefA := { at_ := fun K => He.fAd K ("need_houses", none), name := "need_houses", qual := "need_houses", params := defArgs s_need_houses, body := defBody s_need_houses, scope := defScope s_need_houses, dfl := [] }
def d_ready_put : DefA := { at_ := fun K => He.fAd K ("ready_put", none), name := "ready_put", qual := "ready_put", params := defArgs s_ready_put, body := defBody s_ready_put, scope := defScope s_ready_put, dfl := [] }
def d_ready_take : DefA := { at_ := fun K => He.fAd K ("ready_take", none), name := "ready_take", qual := "ready_take", params := defArgs s_ready_take, body := defBody s_ready_take, scope := defScope s_ready_take, dfl := [] }
def d_stand_after : DefA := { at_ := fun K => He.fAd K ("stand_after", none), name := "stand_after", qual := "stand_after", params := defArgs s_stand_after, body := defBody s_stand_after, scope := defScope s_stand_after, dfl := [] }
def d_next_deed : DefA := { at_ := fun K => He.fAd K ("next_deed", none), name := "next_deed", qual := "next_deed", params := defArgs s_next_deed, body := defBody s_next_deed, scope := defScope s_next_deed, dfl := [] }
def d_checked_deeds : DefA := { at_ := fun K => He.fAd K ("checked_deeds", none), name := "checked_deeds", qual := "checked_deeds", params := defArgs s_checked_deeds, body := defBody s_checked_deeds, scope := defScope s_checked_deeds, dfl := [] }
def d_record_sum : DefA := { at_ := fun K => He.fAd K ("record_sum", none), name := "record_sum", qual := "record_sum", params := defArgs s_record_sum, body := defBody s_record_sum, scope := defScope s_record_sum, dfl := [] }
def d_record_row : DefA := { at_ := fun K => He.fAd K ("record_row", none), name := "record_row", qual := "record_row", params := defArgs s_record_row, body := defBody s_record_row, scope := defScope s_record_row, dfl := [] }
def d_houses_row : DefA := { at_ := fun K => He.fAd K ("houses_row", none), name := "houses_row", qual := "houses_row", params := defArgs s_houses_row, body := defBody s_houses_row, scope := defScope s_houses_row, dfl := [] }
def d_deed_row : DefA := { at_ := fun K => He.fAd K ("deed_row", none), name := "deed_row", qual := "deed_row", params := defArgs s_deed_row, body := defBody s_deed_row, scope := defScope s_deed_row, dfl := [] }
def d_write_log : DefA := { at_ := fun K => He.fAd K ("write_log", none), name := "write_log", qual := "write_log", params := defArgs s_write_log, body := defBody s_write_log, scope := defScope s_write_log, dfl := [] }
def d__law_store : DefA := { at_ := fun K => He.fAd K ("_law_store", none), name := "_law_store", qual := "_law_store", params := defArgs s__law_store, body := defBody s__law_store, scope := defScope s__law_store, dfl := [] }
def d__law_take : DefA := { at_ := fun K => He.fAd K ("_law_take", none), name := "_law_take", qual := "_law_take", params := defArgs s__law_take, body := defBody s__law_take, scope := defScope s__law_take, dfl := [] }
def d__law_between : DefA := { at_ := fun K => He.fAd K ("_law_between", none), name := "_law_between", qual := "_law_between", params := defArgs s__law_between, body := defBody s__law_between, scope := defScope s__law_between, dfl := [] }
def d__law_pick : DefA := { at_ := fun K => He.fAd K ("_law_pick", none), name := "_law_pick", qual := "_law_pick", params := defArgs s__law_pick, body := defBody s__law_pick, scope := defScope s__law_pick, dfl := [] }
def d__law_shuffled : DefA := { at_ := fun K => He.fAd K ("_law_shuffled", none), name := "_law_shuffled", qual := "_law_shuffled", params := defArgs s__law_shuffled, body := defBody s__law_shuffled, scope := defScope s__law_shuffled, dfl := [] }
def d__law_names : DefA := { at_ := fun K => He.fAd K ("_law_names", none), name := "_law_names", qual := "_law_names", params := defArgs s__law_names, body := defBody s__law_names, scope := defScope s__law_names, dfl := [] }
def d__law_text : DefA := { at_ := fun K => He.fAd K ("_law_text", none), name := "_law_text", qual := "_law_text", params := defArgs s__law_text, body := defBody s__law_text, scope := defScope s__law_text, dfl := [] }
def d__law_houses : DefA := { at_ := fun K => He.fAd K ("_law_houses", none), name := "_law_houses", qual := "_law_houses", params := defArgs s__law_houses, body := defBody s__law_houses, scope := defScope s__law_houses, dfl := [] }
def d__law_without : DefA := { at_ := fun K => He.fAd K ("_law_without", none), name := "_law_without", qual := "_law_without", params := defArgs s__law_without, body := defBody s__law_without, scope := defScope s__law_without, dfl := [] }
def d__law_handed_deeds : DefA := { at_ := fun K => He.fAd K ("_law_handed_deeds", none), name := "_law_handed_deeds", qual := "_law_handed_deeds", params := defArgs s__law_handed_deeds, body := defBody s__law_handed_deeds, scope := defScope s__law_handed_deeds, dfl := [] }
def d__law_like : DefA := { at_ := fun K => He.fAd K ("_law_like", none), name := "_law_like", qual := "_law_like", params := defArgs s__law_like, body := defBody s__law_like, scope := defScope s__law_like, dfl := [] }
def d__law_ends : DefA := { at_ := fun K => He.fAd K ("_law_ends", none), name := "_law_ends", qual := "_law_ends", params := defArgs s__law_ends, body := defBody s__law_ends, scope := defScope s__law_ends, dfl := [] }
def d__law_doings : DefA := { at_ := fun K => He.fAd K ("_law_doings", none), name := "_law_doings", qual := "_law_doings", params := defArgs s__law_doings, body := defBody s__law_doings, scope := defScope s__law_doings, dfl := [] }
def d__law_due_sum : DefA := { at_ := fun K => He.fAd K ("_law_due_sum", none), name := "_law_due_sum", qual := "_law_due_sum", params := defArgs s__law_due_sum, body := defBody s__law_due_sum, scope := defScope s__law_due_sum, dfl := [] }
def d__law_sums : DefA := { at_ := fun K => He.fAd K ("_law_sums", none), name := "_law_sums", qual := "_law_sums", params := defArgs s__law_sums, body := defBody s__law_sums, scope := defScope s__law_sums, dfl := [] }
def d__law_bodies : DefA := { at_ := fun K => He.fAd K ("_law_bodies", none), name := "_law_bodies", qual := "_law_bodies", params := defArgs s__law_bodies, body := defBody s__law_bodies, scope := defScope s__law_bodies, dfl := [] }
def d__law_rows : DefA := { at_ := fun K => He.fAd K ("_law_rows", none), name := "_law_rows", qual := "_law_rows", params := defArgs s__law_rows, body := defBody s__law_rows, scope := defScope s__law_rows, dfl := [] }
def d_law : DefA := { at_ := fun K => He.fAd K ("law", none), name := "law", qual := "law", params := defArgs s_law, body := defBody s_law, scope := defScope s_law, dfl := [] }
def d_Journal____init__ : DefA := { at_ := fun K => He.fAd K ("Journal", some "__init__"), name := "__init__", qual := "Journal.__init__", params := defArgs s_Journal____init__, body := defBody s_Journal____init__, scope := defScope s_Journal____init__, dfl := [.adr (He.dflAt ("Journal", some "__init__") 0), .adr (He.dflAt ("Journal", some "__init__") 1)] }
def d_Journal__prefix : DefA := { at_ := fun K => He.fAd K ("Journal", some "prefix"), name := "prefix", qual := "Journal.prefix", params := defArgs s_Journal__prefix, body := defBody s_Journal__prefix, scope := defScope s_Journal__prefix, dfl := [] }
def d_Journal__houses : DefA := { at_ := fun K => propG K "Journal" "houses", name := "houses", qual := "Journal.houses", params := defArgs s_Journal__houses, body := defBody s_Journal__houses, scope := defScope s_Journal__houses, dfl := [] }
def d_Journal__deeds : DefA := { at_ := fun K => propG K "Journal" "deeds", name := "deeds", qual := "Journal.deeds", params := defArgs s_Journal__deeds, body := defBody s_Journal__deeds, scope := defScope s_Journal__deeds, dfl := [] }
def fn : List DefA := [d__wall, d_is_letter, d_is_digit, d_is_name, d_check_name, d_check_number, d_check_houses, d_ordered, d_has_deed_form, d_need_houses, d_ready_put, d_ready_take, d_stand_after, d_next_deed, d_checked_deeds, d_record_sum, d_record_row, d_houses_row, d_deed_row, d_write_log, d__law_store, d__law_take, d__law_between, d__law_pick, d__law_shuffled, d__law_names, d__law_text, d__law_houses, d__law_without, d__law_handed_deeds, d__law_like, d__law_ends, d__law_doings, d__law_due_sum, d__law_sums, d__law_bodies, d__law_rows, d_law, d_Journal____init__, d_Journal__prefix, d_Journal__houses, d_Journal__deeds]
def fa : List He.Fa := [.glo "_wall", .glo "is_letter", .glo "is_digit", .glo "is_name", .glo "check_name", .glo "check_number", .glo "check_houses", .glo "ordered", .glo "has_deed_form", .glo "need_houses", .glo "ready_put", .glo "ready_take", .glo "stand_after", .glo "next_deed", .glo "checked_deeds", .glo "record_sum", .glo "record_row", .glo "houses_row", .glo "deed_row", .glo "write_log", .glo "_law_store", .glo "_law_take", .glo "_law_between", .glo "_law_pick", .glo "_law_shuffled", .glo "_law_names", .glo "_law_text", .glo "_law_houses", .glo "_law_without", .glo "_law_handed_deeds", .glo "_law_like", .glo "_law_ends", .glo "_law_doings", .glo "_law_due_sum", .glo "_law_sums", .glo "_law_bodies", .glo "_law_rows", .glo "law", .free "len", .free "int", .free "str", .free "ord", .free "tuple", .free "all", .free "list", .free "sorted", .free "min", .free "max", .free "isinstance", .free "bool", .free "dict", .free "range", .free "enumerate", .free "reversed", .int "MOST_HOUSES" 32, .int "MOST_LINES" 96, .int "MOST_DEEDS" 240, .int "LONGEST_NAME" 12, .glo "Journal", .cls "Journal", .mkr "Journal", .meth "Journal" "prefix", .noat "Journal" "house_row", .noat "Journal" "done_deeds"]
def nm0 : List PySem.Str := ["_wall", "KeptError", "BadName", "NoHouse", "NoLine", "SelfLine", "Taken", "BadNumber", "TooMany", "BadDeed", "MOST_HOUSES", "MOST_LINES", "MOST_DEEDS", "LONGEST_NAME", "is_letter", "is_digit", "is_name", "check_name", "check_number", "check_houses"]
def nm1 : List PySem.Str := ["ordered", "has_deed_form", "need_houses", "ready_put", "ready_take", "stand_after", "next_deed", "checked_deeds", "Journal", "record_sum", "record_row", "houses_row", "deed_row", "write_log", "_law_store", "_law_take", "_law_between", "_law_pick", "_law_shuffled", "_law_names"]
def nm2 : List PySem.Str := ["_law_text", "_law_houses", "_law_without", "_law_handed_deeds", "_law_like", "_law_ends", "_law_doings", "_law_due_sum", "_law_sums", "_law_bodies", "_law_rows"]
def nms : List PySem.Str := nm0 ++ nm1 ++ nm2
def exB (K : PySem.W.Frag) : Bool := propB K "Journal" "houses" && propB K "Journal" "deeds"
abbrev R : PySem.W.OpenRow := PySem.W.OpenLaw.row PySem.Challenge.rw_keptjoined_k70_record_sums
abbrev hk : PySem.W.Hook := hookQ 6 fa fn exB
def ob (s : PySem.W.SharedT) : He.AlD × Bool := obsQG 6 fa fn exB (HandSHeadRun.getT s)
theorem ob_eq (s : PySem.W.SharedT) : ob s = hk.obs s.abs := obsQG_eq (HandSHeadRun.getT_eq s)
theorem run (w : World) : HandSHeadRun.RunEq R (PySem.W.view R.prog [56]) hk ob 20000 nms w := by
  intro os
  kernel_rfl
end Pu.L70
set_option Elab.async false
set_option linter.all false
set_option maxRecDepth 100000
set_option maxHeartbeats 4000000
set_option autoImplicit false
namespace Pu.L70
open PySem PySem.Spec PyProof.Rows L2
theorem chr_lt {a b : Nat} : ([b] < [a]) ↔ b < a := by
  rw [List.cons_lt_cons_iff]
  simp
theorem le_chr {a b : Nat} : (!decide ([b] < [a])) = decide (a ≤ b) := by
  by_cases h : a ≤ b
  · rw [decide_eq_true h, decide_eq_false (by rw [chr_lt]; omega)]; rfl
  · rw [decide_eq_false h, decide_eq_true (by rw [chr_lt]; omega)]; rfl
def isLc (c : Nat) : Bool := decide (97 ≤ c) && decide (c ≤ 122)
def isDc (c : Nat) : Bool := decide (48 ≤ c) && decide (c ≤ 57)
def nameB (z : Str) : Bool := decide (1 ≤ z.length) && decide (z.length ≤ 12) && (z.cps.toList.head?.any isLc) && z.cps.toList.all fun c => isLc c || isDc c
theorem take_map {α β : Type} {xs : List α} {f : α → β} {i : Nat} {d : α} (h : xs[i]? = some d) : (xs.take (i + 1)).map f = (xs.take i).map f ++ [f d] := by
  rw [List.take_succ, h, List.map_append]
  rfl
theorem take_snoc {α : Type} {xs : List α} {i : Nat} {d : α} (h : xs[i]? = some d) : xs.take (i + 1) = xs.take i ++ [d] := by
  rw [List.take_succ, h]
  rfl
theorem map_get {α β : Type} {xs : List α} {f : α → β} {i : Nat} {d : β} (h : (xs.map f)[i]? = some d) : ∃ a, xs[i]? = some a ∧ d = f a := by
  rw [List.getElem?_map] at h
  cases e : xs[i]? with
  | none => rw [e] at h; cases h
  | some a => rw [e] at h; cases h; exact ⟨a, rfl, rfl⟩
theorem get_lt {α : Type} {xs : List α} {i : Nat} {d : α} (h : xs[i]? = some d) : i < xs.length := Classical.byContradiction fun z => by rw [List.getElem?_eq_none (by omega)] at h; cases h
theorem ofS_len (s : String) : (Str.ofString s).cps.toList = s.toList.map Char.toNat := by
  rw [Str.ofString_eq_toList]
theorem signs_get {z : Str} {i : Nat} {d : D} (h : (signs z)[i]? = some d) : ∃ c, z.cps.toList[i]? = some c ∧ d = .str ⟨#[c]⟩ := by
  unfold signs at h
  rw [List.getElem?_map] at h
  cases e : z.cps.toList[i]? with
  | none => rw [e] at h; cases h
  | some c => rw [e] at h; cases h; exact ⟨c, rfl, rfl⟩
theorem signs_mem {z : Str} {d : D} (h : d ∈ signs z) : ∃ c, c ∈ z.cps.toList ∧ d = .str ⟨#[c]⟩ := by
  unfold signs at h
  obtain ⟨c, h1, rfl⟩ := List.mem_map.mp h
  exact ⟨c, h1, rfl⟩
theorem signs_len {z : Str} : (signs z).length = z.length := by
  unfold signs
  rw [List.length_map, Array.length_toList]
  rfl
end Pu.L70
set_option Elab.async false
set_option linter.all false
set_option maxRecDepth 100000
set_option maxHeartbeats 4000000
set_option autoImplicit false
namespace Pu.L70
open PySem PySem.Spec PyProof.Rows L2
variable {P : Program} {w : World} {K : PySem.W.Frag} {mg : Str → Option Value} {base : Heap}
def sp__law_take : Spec := fun ds h Q Ex => ∃ (m : Int), ds = [.sto, .int m] ∧ m < 2 ^ 30 ∧ ∀ r : Int, 0 ≤ r → (r < m ∨ r = 0) → Q (.int r) h
theorem sc__law_take : FnScope ["_law_store_here", "_law_many", "_law_digits", "_law_tick", "_law_cells", "_law_place", "_law_cell", "_law_mixed"] ["_law_store_here", "_law_many"] (defScope s__law_take) := ⟨rfl, rfl, rfl, by decide +kernel, rfl, by decide +kernel, by decide +kernel⟩
def q__law_take : RS := (qSeq (qIfS (qTest (qBin ltD (qPeek 1) (qC (.int 2)))) (qRet (qC (.int 0))) qNext)
  (qSeq (qSet 2 (qUn intD (qBin ixD (qPeek 0) (qC (.int 2)))))
  (qSeq (qIfS (qTest (qBin gtD (qPeek 2) (qC (.int 0)))) (qSeq (qPutS (qBin fdivD (qPeek 2) (qPeek 1)) (qC (.int 2)) (qVar 0))
  (qRet (qBin modD (qPeek 2) (qPeek 1)))) qNext)
  (qSeq (qPutS (qBin addD (qUn intD (qBin ixD (qPeek 0) (qC (.int 4)))) (qC (.int 1))) (qC (.int 4)) (qVar 0))
  (qSeq (qSet 3 (qUn intD (qBin ixD (qPeek 0) (qC (.int 4)))))
  (qSeq (qSet 4 (qBin ixD (qPeek 0) (qC (.int 0))))
  (qSeq (qSet 5 (qUn intD (qBin ixD (qPeek 0) (qC (.int 1)))))
  (qSeq (qIfS (qTest (qBin ltD (qPeek 5) (qUn lenD (qPeek 4)))) (qSeq (qSet 6 (qUn intD (qBin ixD (qPeek 4) (qPeek 5))))
  (qSeq (qPutS (qBin addD (qPeek 5) (qC (.int 1))) (qC (.int 1)) (qVar 0))
  (qSeq (qIfS (qTest (qBin geD (qPeek 6) (qBin powD (qC (.int 10)) (qC (.int 18))))) (qSeq (qPutS (qBin fdivD (qPeek 6) (qPeek 1)) (qC (.int 2)) (qVar 0))
  (qRet (qBin modD (qPeek 6) (qPeek 1)))) qNext)
  (qSet 7 (qBin modD (qBin addD (qBin addD (qBin mulD (qPeek 6) (qC (.int 48271))) (qBin mulD (qPeek 3) (qC (.int 69621)))) (qC (.int 104729))) (qC (.int 2147483647))))))) (qSeq (qSet 7 (qBin modD (qBin addD (qBin addD (qBin mulD (qUn intD (qBin ixD (qPeek 0) (qC (.int 3)))) (qC (.int 48271))) (qBin mulD (qPeek 3) (qC (.int 69621)))) (qC (.int 1))) (qC (.int 2147483647))))
  (qPutS (qVar 7) (qC (.int 3)) (qVar 0))))
  (qRet (qBin modD (qBin modD (qBin addD (qBin mulD (qPeek 7) (qPeek 7)) (qBin fdivD (qPeek 7) (qC (.int 1009)))) (qC (.int 2147483399))) (qPeek 1)))))))))))
theorem w__law_take (G : GE K mg)  : WkOk P w K mg base ["_law_store_here", "_law_many", "_law_digits", "_law_tick", "_law_cells", "_law_place", "_law_cell", "_law_mixed"] "_law_take" s__law_take 0 q__law_take := fun f cdv A outer s H E hr tk => by
  have S := sc__law_take
  unfold q__law_take
  exact (qss_cons (qs_if (qt_cmp op_ltAll ops_lt (qk_var 1) (qe_int).k (by rfl)) (qss_one (qs_ret qe_int)) qss_nil)
    (qss_cons (qs_set 2 (qe_t1 call_intAll cs_int G.n_int (qe_ix (ix_all hr.u1) ops_ix (qk_var 0) (qe_int).k).k) S.nd)
    (qss_cons (qs_if (qt_cmp op_gtAll ops_gt (qk_var 2) (qe_int).k (by rfl)) (qss_cons (qs_putS hr.u1 (qe_bin op_fdivN ops_fdiv (qk_var 2) (qk_var 1)) qe_int (qe_var 0))
    (qss_one (qs_ret (qe_bin op_modN ops_mod (qk_var 2) (qk_var 1))))) qss_nil)
    (qss_cons (qs_putS hr.u1 (qe_bin op_addAll ops_add (qe_t1 call_intAll cs_int G.n_int (qe_ix (ix_all hr.u1) ops_ix (qk_var 0) (qe_int).k).k).k (qe_int).k) qe_int (qe_var 0))
    (qss_cons (qs_set 3 (qe_t1 call_intAll cs_int G.n_int (qe_ix (ix_all hr.u1) ops_ix (qk_var 0) (qe_int).k).k) S.nd)
    (qss_cons (qs_set 4 (qe_ix (ix_all hr.u1) ops_ix (qk_var 0) (qe_int).k) S.nd)
    (qss_cons (qs_set 5 (qe_t1 call_intAll cs_int G.n_int (qe_ix (ix_all hr.u1) ops_ix (qk_var 0) (qe_int).k).k) S.nd)
    (qss_cons (qs_if (qt_cmp op_ltAll ops_lt (qk_var 5) (qe_b1 call_lenAll cs_len G.n_len (qk_var 4)).k (by rfl)) (qss_cons (qs_set 6 (qe_t1 call_intAll cs_int G.n_int (qe_ix (ix_all hr.u1) ops_ix (qk_var 4) (qk_var 5)).k) S.nd)
    (qss_cons (qs_putS hr.u1 (qe_bin op_addAll ops_add (qk_var 5) (qe_int).k) qe_int (qe_var 0))
    (qss_cons (qs_if (qt_cmp op_geAll ops_ge (qk_var 6) (qe_bin op_pow ops_pow (qe_int).k (qe_int).k).k (by rfl)) (qss_cons (qs_putS hr.u1 (qe_bin op_fdivN ops_fdiv (qk_var 6) (qk_var 1)) qe_int (qe_var 0))
    (qss_one (qs_ret (qe_bin op_modN ops_mod (qk_var 6) (qk_var 1))))) qss_nil)
    (qss_one (qs_set 7 (qe_bin op_modN ops_mod (qe_bin op_addAll ops_add (qe_bin op_addAll ops_add (qe_bin op_mulAll ops_mul (qk_var 6) (qe_int).k).k (qe_bin op_mulAll ops_mul (qk_var 3) (qe_int).k).k).k (qe_int).k).k (qe_int).k) S.nd))))) (qss_cons (qs_set 7 (qe_bin op_modN ops_mod (qe_bin op_addAll ops_add (qe_bin op_addAll ops_add (qe_bin op_mulAll ops_mul (qe_t1 call_intAll cs_int G.n_int (qe_ix (ix_all hr.u1) ops_ix (qk_var 0) (qe_int).k).k).k (qe_int).k).k (qe_bin op_mulAll ops_mul (qk_var 3) (qe_int).k).k).k (qe_int).k).k (qe_int).k) S.nd)
    (qss_one (qs_putS hr.u1 (qe_var 7) qe_int (qe_var 0)))))
    (qss_one (qs_ret (qe_bin op_modN ops_mod (qe_bin op_modN ops_mod (qe_bin op_addAll ops_add (qe_bin op_mulAll ops_mul (qk_var 7) (qk_var 7)).k (qe_bin op_fdivN ops_fdiv (qk_var 7) (qe_int).k).k).k (qe_int).k).k (qk_var 1))))))))))))
theorem v__law_take (ds : List D) (h : PHp) (Qp : D → PHp → Prop) (Ep : XP) : sp__law_take ds h Qp Ep → q__law_take (PE0 Qp Ep) (startC 8 ds) h := by
  rintro ⟨m, rfl, hm, hQ⟩
  simp only [q__law_take, startC, qVar, qPeek, qC, qBin, qUn, qNil, qCons, qTup, qLst, qCall, asB, qTest, qAnd, qOr, qNot, qAndV, qOrV, qNotV, qIfE, deref, qNext, qSeq, qSet, qSetN, qSetP, qRet, qRetN, qDrop, qIfS, qFreeze, qApp, onOwnL, qAsg, gqName, gqNil, gqCons, gqTup, qM1, qRng1, qEnum, qAny, asI, asL, itemsD, qPart, qNoPart, qCut, cutD, qCutL, cutLD, addD, subD, mulD, modD, fdivD, eqD, neD, eqS, onB, ltD, leD, gtD, geD, isND, lenD, intD, strD, ordD, listD, tupleD, ixD, PEnds.at, wipeC, qYes,
    List.map_cons, List.map_nil, List.replicate, List.cons_append, List.nil_append, List.append_assoc, List.getElem?_cons_zero, List.getElem?_cons_succ, List.set_cons_zero, List.set_cons_succ, List.length_cons, List.length_nil, Option.map_some, if_true, if_false, Bool.not_true, Bool.not_false, decide_eq_true_eq, Bool.not_eq_true', decide_eq_false_iff_not, Nat.reduceAdd, Nat.reduceSub, List.replicate_succ, List.replicate_zero, true_and, and_true, reduceCtorEq, isStr, qPutS, putS, powD, CPow, qPut, onOwn, setD, qPutP, onPtr, qDelP, delD, qPutF, setF, qProp, qMeth, qMake, isObj, fldD, minD, maxD, qChain, revD, lrevD, isiD, tyD, qOrT, qAndT, onTru, truD, qJoined, qjCons, qjNil, fmtD, fmt5D, D.int.injEq, D.str.injEq, D.lst.injEq, D.tup.injEq, D.bl.injEq, false_implies, true_implies, ne_eq, not_false_eq_true, not_true_eq_false, forall_const, implies_true, false_and, and_false, exists_eq_left, exists_eq_left', Int.reduceEq, Int.reduceLT, Int.reduceNe, Int.reduceLE, or_false, false_or, or_true, true_or, qLc, qFor, qWhile, allD, sortAD, wipeC, isiS, List.any_cons, List.any_nil, Bool.or_false, Bool.or_true, Bool.true_or, Bool.false_or, Bool.and_self, Bool.false_and, Bool.and_false, Bool.and_true, Bool.true_and, String.reduceBEq, Bool.false_eq_true, Bool.true_eq_false]
  have hc : ∀ n : Int, ¬ m < 2 → CDivN n m := fun n z => ⟨by omega, by omega⟩
  have hr : ∀ n : Int, ¬ m < 2 → Qp (D.int (n.fmod m)) h := fun n z => hQ _ (fmod_pos (by omega)).1 (.inl (fmod_pos (by omega)).2)
  have hc2 : ∀ n : Int, CDivN n 1009 := fun n => ⟨by decide, by decide⟩
  have mx : ∀ a b : Int, 0 ≤ a → a < 2147483647 → CMul a b := fun a b h0 h1 => .inl ⟨by omega, by omega⟩
  have lit : ∀ a b : Int, 0 ≤ b → b < 2147483647 → CMul a b := fun a b h0 h1 => .inr ⟨by omega, by omega⟩
  split
  · exact hQ 0 (Int.le_refl _) (.inr rfl)
  · rename_i h2
    intro n
    split
    · exact ⟨hc _ h2, by omega, hr _ h2⟩
    · intro n ns pl hpl
      split
      · rename_i hlt
        obtain ⟨a, ha, _⟩ := atI_map (xs := ns) (f := D.int) hpl (by simpa using hlt)
        refine ⟨_, ha, ?_⟩
        simp only [startC, qVar, qPeek, qC, qBin, qUn, qNil, qCons, qTup, qLst, qCall, asB, qTest, qAnd, qOr, qNot, qAndV, qOrV, qNotV, qIfE, deref, qNext, qSeq, qSet, qSetN, qSetP, qRet, qRetN, qDrop, qIfS, qFreeze, qApp, onOwnL, qAsg, gqName, gqNil, gqCons, gqTup, qM1, qRng1, qEnum, qAny, asI, asL, itemsD, qPart, qNoPart, qCut, cutD, qCutL, cutLD, addD, subD, mulD, modD, fdivD, eqD, neD, eqS, onB, ltD, leD, gtD, geD, isND, lenD, intD, strD, ordD, listD, tupleD, ixD, PEnds.at, wipeC, qYes,
    List.map_cons, List.map_nil, List.replicate, List.cons_append, List.nil_append, List.append_assoc, List.getElem?_cons_zero, List.getElem?_cons_succ, List.set_cons_zero, List.set_cons_succ, List.length_cons, List.length_nil, Option.map_some, if_true, if_false, Bool.not_true, Bool.not_false, decide_eq_true_eq, Bool.not_eq_true', decide_eq_false_iff_not, Nat.reduceAdd, Nat.reduceSub, List.replicate_succ, List.replicate_zero, true_and, and_true, reduceCtorEq, isStr, qPutS, putS, powD, CPow, qPut, onOwn, setD, qPutP, onPtr, qDelP, delD, qPutF, setF, qProp, qMeth, qMake, isObj, fldD, minD, maxD, qChain, revD, lrevD, isiD, tyD, qOrT, qAndT, onTru, truD, qJoined, qjCons, qjNil, fmtD, fmt5D, D.int.injEq, D.str.injEq, D.lst.injEq, D.tup.injEq, D.bl.injEq, false_implies, true_implies, ne_eq, not_false_eq_true, not_true_eq_false, forall_const, implies_true, false_and, and_false, exists_eq_left, exists_eq_left', Int.reduceEq, Int.reduceLT, Int.reduceNe, Int.reduceLE, or_false, false_or, or_true, true_or, qLc, qFor, qWhile, allD, sortAD, wipeC, isiS, List.any_cons, List.any_nil, Bool.or_false, Bool.or_true, Bool.true_or, Bool.false_or, Bool.and_self, Bool.false_and, Bool.and_false, Bool.and_true, Bool.true_and, String.reduceBEq, Bool.false_eq_true, Bool.true_eq_false]
        refine ⟨by omega, by decide, ?_⟩
        split
        · exact ⟨hc _ h2, by omega, hr _ h2⟩
        · have b := fmod_pos (a := a * 48271 + n * 69621 + 104729) (m := 2147483647) (by decide)
          exact ⟨lit _ _ (by decide) (by decide), lit _ _ (by decide) (by decide), mx _ _ b.1 b.2, hc2 _, by omega, hr _ h2⟩
      · intro st
        have b := fmod_pos (a := st * 48271 + n * 69621 + 1) (m := 2147483647) (by decide)
        exact ⟨lit _ _ (by decide) (by decide), lit _ _ (by decide) (by decide), mx _ _ b.1 b.2, hc2 _, by omega, hr _ h2⟩
theorem c__law_take (G : GE K mg) : Cal P w K mg base "_law_take" ["_law_store_here", "_law_many"] 1 sp__law_take :=
  cal_of G.f__law_take sc__law_take (fun _ _ F => F.bindsN fun _ _ _ _ _ _ us hl => match us, hl with | [_, _], _ => rfl) (fun _ _ _ _ ⟨_, e, _⟩ => by rw [e]; rfl) (w__law_take G ) v__law_take
end Pu.L70
set_option Elab.async false
set_option linter.all false
set_option maxRecDepth 100000
set_option maxHeartbeats 4000000
set_option autoImplicit false
namespace Pu.L70
open PySem PySem.Spec PyProof.Rows L2
variable {P : Program} {w : World} {K : PySem.W.Frag} {mg : Str → Option Value} {base : Heap}
def sp__law_between : Spec := fun ds h Q Ex => ∃ (a b : Int), ds = [.sto, .int a, .int b] ∧ b - a + 1 < 2 ^ 30 ∧ ∀ r : Int, a ≤ r → (r ≤ b ∨ r = a) → Q (.int r) h
theorem sc__law_between : FnScope ["_law_store_here", "_law_least", "_law_most", "_law_edge"] ["_law_store_here", "_law_least", "_law_most"] (defScope s__law_between) := ⟨rfl, rfl, rfl, by decide +kernel, rfl, by decide +kernel, by decide +kernel⟩
def q__law_between : RS := (qSeq (qIfS (qTest (qBin leD (qPeek 2) (qPeek 1))) (qRet (qVar 1)) qNext)
  (qSeq (qSet 3 (qCall sp__law_take (qCons (qVar 0) (qCons (qC (.int 9)) qNil))))
  (qSeq (qIfS (qTest (qBin eqD (qPeek 3) (qC (.int 0)))) (qRet (qVar 1)) qNext)
  (qSeq (qIfS (qTest (qBin eqD (qPeek 3) (qC (.int 1)))) (qRet (qVar 2)) qNext)
  (qSeq (qIfS (qTest (qBin eqD (qPeek 3) (qC (.int 2)))) (qRet (qBin addD (qPeek 1) (qC (.int 1)))) qNext)
  (qRet (qBin addD (qPeek 1) (qCall sp__law_take (qCons (qVar 0) (qCons (qBin addD (qBin subD (qPeek 2) (qPeek 1)) (qC (.int 1))) qNil))))))))))
theorem w__law_between (G : GE K mg) (C__law_take : Cal P w K mg base "_law_take" ["_law_store_here", "_law_many"] 1 sp__law_take) : WkOk P w K mg base ["_law_store_here", "_law_least", "_law_most", "_law_edge"] "_law_between" s__law_between 1 q__law_between := fun f cdv A outer s H E hr tk => by
  have S := sc__law_between
  unfold q__law_between
  exact (qss_cons (qs_if (qt_cmp op_leAll ops_le (qk_var 2) (qk_var 1) (by rfl)) (qss_one (qs_ret (qe_var 1))) qss_nil)
    (qss_cons (qs_set 3 (qe_callC C__law_take hr tk (qa_cons (qe_var 0) (qa_cons qe_int qa_nil))) S.nd)
    (qss_cons (qs_if (qt_cmp op_eq ops_eq (qk_var 3) (qe_int).k (by rfl)) (qss_one (qs_ret (qe_var 1))) qss_nil)
    (qss_cons (qs_if (qt_cmp op_eq ops_eq (qk_var 3) (qe_int).k (by rfl)) (qss_one (qs_ret (qe_var 2))) qss_nil)
    (qss_cons (qs_if (qt_cmp op_eq ops_eq (qk_var 3) (qe_int).k (by rfl)) (qss_one (qs_ret (qe_bin op_addAll ops_add (qk_var 1) (qe_int).k))) qss_nil)
    (qss_one (qs_ret (qe_bin op_addAll ops_add (qk_var 1) (qe_callC C__law_take hr tk (qa_cons (qe_var 0) (qa_cons (qe_bin op_addAll ops_add (qe_bin op_sub ops_sub (qk_var 2) (qk_var 1)).k (qe_int).k) qa_nil))).k))))))))
theorem v__law_between (ds : List D) (h : PHp) (Qp : D → PHp → Prop) (Ep : XP) : sp__law_between ds h Qp Ep → q__law_between (PE0 Qp Ep) (startC 4 ds) h := by
  rintro ⟨a, b, rfl, hb, hQ⟩
  simp only [q__law_between, startC, qVar, qPeek, qC, qBin, qUn, qNil, qCons, qTup, qLst, qCall, asB, qTest, qAnd, qOr, qNot, qAndV, qOrV, qNotV, qIfE, deref, qNext, qSeq, qSet, qSetN, qSetP, qRet, qRetN, qDrop, qIfS, qFreeze, qApp, onOwnL, qAsg, gqName, gqNil, gqCons, gqTup, qM1, qRng1, qEnum, qAny, asI, asL, itemsD, qPart, qNoPart, qCut, cutD, qCutL, cutLD, addD, subD, mulD, modD, fdivD, eqD, neD, eqS, onB, ltD, leD, gtD, geD, isND, lenD, intD, strD, ordD, listD, tupleD, ixD, PEnds.at, wipeC, qYes,
    List.map_cons, List.map_nil, List.replicate, List.cons_append, List.nil_append, List.append_assoc, List.getElem?_cons_zero, List.getElem?_cons_succ, List.set_cons_zero, List.set_cons_succ, List.length_cons, List.length_nil, Option.map_some, if_true, if_false, Bool.not_true, Bool.not_false, decide_eq_true_eq, Bool.not_eq_true', decide_eq_false_iff_not, Nat.reduceAdd, Nat.reduceSub, List.replicate_succ, List.replicate_zero, true_and, and_true, reduceCtorEq, isStr, qPutS, putS, powD, CPow, qPut, onOwn, setD, qPutP, onPtr, qDelP, delD, qPutF, setF, qProp, qMeth, qMake, isObj, fldD, minD, maxD, qChain, revD, lrevD, isiD, tyD, qOrT, qAndT, onTru, truD, qJoined, qjCons, qjNil, fmtD, fmt5D, D.int.injEq, D.str.injEq, D.lst.injEq, D.tup.injEq, D.bl.injEq, false_implies, true_implies, ne_eq, not_false_eq_true, not_true_eq_false, forall_const, implies_true, false_and, and_false, exists_eq_left, exists_eq_left', Int.reduceEq, Int.reduceLT, Int.reduceNe, Int.reduceLE, or_false, false_or, or_true, true_or, qLc, qFor, qWhile, allD, sortAD, wipeC, isiS, List.any_cons, List.any_nil, Bool.or_false, Bool.or_true, Bool.true_or, Bool.false_or, Bool.and_self, Bool.false_and, Bool.and_false, Bool.and_true, Bool.true_and, String.reduceBEq, Bool.false_eq_true, Bool.true_eq_false]
  split
  · exact hQ _ (Int.le_refl _) (.inr rfl)
  · refine ⟨_, rfl, by decide, fun r r0 r1 => ?_⟩
    simp only [startC, qVar, qPeek, qC, qBin, qUn, qNil, qCons, qTup, qLst, qCall, asB, qTest, qAnd, qOr, qNot, qAndV, qOrV, qNotV, qIfE, deref, qNext, qSeq, qSet, qSetN, qSetP, qRet, qRetN, qDrop, qIfS, qFreeze, qApp, onOwnL, qAsg, gqName, gqNil, gqCons, gqTup, qM1, qRng1, qEnum, qAny, asI, asL, itemsD, qPart, qNoPart, qCut, cutD, qCutL, cutLD, addD, subD, mulD, modD, fdivD, eqD, neD, eqS, onB, ltD, leD, gtD, geD, isND, lenD, intD, strD, ordD, listD, tupleD, ixD, PEnds.at, wipeC, qYes,
    List.map_cons, List.map_nil, List.replicate, List.cons_append, List.nil_append, List.append_assoc, List.getElem?_cons_zero, List.getElem?_cons_succ, List.set_cons_zero, List.set_cons_succ, List.length_cons, List.length_nil, Option.map_some, if_true, if_false, Bool.not_true, Bool.not_false, decide_eq_true_eq, Bool.not_eq_true', decide_eq_false_iff_not, Nat.reduceAdd, Nat.reduceSub, List.replicate_succ, List.replicate_zero, true_and, and_true, reduceCtorEq, isStr, qPutS, putS, powD, CPow, qPut, onOwn, setD, qPutP, onPtr, qDelP, delD, qPutF, setF, qProp, qMeth, qMake, isObj, fldD, minD, maxD, qChain, revD, lrevD, isiD, tyD, qOrT, qAndT, onTru, truD, qJoined, qjCons, qjNil, fmtD, fmt5D, D.int.injEq, D.str.injEq, D.lst.injEq, D.tup.injEq, D.bl.injEq, false_implies, true_implies, ne_eq, not_false_eq_true, not_true_eq_false, forall_const, implies_true, false_and, and_false, exists_eq_left, exists_eq_left', Int.reduceEq, Int.reduceLT, Int.reduceNe, Int.reduceLE, or_false, false_or, or_true, true_or, qLc, qFor, qWhile, allD, sortAD, wipeC, isiS, List.any_cons, List.any_nil, Bool.or_false, Bool.or_true, Bool.true_or, Bool.false_or, Bool.and_self, Bool.false_and, Bool.and_false, Bool.and_true, Bool.true_and, String.reduceBEq, Bool.false_eq_true, Bool.true_eq_false]
    split
    · exact hQ _ (Int.le_refl _) (.inr rfl)
    · split
      · exact hQ _ (by omega) (.inl (by omega))
      · split
        · exact hQ _ (by omega) (.inl (by omega))
        · refine ⟨_, rfl, by omega, fun r r0 r1 => ?_⟩
          simp only [startC, qVar, qPeek, qC, qBin, qUn, qNil, qCons, qTup, qLst, qCall, asB, qTest, qAnd, qOr, qNot, qAndV, qOrV, qNotV, qIfE, deref, qNext, qSeq, qSet, qSetN, qSetP, qRet, qRetN, qDrop, qIfS, qFreeze, qApp, onOwnL, qAsg, gqName, gqNil, gqCons, gqTup, qM1, qRng1, qEnum, qAny, asI, asL, itemsD, qPart, qNoPart, qCut, cutD, qCutL, cutLD, addD, subD, mulD, modD, fdivD, eqD, neD, eqS, onB, ltD, leD, gtD, geD, isND, lenD, intD, strD, ordD, listD, tupleD, ixD, PEnds.at, wipeC, qYes,
    List.map_cons, List.map_nil, List.replicate, List.cons_append, List.nil_append, List.append_assoc, List.getElem?_cons_zero, List.getElem?_cons_succ, List.set_cons_zero, List.set_cons_succ, List.length_cons, List.length_nil, Option.map_some, if_true, if_false, Bool.not_true, Bool.not_false, decide_eq_true_eq, Bool.not_eq_true', decide_eq_false_iff_not, Nat.reduceAdd, Nat.reduceSub, List.replicate_succ, List.replicate_zero, true_and, and_true, reduceCtorEq, isStr, qPutS, putS, powD, CPow, qPut, onOwn, setD, qPutP, onPtr, qDelP, delD, qPutF, setF, qProp, qMeth, qMake, isObj, fldD, minD, maxD, qChain, revD, lrevD, isiD, tyD, qOrT, qAndT, onTru, truD, qJoined, qjCons, qjNil, fmtD, fmt5D, D.int.injEq, D.str.injEq, D.lst.injEq, D.tup.injEq, D.bl.injEq, false_implies, true_implies, ne_eq, not_false_eq_true, not_true_eq_false, forall_const, implies_true, false_and, and_false, exists_eq_left, exists_eq_left', Int.reduceEq, Int.reduceLT, Int.reduceNe, Int.reduceLE, or_false, false_or, or_true, true_or, qLc, qFor, qWhile, allD, sortAD, wipeC, isiS, List.any_cons, List.any_nil, Bool.or_false, Bool.or_true, Bool.true_or, Bool.false_or, Bool.and_self, Bool.false_and, Bool.and_false, Bool.and_true, Bool.true_and, String.reduceBEq, Bool.false_eq_true, Bool.true_eq_false]
          exact hQ _ (by omega) (by omega)
theorem c__law_between (G : GE K mg) : Cal P w K mg base "_law_between" ["_law_store_here", "_law_least", "_law_most"] 2 sp__law_between :=
  cal_of G.f__law_between sc__law_between (fun _ _ F => F.bindsN fun _ _ _ _ _ _ us hl => match us, hl with | [_, _, _], _ => rfl) (fun _ _ _ _ ⟨_, _, e, _⟩ => by rw [e]; rfl) (w__law_between G (c__law_take G)) v__law_between
end Pu.L70
set_option Elab.async false
set_option linter.all false
set_option maxRecDepth 100000
set_option maxHeartbeats 4000000
set_option autoImplicit false
namespace Pu.L70
open PySem PySem.Spec PyProof.Rows L2
variable {P : Program} {w : World} {K : PySem.W.Frag} {mg : Str → Option Value} {base : Heap}
def sp__law_pick : Spec := fun ds h Q Ex => ∃ x xs, ds = [.sto, x] ∧ (x = .lst xs ∨ x = .tup xs ∨ ∃ z : Str, x = .str z ∧ xs = signs z) ∧ xs ≠ [] ∧ xs.length ≤ sizeLine ∧ ∀ d ∈ xs, Q d h
theorem sc__law_pick : FnScope ["_law_store_here", "_law_items"] ["_law_store_here", "_law_items"] (defScope s__law_pick) := ⟨rfl, rfl, rfl, by decide +kernel, rfl, by decide +kernel, by decide +kernel⟩
def q__law_pick : RS := (qSeq (qIfS (qTest (qBin eqD (qUn lenD (qPeek 1)) (qC (.int 0)))) (qRet (qC .non)) qNext)
  (qRet (qBin ixD (qPeek 1) (qCall sp__law_take (qCons (qVar 0) (qCons (qUn lenD (qPeek 1)) qNil))))))
theorem w__law_pick (G : GE K mg) (C__law_take : Cal P w K mg base "_law_take" ["_law_store_here", "_law_many"] 1 sp__law_take) : WkOk P w K mg base ["_law_store_here", "_law_items"] "_law_pick" s__law_pick 1 q__law_pick := fun f cdv A outer s H E hr tk => by
  have S := sc__law_pick
  unfold q__law_pick
  exact (qss_cons (qs_if (qt_cmp op_eq ops_eq (qe_b1 call_lenAll cs_len G.n_len (qk_var 1)).k (qe_int).k (by rfl)) (qss_one (qs_ret qe_non)) qss_nil)
    (qss_one (qs_ret (qe_ix (ix_all hr.u1) ops_ix (qk_var 1) (qe_callC C__law_take hr tk (qa_cons (qe_var 0) (qa_cons (qe_b1 call_lenAll cs_len G.n_len (qk_var 1)) qa_nil))).k))))
theorem v__law_pick (ds : List D) (h : PHp) (Qp : D → PHp → Prop) (Ep : XP) : sp__law_pick ds h Qp Ep → q__law_pick (PE0 Qp Ep) (startC 2 ds) h := by
  rintro ⟨x, xs, rfl, hx, hn, hl, hQ⟩
  have hp : 0 < xs.length := List.length_pos_iff.mpr hn
  rw [sizeLine_eq] at hl
  rcases hx with rfl | rfl | ⟨z, rfl, rfl⟩
  · simp only [q__law_pick, startC, qVar, qPeek, qC, qBin, qUn, qNil, qCons, qTup, qLst, qCall, asB, qTest, qAnd, qOr, qNot, qAndV, qOrV, qNotV, qIfE, deref, qNext, qSeq, qSet, qSetN, qSetP, qRet, qRetN, qDrop, qIfS, qFreeze, qApp, onOwnL, qAsg, gqName, gqNil, gqCons, gqTup, qM1, qRng1, qEnum, qAny, asI, asL, itemsD, qPart, qNoPart, qCut, cutD, qCutL, cutLD, addD, subD, mulD, modD, fdivD, eqD, neD, eqS, onB, ltD, leD, gtD, geD, isND, lenD, intD, strD, ordD, listD, tupleD, ixD, PEnds.at, wipeC, qYes,
    List.map_cons, List.map_nil, List.replicate, List.cons_append, List.nil_append, List.append_assoc, List.getElem?_cons_zero, List.getElem?_cons_succ, List.set_cons_zero, List.set_cons_succ, List.length_cons, List.length_nil, Option.map_some, if_true, if_false, Bool.not_true, Bool.not_false, decide_eq_true_eq, Bool.not_eq_true', decide_eq_false_iff_not, Nat.reduceAdd, Nat.reduceSub, List.replicate_succ, List.replicate_zero, true_and, and_true, reduceCtorEq, isStr, qPutS, putS, powD, CPow, qPut, onOwn, setD, qPutP, onPtr, qDelP, delD, qPutF, setF, qProp, qMeth, qMake, isObj, fldD, minD, maxD, qChain, revD, lrevD, isiD, tyD, qOrT, qAndT, onTru, truD, qJoined, qjCons, qjNil, fmtD, fmt5D, D.int.injEq, D.str.injEq, D.lst.injEq, D.tup.injEq, D.bl.injEq, false_implies, true_implies, ne_eq, not_false_eq_true, not_true_eq_false, forall_const, implies_true, false_and, and_false, exists_eq_left, exists_eq_left', Int.reduceEq, Int.reduceLT, Int.reduceNe, Int.reduceLE, or_false, false_or, or_true, true_or, qLc, qFor, qWhile, allD, sortAD, wipeC, isiS, List.any_cons, List.any_nil, Bool.or_false, Bool.or_true, Bool.true_or, Bool.false_or, Bool.and_self, Bool.false_and, Bool.and_false, Bool.and_true, Bool.true_and, String.reduceBEq, Bool.false_eq_true, Bool.true_eq_false]
    rw [if_neg (by omega)]
    refine ⟨_, rfl, by omega, fun r r0 r1 => ?_⟩
    obtain ⟨a, h1, h2, _⟩ := atI_get (xs := xs) r0 (by omega)
    simp only [startC, qVar, qPeek, qC, qBin, qUn, qNil, qCons, qTup, qLst, qCall, asB, qTest, qAnd, qOr, qNot, qAndV, qOrV, qNotV, qIfE, deref, qNext, qSeq, qSet, qSetN, qSetP, qRet, qRetN, qDrop, qIfS, qFreeze, qApp, onOwnL, qAsg, gqName, gqNil, gqCons, gqTup, qM1, qRng1, qEnum, qAny, asI, asL, itemsD, qPart, qNoPart, qCut, cutD, qCutL, cutLD, addD, subD, mulD, modD, fdivD, eqD, neD, eqS, onB, ltD, leD, gtD, geD, isND, lenD, intD, strD, ordD, listD, tupleD, ixD, PEnds.at, wipeC, qYes,
    List.map_cons, List.map_nil, List.replicate, List.cons_append, List.nil_append, List.append_assoc, List.getElem?_cons_zero, List.getElem?_cons_succ, List.set_cons_zero, List.set_cons_succ, List.length_cons, List.length_nil, Option.map_some, if_true, if_false, Bool.not_true, Bool.not_false, decide_eq_true_eq, Bool.not_eq_true', decide_eq_false_iff_not, Nat.reduceAdd, Nat.reduceSub, List.replicate_succ, List.replicate_zero, true_and, and_true, reduceCtorEq, isStr, qPutS, putS, powD, CPow, qPut, onOwn, setD, qPutP, onPtr, qDelP, delD, qPutF, setF, qProp, qMeth, qMake, isObj, fldD, minD, maxD, qChain, revD, lrevD, isiD, tyD, qOrT, qAndT, onTru, truD, qJoined, qjCons, qjNil, fmtD, fmt5D, D.int.injEq, D.str.injEq, D.lst.injEq, D.tup.injEq, D.bl.injEq, false_implies, true_implies, ne_eq, not_false_eq_true, not_true_eq_false, forall_const, implies_true, false_and, and_false, exists_eq_left, exists_eq_left', Int.reduceEq, Int.reduceLT, Int.reduceNe, Int.reduceLE, or_false, false_or, or_true, true_or, qLc, qFor, qWhile, allD, sortAD, wipeC, isiS, List.any_cons, List.any_nil, Bool.or_false, Bool.or_true, Bool.true_or, Bool.false_or, Bool.and_self, Bool.false_and, Bool.and_false, Bool.and_true, Bool.true_and, String.reduceBEq, Bool.false_eq_true, Bool.true_eq_false]
    exact ⟨a, h1, hQ a h2⟩
  · simp only [q__law_pick, startC, qVar, qPeek, qC, qBin, qUn, qNil, qCons, qTup, qLst, qCall, asB, qTest, qAnd, qOr, qNot, qAndV, qOrV, qNotV, qIfE, deref, qNext, qSeq, qSet, qSetN, qSetP, qRet, qRetN, qDrop, qIfS, qFreeze, qApp, onOwnL, qAsg, gqName, gqNil, gqCons, gqTup, qM1, qRng1, qEnum, qAny, asI, asL, itemsD, qPart, qNoPart, qCut, cutD, qCutL, cutLD, addD, subD, mulD, modD, fdivD, eqD, neD, eqS, onB, ltD, leD, gtD, geD, isND, lenD, intD, strD, ordD, listD, tupleD, ixD, PEnds.at, wipeC, qYes,
    List.map_cons, List.map_nil, List.replicate, List.cons_append, List.nil_append, List.append_assoc, List.getElem?_cons_zero, List.getElem?_cons_succ, List.set_cons_zero, List.set_cons_succ, List.length_cons, List.length_nil, Option.map_some, if_true, if_false, Bool.not_true, Bool.not_false, decide_eq_true_eq, Bool.not_eq_true', decide_eq_false_iff_not, Nat.reduceAdd, Nat.reduceSub, List.replicate_succ, List.replicate_zero, true_and, and_true, reduceCtorEq, isStr, qPutS, putS, powD, CPow, qPut, onOwn, setD, qPutP, onPtr, qDelP, delD, qPutF, setF, qProp, qMeth, qMake, isObj, fldD, minD, maxD, qChain, revD, lrevD, isiD, tyD, qOrT, qAndT, onTru, truD, qJoined, qjCons, qjNil, fmtD, fmt5D, D.int.injEq, D.str.injEq, D.lst.injEq, D.tup.injEq, D.bl.injEq, false_implies, true_implies, ne_eq, not_false_eq_true, not_true_eq_false, forall_const, implies_true, false_and, and_false, exists_eq_left, exists_eq_left', Int.reduceEq, Int.reduceLT, Int.reduceNe, Int.reduceLE, or_false, false_or, or_true, true_or, qLc, qFor, qWhile, allD, sortAD, wipeC, isiS, List.any_cons, List.any_nil, Bool.or_false, Bool.or_true, Bool.true_or, Bool.false_or, Bool.and_self, Bool.false_and, Bool.and_false, Bool.and_true, Bool.true_and, String.reduceBEq, Bool.false_eq_true, Bool.true_eq_false]
    rw [if_neg (by omega)]
    refine ⟨_, rfl, by omega, fun r r0 r1 => ?_⟩
    obtain ⟨a, h1, h2, _⟩ := atI_get (xs := xs) r0 (by omega)
    simp only [startC, qVar, qPeek, qC, qBin, qUn, qNil, qCons, qTup, qLst, qCall, asB, qTest, qAnd, qOr, qNot, qAndV, qOrV, qNotV, qIfE, deref, qNext, qSeq, qSet, qSetN, qSetP, qRet, qRetN, qDrop, qIfS, qFreeze, qApp, onOwnL, qAsg, gqName, gqNil, gqCons, gqTup, qM1, qRng1, qEnum, qAny, asI, asL, itemsD, qPart, qNoPart, qCut, cutD, qCutL, cutLD, addD, subD, mulD, modD, fdivD, eqD, neD, eqS, onB, ltD, leD, gtD, geD, isND, lenD, intD, strD, ordD, listD, tupleD, ixD, PEnds.at, wipeC, qYes,
    List.map_cons, List.map_nil, List.replicate, List.cons_append, List.nil_append, List.append_assoc, List.getElem?_cons_zero, List.getElem?_cons_succ, List.set_cons_zero, List.set_cons_succ, List.length_cons, List.length_nil, Option.map_some, if_true, if_false, Bool.not_true, Bool.not_false, decide_eq_true_eq, Bool.not_eq_true', decide_eq_false_iff_not, Nat.reduceAdd, Nat.reduceSub, List.replicate_succ, List.replicate_zero, true_and, and_true, reduceCtorEq, isStr, qPutS, putS, powD, CPow, qPut, onOwn, setD, qPutP, onPtr, qDelP, delD, qPutF, setF, qProp, qMeth, qMake, isObj, fldD, minD, maxD, qChain, revD, lrevD, isiD, tyD, qOrT, qAndT, onTru, truD, qJoined, qjCons, qjNil, fmtD, fmt5D, D.int.injEq, D.str.injEq, D.lst.injEq, D.tup.injEq, D.bl.injEq, false_implies, true_implies, ne_eq, not_false_eq_true, not_true_eq_false, forall_const, implies_true, false_and, and_false, exists_eq_left, exists_eq_left', Int.reduceEq, Int.reduceLT, Int.reduceNe, Int.reduceLE, or_false, false_or, or_true, true_or, qLc, qFor, qWhile, allD, sortAD, wipeC, isiS, List.any_cons, List.any_nil, Bool.or_false, Bool.or_true, Bool.true_or, Bool.false_or, Bool.and_self, Bool.false_and, Bool.and_false, Bool.and_true, Bool.true_and, String.reduceBEq, Bool.false_eq_true, Bool.true_eq_false]
    exact ⟨a, h1, hQ a h2⟩
  · rw [signs_len] at hp hl
    have hs : z.length ≤ sizeLine := by rw [sizeLine_eq]; exact hl
    simp only [q__law_pick, startC, qVar, qPeek, qC, qBin, qUn, qNil, qCons, qTup, qLst, qCall, asB, qTest, qAnd, qOr, qNot, qAndV, qOrV, qNotV, qIfE, deref, qNext, qSeq, qSet, qSetN, qSetP, qRet, qRetN, qDrop, qIfS, qFreeze, qApp, onOwnL, qAsg, gqName, gqNil, gqCons, gqTup, qM1, qRng1, qEnum, qAny, asI, asL, itemsD, qPart, qNoPart, qCut, cutD, qCutL, cutLD, addD, subD, mulD, modD, fdivD, eqD, neD, eqS, onB, ltD, leD, gtD, geD, isND, lenD, intD, strD, ordD, listD, tupleD, ixD, PEnds.at, wipeC, qYes,
    List.map_cons, List.map_nil, List.replicate, List.cons_append, List.nil_append, List.append_assoc, List.getElem?_cons_zero, List.getElem?_cons_succ, List.set_cons_zero, List.set_cons_succ, List.length_cons, List.length_nil, Option.map_some, if_true, if_false, Bool.not_true, Bool.not_false, decide_eq_true_eq, Bool.not_eq_true', decide_eq_false_iff_not, Nat.reduceAdd, Nat.reduceSub, List.replicate_succ, List.replicate_zero, true_and, and_true, reduceCtorEq, isStr, qPutS, putS, powD, CPow, qPut, onOwn, setD, qPutP, onPtr, qDelP, delD, qPutF, setF, qProp, qMeth, qMake, isObj, fldD, minD, maxD, qChain, revD, lrevD, isiD, tyD, qOrT, qAndT, onTru, truD, qJoined, qjCons, qjNil, fmtD, fmt5D, D.int.injEq, D.str.injEq, D.lst.injEq, D.tup.injEq, D.bl.injEq, false_implies, true_implies, ne_eq, not_false_eq_true, not_true_eq_false, forall_const, implies_true, false_and, and_false, exists_eq_left, exists_eq_left', Int.reduceEq, Int.reduceLT, Int.reduceNe, Int.reduceLE, or_false, false_or, or_true, true_or, qLc, qFor, qWhile, allD, sortAD, wipeC, isiS, List.any_cons, List.any_nil, Bool.or_false, Bool.or_true, Bool.true_or, Bool.false_or, Bool.and_self, Bool.false_and, Bool.and_false, Bool.and_true, Bool.true_and, String.reduceBEq, Bool.false_eq_true, Bool.true_eq_false]
    refine ⟨hs, ?_⟩
    rw [if_neg (by omega)]
    refine ⟨hs, _, rfl, by omega, fun r r0 r1 => ?_⟩
    have hz : z.cps.toList.length = z.length := Array.length_toList
    obtain ⟨c, h1, h2, _⟩ := atI_get (xs := z.cps.toList) r0 (by omega)
    simp only [startC, qVar, qPeek, qC, qBin, qUn, qNil, qCons, qTup, qLst, qCall, asB, qTest, qAnd, qOr, qNot, qAndV, qOrV, qNotV, qIfE, deref, qNext, qSeq, qSet, qSetN, qSetP, qRet, qRetN, qDrop, qIfS, qFreeze, qApp, onOwnL, qAsg, gqName, gqNil, gqCons, gqTup, qM1, qRng1, qEnum, qAny, asI, asL, itemsD, qPart, qNoPart, qCut, cutD, qCutL, cutLD, addD, subD, mulD, modD, fdivD, eqD, neD, eqS, onB, ltD, leD, gtD, geD, isND, lenD, intD, strD, ordD, listD, tupleD, ixD, PEnds.at, wipeC, qYes,
    List.map_cons, List.map_nil, List.replicate, List.cons_append, List.nil_append, List.append_assoc, List.getElem?_cons_zero, List.getElem?_cons_succ, List.set_cons_zero, List.set_cons_succ, List.length_cons, List.length_nil, Option.map_some, if_true, if_false, Bool.not_true, Bool.not_false, decide_eq_true_eq, Bool.not_eq_true', decide_eq_false_iff_not, Nat.reduceAdd, Nat.reduceSub, List.replicate_succ, List.replicate_zero, true_and, and_true, reduceCtorEq, isStr, qPutS, putS, powD, CPow, qPut, onOwn, setD, qPutP, onPtr, qDelP, delD, qPutF, setF, qProp, qMeth, qMake, isObj, fldD, minD, maxD, qChain, revD, lrevD, isiD, tyD, qOrT, qAndT, onTru, truD, qJoined, qjCons, qjNil, fmtD, fmt5D, D.int.injEq, D.str.injEq, D.lst.injEq, D.tup.injEq, D.bl.injEq, false_implies, true_implies, ne_eq, not_false_eq_true, not_true_eq_false, forall_const, implies_true, false_and, and_false, exists_eq_left, exists_eq_left', Int.reduceEq, Int.reduceLT, Int.reduceNe, Int.reduceLE, or_false, false_or, or_true, true_or, qLc, qFor, qWhile, allD, sortAD, wipeC, isiS, List.any_cons, List.any_nil, Bool.or_false, Bool.or_true, Bool.true_or, Bool.false_or, Bool.and_self, Bool.false_and, Bool.and_false, Bool.and_true, Bool.true_and, String.reduceBEq, Bool.false_eq_true, Bool.true_eq_false]
    exact ⟨hs, c, h1, hQ _ (List.mem_map.mpr ⟨c, h2, rfl⟩)⟩
theorem c__law_pick (G : GE K mg) : Cal P w K mg base "_law_pick" ["_law_store_here", "_law_items"] 2 sp__law_pick :=
  cal_of G.f__law_pick sc__law_pick (fun _ _ F => F.bindsN fun _ _ _ _ _ _ us hl => match us, hl with | [_, _], _ => rfl) (fun _ _ _ _ ⟨_, _, e, _⟩ => by rw [e]; rfl) (w__law_pick G (c__law_take G)) v__law_pick
end Pu.L70
set_option Elab.async false
set_option linter.all false
set_option maxRecDepth 100000
set_option maxHeartbeats 4000000
set_option autoImplicit false
namespace Pu.L70
open PySem PySem.Spec PyProof.Rows L2
variable {P : Program} {w : World} {K : PySem.W.Frag} {mg : Str → Option Value} {base : Heap}
def sp_is_letter : Spec := fun ds h Q Ex => ∃ (c : Nat), ds = [.str ⟨#[c]⟩] ∧ Q (.bl (isLc c)) h
theorem sc_is_letter : FnScope ["character"] ["character"] (defScope s_is_letter) := ⟨rfl, rfl, rfl, by decide +kernel, rfl, by decide +kernel, by decide +kernel⟩
def q_is_letter : RS := (qRet (qChain leD leD (qC (.str (Str.ofString "a"))) (qPeek 0) (qC (.str (Str.ofString "z")))))
theorem w_is_letter (G : GE K mg)  : WkOk P w K mg base ["character"] "is_letter" s_is_letter 0 q_is_letter := fun f cdv A outer s H E hr tk => by
  have S := sc_is_letter
  unfold q_is_letter
  exact (qss_one (qs_ret (qe_chain op_leAll ops_le op_leAll ops_le (qe_str).k (qk_var 0) (qe_str).k)))
theorem v_is_letter (ds : List D) (h : PHp) (Qp : D → PHp → Prop) (Ep : XP) : sp_is_letter ds h Qp Ep → q_is_letter (PE0 Qp Ep) (startC 1 ds) h := by
  rintro ⟨c, rfl, hQ⟩
  simp only [q_is_letter, startC, qVar, qPeek, qC, qBin, qUn, qNil, qCons, qTup, qLst, qCall, asB, qTest, qAnd, qOr, qNot, qAndV, qOrV, qNotV, qIfE, deref, qNext, qSeq, qSet, qSetN, qSetP, qRet, qRetN, qDrop, qIfS, qFreeze, qApp, onOwnL, qAsg, gqName, gqNil, gqCons, gqTup, qM1, qRng1, qEnum, qAny, asI, asL, itemsD, qPart, qNoPart, qCut, cutD, qCutL, cutLD, addD, subD, mulD, modD, fdivD, eqD, neD, eqS, onB, ltD, leD, gtD, geD, isND, lenD, intD, strD, ordD, listD, tupleD, ixD, PEnds.at, wipeC, qYes,
    List.map_cons, List.map_nil, List.replicate, List.cons_append, List.nil_append, List.append_assoc, List.getElem?_cons_zero, List.getElem?_cons_succ, List.set_cons_zero, List.set_cons_succ, List.length_cons, List.length_nil, Option.map_some, if_true, if_false, Bool.not_true, Bool.not_false, decide_eq_true_eq, Bool.not_eq_true', decide_eq_false_iff_not, Nat.reduceAdd, Nat.reduceSub, List.replicate_succ, List.replicate_zero, true_and, and_true, reduceCtorEq, isStr, qPutS, putS, powD, CPow, qPut, onOwn, setD, qPutP, onPtr, qDelP, delD, qPutF, setF, qProp, qMeth, qMake, isObj, fldD, minD, maxD, qChain, revD, lrevD, isiD, tyD, qOrT, qAndT, onTru, truD, qJoined, qjCons, qjNil, fmtD, fmt5D, D.int.injEq, D.str.injEq, D.lst.injEq, D.tup.injEq, D.bl.injEq, false_implies, true_implies, ne_eq, not_false_eq_true, not_true_eq_false, forall_const, implies_true, false_and, and_false, exists_eq_left, exists_eq_left', Int.reduceEq, Int.reduceLT, Int.reduceNe, Int.reduceLE, or_false, false_or, or_true, true_or, qLc, qFor, qWhile, allD, sortAD, wipeC, isiS, List.any_cons, List.any_nil, Bool.or_false, Bool.or_true, Bool.true_or, Bool.false_or, Bool.and_self, Bool.false_and, Bool.and_false, Bool.and_true, Bool.true_and, String.reduceBEq, Bool.false_eq_true, Bool.true_eq_false]
  have e1 : (Str.ofString "a").cps.toList = [97] := by decide
  have e2 : (Str.ofString "z").cps.toList = [122] := by decide
  rw [e1, e2]
  unfold isLc at hQ
  by_cases h1 : 97 ≤ c
  · rw [if_pos (by rw [chr_lt]; omega), le_chr]
    rw [decide_eq_true h1] at hQ
    exact hQ
  · rw [if_neg (by rw [chr_lt]; omega)]
    rw [decide_eq_false h1] at hQ
    exact hQ
theorem c_is_letter (G : GE K mg) : Cal P w K mg base "is_letter" ["character"] 1 sp_is_letter :=
  cal_of G.f_is_letter sc_is_letter (fun _ _ F => F.bindsN fun _ _ _ _ _ _ us hl => match us, hl with | [_], _ => rfl) (fun _ _ _ _ ⟨_, e, _⟩ => by rw [e]; rfl) (w_is_letter G ) v_is_letter
end Pu.L70
set_option Elab.async false
set_option linter.all false
set_option maxRecDepth 100000
set_option maxHeartbeats 4000000
set_option autoImplicit false
namespace Pu.L70
open PySem PySem.Spec PyProof.Rows L2
variable {P : Program} {w : World} {K : PySem.W.Frag} {mg : Str → Option Value} {base : Heap}
def sp_is_digit : Spec := fun ds h Q Ex => ∃ (c : Nat), ds = [.str ⟨#[c]⟩] ∧ Q (.bl (isDc c)) h
theorem sc_is_digit : FnScope ["character"] ["character"] (defScope s_is_digit) := ⟨rfl, rfl, rfl, by decide +kernel, rfl, by decide +kernel, by decide +kernel⟩
def q_is_digit : RS := (qRet (qChain leD leD (qC (.str (Str.ofString "0"))) (qPeek 0) (qC (.str (Str.ofString "9")))))
theorem w_is_digit (G : GE K mg)  : WkOk P w K mg base ["character"] "is_digit" s_is_digit 0 q_is_digit := fun f cdv A outer s H E hr tk => by
  have S := sc_is_digit
  unfold q_is_digit
  exact (qss_one (qs_ret (qe_chain op_leAll ops_le op_leAll ops_le (qe_str).k (qk_var 0) (qe_str).k)))
theorem v_is_digit (ds : List D) (h : PHp) (Qp : D → PHp → Prop) (Ep : XP) : sp_is_digit ds h Qp Ep → q_is_digit (PE0 Qp Ep) (startC 1 ds) h := by
  rintro ⟨c, rfl, hQ⟩
  simp only [q_is_digit, startC, qVar, qPeek, qC, qBin, qUn, qNil, qCons, qTup, qLst, qCall, asB, qTest, qAnd, qOr, qNot, qAndV, qOrV, qNotV, qIfE, deref, qNext, qSeq, qSet, qSetN, qSetP, qRet, qRetN, qDrop, qIfS, qFreeze, qApp, onOwnL, qAsg, gqName, gqNil, gqCons, gqTup, qM1, qRng1, qEnum, qAny, asI, asL, itemsD, qPart, qNoPart, qCut, cutD, qCutL, cutLD, addD, subD, mulD, modD, fdivD, eqD, neD, eqS, onB, ltD, leD, gtD, geD, isND, lenD, intD, strD, ordD, listD, tupleD, ixD, PEnds.at, wipeC, qYes,
    List.map_cons, List.map_nil, List.replicate, List.cons_append, List.nil_append, List.append_assoc, List.getElem?_cons_zero, List.getElem?_cons_succ, List.set_cons_zero, List.set_cons_succ, List.length_cons, List.length_nil, Option.map_some, if_true, if_false, Bool.not_true, Bool.not_false, decide_eq_true_eq, Bool.not_eq_true', decide_eq_false_iff_not, Nat.reduceAdd, Nat.reduceSub, List.replicate_succ, List.replicate_zero, true_and, and_true, reduceCtorEq, isStr, qPutS, putS, powD, CPow, qPut, onOwn, setD, qPutP, onPtr, qDelP, delD, qPutF, setF, qProp, qMeth, qMake, isObj, fldD, minD, maxD, qChain, revD, lrevD, isiD, tyD, qOrT, qAndT, onTru, truD, qJoined, qjCons, qjNil, fmtD, fmt5D, D.int.injEq, D.str.injEq, D.lst.injEq, D.tup.injEq, D.bl.injEq, false_implies, true_implies, ne_eq, not_false_eq_true, not_true_eq_false, forall_const, implies_true, false_and, and_false, exists_eq_left, exists_eq_left', Int.reduceEq, Int.reduceLT, Int.reduceNe, Int.reduceLE, or_false, false_or, or_true, true_or, qLc, qFor, qWhile, allD, sortAD, wipeC, isiS, List.any_cons, List.any_nil, Bool.or_false, Bool.or_true, Bool.true_or, Bool.false_or, Bool.and_self, Bool.false_and, Bool.and_false, Bool.and_true, Bool.true_and, String.reduceBEq, Bool.false_eq_true, Bool.true_eq_false]
  have e1 : (Str.ofString "0").cps.toList = [48] := by decide
  have e2 : (Str.ofString "9").cps.toList = [57] := by decide
  rw [e1, e2]
  unfold isDc at hQ
  by_cases h1 : 48 ≤ c
  · rw [if_pos (by rw [chr_lt]; omega), le_chr]
    rw [decide_eq_true h1] at hQ
    exact hQ
  · rw [if_neg (by rw [chr_lt]; omega)]
    rw [decide_eq_false h1] at hQ
    exact hQ
theorem c_is_digit (G : GE K mg) : Cal P w K mg base "is_digit" ["character"] 1 sp_is_digit :=
  cal_of G.f_is_digit sc_is_digit (fun _ _ F => F.bindsN fun _ _ _ _ _ _ us hl => match us, hl with | [_], _ => rfl) (fun _ _ _ _ ⟨_, e, _⟩ => by rw [e]; rfl) (w_is_digit G ) v_is_digit
end Pu.L70
set_option Elab.async false
set_option linter.all false
set_option maxRecDepth 100000
set_option maxHeartbeats 4000000
set_option autoImplicit false
namespace Pu.L70
open PySem PySem.Spec PyProof.Rows L2
variable {P : Program} {w : World} {K : PySem.W.Frag} {mg : Str → Option Value} {base : Heap}
def sp_is_name : Spec := fun ds h Q Ex => ∃ (z : Str), ds = [.str z] ∧ z.length ≤ sizeLine ∧ Q (.bl (nameB z)) h
theorem sc_is_name : FnScope ["word", "character"] ["word"] (defScope s_is_name) := ⟨rfl, rfl, rfl, by decide +kernel, rfl, by decide +kernel, by decide +kernel⟩
def q_is_name : RS := (qSeq (qIfS (qNot (qTest (qUn (isiD ["str"]) (qPeek 0)))) (qRet (qC (.bl false))) qNext)
  (qSeq (qIfS (qNot (qTest (qChain leD leD (qC (.int 1)) (qUn lenD (qPeek 0)) (qC (.int 12))))) (qRet (qC (.bl false))) qNext)
  (qSeq (qIfS (qNot (qTest (qCall sp_is_letter (qCons (qBin ixD (qPeek 0) (qC (.int 0))) qNil)))) (qRet (qC (.bl false))) qNext)
  (qRet (qUn allD (qLc (qAny (qVar 0)) (gqName 1) qYes (qOrV (qCall sp_is_letter (qCons (qVar 1) qNil)) (qCall sp_is_digit (qCons (qVar 1) qNil))) [1]))))))
theorem w_is_name (G : GE K mg) (C_is_letter : Cal P w K mg base "is_letter" ["character"] 1 sp_is_letter) (C_is_digit : Cal P w K mg base "is_digit" ["character"] 1 sp_is_digit) : WkOk P w K mg base ["word", "character"] "is_name" s_is_name 1 q_is_name := fun f cdv A outer s H E hr tk => by
  have S := sc_is_name
  unfold q_is_name
  exact (qss_cons (qs_if (qt_not (qt_val (qe_isi1 "str" G.n_isinstance G.n_str (qk_var 0)).k)) (qss_one (qs_ret qe_bl)) qss_nil)
    (qss_cons (qs_if (qt_not (qt_chain op_leAll ops_le op_leAll ops_le (qe_int).k (qe_b1 call_lenAll cs_len G.n_len (qk_var 0)).k (qe_globI (Classical.choose_spec G.c_LONGEST_NAME)).k)) (qss_one (qs_ret qe_bl)) qss_nil)
    (qss_cons (qs_if (qt_not (qt_val (qe_callC C_is_letter hr tk (qa_cons (qe_ix (ix_all hr.u1) ops_ix (qk_var 0) (qe_int).k) qa_nil)).k)) (qss_one (qs_ret qe_bl)) qss_nil)
    (qss_one (qs_ret (qe_b1 (cr_all rfl) cs_all G.n_all ((qn_lc rfl S.nd (qi_any (qe_var 0)) (L2.blkOk_by (own := [("character", 1)]) (by rfl)) (fun _ _ _ _ _ => (qg_name 1 S.nd)) (fun _ _ _ _ _ => qts_nil) (fun _ _ _ _ _ => (qe_or (qe_callC C_is_letter hr takes0 (qa_cons (qe_var 1) qa_nil)) (qe_one (qe_callC C_is_digit hr takes0 (qa_cons (qe_var 1) qa_nil))))))).e.k))))))
theorem v_is_name (ds : List D) (h : PHp) (Qp : D → PHp → Prop) (Ep : XP) : sp_is_name ds h Qp Ep → q_is_name (PE0 Qp Ep) (startC 2 ds) h := by
  rintro ⟨z, rfl, hl, hQ⟩
  simp only [q_is_name, startC, qVar, qPeek, qC, qBin, qUn, qNil, qCons, qTup, qLst, qCall, asB, qTest, qAnd, qOr, qNot, qAndV, qOrV, qNotV, qIfE, deref, qNext, qSeq, qSet, qSetN, qSetP, qRet, qRetN, qDrop, qIfS, qFreeze, qApp, onOwnL, qAsg, gqName, gqNil, gqCons, gqTup, qM1, qRng1, qEnum, qAny, asI, asL, itemsD, qPart, qNoPart, qCut, cutD, qCutL, cutLD, addD, subD, mulD, modD, fdivD, eqD, neD, eqS, onB, ltD, leD, gtD, geD, isND, lenD, intD, strD, ordD, listD, tupleD, ixD, PEnds.at, wipeC, qYes,
    List.map_cons, List.map_nil, List.replicate, List.cons_append, List.nil_append, List.append_assoc, List.getElem?_cons_zero, List.getElem?_cons_succ, List.set_cons_zero, List.set_cons_succ, List.length_cons, List.length_nil, Option.map_some, if_true, if_false, Bool.not_true, Bool.not_false, decide_eq_true_eq, Bool.not_eq_true', decide_eq_false_iff_not, Nat.reduceAdd, Nat.reduceSub, List.replicate_succ, List.replicate_zero, true_and, and_true, reduceCtorEq, isStr, qPutS, putS, powD, CPow, qPut, onOwn, setD, qPutP, onPtr, qDelP, delD, qPutF, setF, qProp, qMeth, qMake, isObj, fldD, minD, maxD, qChain, revD, lrevD, isiD, tyD, qOrT, qAndT, onTru, truD, qJoined, qjCons, qjNil, fmtD, fmt5D, D.int.injEq, D.str.injEq, D.lst.injEq, D.tup.injEq, D.bl.injEq, false_implies, true_implies, ne_eq, not_false_eq_true, not_true_eq_false, forall_const, implies_true, false_and, and_false, exists_eq_left, exists_eq_left', Int.reduceEq, Int.reduceLT, Int.reduceNe, Int.reduceLE, or_false, false_or, or_true, true_or, qLc, qFor, qWhile, allD, sortAD, wipeC, isiS, List.any_cons, List.any_nil, Bool.or_false, Bool.or_true, Bool.true_or, Bool.false_or, Bool.and_self, Bool.false_and, Bool.and_false, Bool.and_true, Bool.true_and, String.reduceBEq, Bool.false_eq_true, Bool.true_eq_false]
  refine ⟨hl, ?_⟩
  unfold nameB at hQ
  by_cases h1 : 1 ≤ z.length
  · rw [if_pos (by omega)]
    by_cases h2 : z.length ≤ 12
    · rw [if_neg (by omega)]
      refine ⟨hl, ?_⟩
      have hz : z.cps.toList.length = z.length := Array.length_toList
      obtain ⟨c, e1, e2, e3⟩ := atI_get (xs := z.cps.toList) (i := 0) (by decide) (by omega)
      refine ⟨c, e1, c, rfl, ?_⟩
      have e4 : z.cps.toList.head? = some c := by rw [List.head?_eq_getElem?]; exact e3
      rw [e4, decide_eq_true h1, decide_eq_true h2] at hQ
      simp only [startC, qVar, qPeek, qC, qBin, qUn, qNil, qCons, qTup, qLst, qCall, asB, qTest, qAnd, qOr, qNot, qAndV, qOrV, qNotV, qIfE, deref, qNext, qSeq, qSet, qSetN, qSetP, qRet, qRetN, qDrop, qIfS, qFreeze, qApp, onOwnL, qAsg, gqName, gqNil, gqCons, gqTup, qM1, qRng1, qEnum, qAny, asI, asL, itemsD, qPart, qNoPart, qCut, cutD, qCutL, cutLD, addD, subD, mulD, modD, fdivD, eqD, neD, eqS, onB, ltD, leD, gtD, geD, isND, lenD, intD, strD, ordD, listD, tupleD, ixD, PEnds.at, wipeC, qYes,
    List.map_cons, List.map_nil, List.replicate, List.cons_append, List.nil_append, List.append_assoc, List.getElem?_cons_zero, List.getElem?_cons_succ, List.set_cons_zero, List.set_cons_succ, List.length_cons, List.length_nil, Option.map_some, if_true, if_false, Bool.not_true, Bool.not_false, decide_eq_true_eq, Bool.not_eq_true', decide_eq_false_iff_not, Nat.reduceAdd, Nat.reduceSub, List.replicate_succ, List.replicate_zero, true_and, and_true, reduceCtorEq, isStr, qPutS, putS, powD, CPow, qPut, onOwn, setD, qPutP, onPtr, qDelP, delD, qPutF, setF, qProp, qMeth, qMake, isObj, fldD, minD, maxD, qChain, revD, lrevD, isiD, tyD, qOrT, qAndT, onTru, truD, qJoined, qjCons, qjNil, fmtD, fmt5D, D.int.injEq, D.str.injEq, D.lst.injEq, D.tup.injEq, D.bl.injEq, false_implies, true_implies, ne_eq, not_false_eq_true, not_true_eq_false, forall_const, implies_true, false_and, and_false, exists_eq_left, exists_eq_left', Int.reduceEq, Int.reduceLT, Int.reduceNe, Int.reduceLE, or_false, false_or, or_true, true_or, qLc, qFor, qWhile, allD, sortAD, wipeC, isiS, List.any_cons, List.any_nil, Bool.or_false, Bool.or_true, Bool.true_or, Bool.false_or, Bool.and_self, Bool.false_and, Bool.and_false, Bool.and_true, Bool.true_and, String.reduceBEq, Bool.false_eq_true, Bool.true_eq_false, Option.any_some] at hQ ⊢
      by_cases h3 : isLc c = true
      · rw [h3] at hQ ⊢
        simp only [startC, qVar, qPeek, qC, qBin, qUn, qNil, qCons, qTup, qLst, qCall, asB, qTest, qAnd, qOr, qNot, qAndV, qOrV, qNotV, qIfE, deref, qNext, qSeq, qSet, qSetN, qSetP, qRet, qRetN, qDrop, qIfS, qFreeze, qApp, onOwnL, qAsg, gqName, gqNil, gqCons, gqTup, qM1, qRng1, qEnum, qAny, asI, asL, itemsD, qPart, qNoPart, qCut, cutD, qCutL, cutLD, addD, subD, mulD, modD, fdivD, eqD, neD, eqS, onB, ltD, leD, gtD, geD, isND, lenD, intD, strD, ordD, listD, tupleD, ixD, PEnds.at, wipeC, qYes,
    List.map_cons, List.map_nil, List.replicate, List.cons_append, List.nil_append, List.append_assoc, List.getElem?_cons_zero, List.getElem?_cons_succ, List.set_cons_zero, List.set_cons_succ, List.length_cons, List.length_nil, Option.map_some, if_true, if_false, Bool.not_true, Bool.not_false, decide_eq_true_eq, Bool.not_eq_true', decide_eq_false_iff_not, Nat.reduceAdd, Nat.reduceSub, List.replicate_succ, List.replicate_zero, true_and, and_true, reduceCtorEq, isStr, qPutS, putS, powD, CPow, qPut, onOwn, setD, qPutP, onPtr, qDelP, delD, qPutF, setF, qProp, qMeth, qMake, isObj, fldD, minD, maxD, qChain, revD, lrevD, isiD, tyD, qOrT, qAndT, onTru, truD, qJoined, qjCons, qjNil, fmtD, fmt5D, D.int.injEq, D.str.injEq, D.lst.injEq, D.tup.injEq, D.bl.injEq, false_implies, true_implies, ne_eq, not_false_eq_true, not_true_eq_false, forall_const, implies_true, false_and, and_false, exists_eq_left, exists_eq_left', Int.reduceEq, Int.reduceLT, Int.reduceNe, Int.reduceLE, or_false, false_or, or_true, true_or, qLc, qFor, qWhile, allD, sortAD, wipeC, isiS, List.any_cons, List.any_nil, Bool.or_false, Bool.or_true, Bool.true_or, Bool.false_or, Bool.and_self, Bool.false_and, Bool.and_false, Bool.and_true, Bool.true_and, String.reduceBEq, Bool.false_eq_true, Bool.true_eq_false] at hQ ⊢
        refine lcK_i (fun i acc h' => h' = h ∧ acc = ((signs z).take i).map fun d => match d with | .str x => .bl (isLc (x.cps.getD 0 0) || isDc (x.cps.getD 0 0)) | d => d) ⟨rfl, rfl⟩ ?_ ?_
        · rintro i d acc h' hd ⟨rfl, rfl⟩
          obtain ⟨c', h5, rfl⟩ := signs_get hd
          have hlen : (List.map (fun d => match d with | .str x => D.bl (isLc (x.cps.getD 0 0) || isDc (x.cps.getD 0 0)) | d => d) ((signs z).take i)).length < sizeLine := by
            have := get_lt hd
            rw [signs_len] at this
            rw [List.length_map, List.length_take, signs_len, sizeLine_eq]
            omega
          simp only [startC, qVar, qPeek, qC, qBin, qUn, qNil, qCons, qTup, qLst, qCall, asB, qTest, qAnd, qOr, qNot, qAndV, qOrV, qNotV, qIfE, deref, qNext, qSeq, qSet, qSetN, qSetP, qRet, qRetN, qDrop, qIfS, qFreeze, qApp, onOwnL, qAsg, gqName, gqNil, gqCons, gqTup, qM1, qRng1, qEnum, qAny, asI, asL, itemsD, qPart, qNoPart, qCut, cutD, qCutL, cutLD, addD, subD, mulD, modD, fdivD, eqD, neD, eqS, onB, ltD, leD, gtD, geD, isND, lenD, intD, strD, ordD, listD, tupleD, ixD, PEnds.at, wipeC, qYes,
    List.map_cons, List.map_nil, List.replicate, List.cons_append, List.nil_append, List.append_assoc, List.getElem?_cons_zero, List.getElem?_cons_succ, List.set_cons_zero, List.set_cons_succ, List.length_cons, List.length_nil, Option.map_some, if_true, if_false, Bool.not_true, Bool.not_false, decide_eq_true_eq, Bool.not_eq_true', decide_eq_false_iff_not, Nat.reduceAdd, Nat.reduceSub, List.replicate_succ, List.replicate_zero, true_and, and_true, reduceCtorEq, isStr, qPutS, putS, powD, CPow, qPut, onOwn, setD, qPutP, onPtr, qDelP, delD, qPutF, setF, qProp, qMeth, qMake, isObj, fldD, minD, maxD, qChain, revD, lrevD, isiD, tyD, qOrT, qAndT, onTru, truD, qJoined, qjCons, qjNil, fmtD, fmt5D, D.int.injEq, D.str.injEq, D.lst.injEq, D.tup.injEq, D.bl.injEq, false_implies, true_implies, ne_eq, not_false_eq_true, not_true_eq_false, forall_const, implies_true, false_and, and_false, exists_eq_left, exists_eq_left', Int.reduceEq, Int.reduceLT, Int.reduceNe, Int.reduceLE, or_false, false_or, or_true, true_or, qLc, qFor, qWhile, allD, sortAD, wipeC, isiS, List.any_cons, List.any_nil, Bool.or_false, Bool.or_true, Bool.true_or, Bool.false_or, Bool.and_self, Bool.false_and, Bool.and_false, Bool.and_true, Bool.true_and, String.reduceBEq, Bool.false_eq_true, Bool.true_eq_false]
          refine ⟨c', rfl, ?_⟩
          simp only [startC, qVar, qPeek, qC, qBin, qUn, qNil, qCons, qTup, qLst, qCall, asB, qTest, qAnd, qOr, qNot, qAndV, qOrV, qNotV, qIfE, deref, qNext, qSeq, qSet, qSetN, qSetP, qRet, qRetN, qDrop, qIfS, qFreeze, qApp, onOwnL, qAsg, gqName, gqNil, gqCons, gqTup, qM1, qRng1, qEnum, qAny, asI, asL, itemsD, qPart, qNoPart, qCut, cutD, qCutL, cutLD, addD, subD, mulD, modD, fdivD, eqD, neD, eqS, onB, ltD, leD, gtD, geD, isND, lenD, intD, strD, ordD, listD, tupleD, ixD, PEnds.at, wipeC, qYes,
    List.map_cons, List.map_nil, List.replicate, List.cons_append, List.nil_append, List.append_assoc, List.getElem?_cons_zero, List.getElem?_cons_succ, List.set_cons_zero, List.set_cons_succ, List.length_cons, List.length_nil, Option.map_some, if_true, if_false, Bool.not_true, Bool.not_false, decide_eq_true_eq, Bool.not_eq_true', decide_eq_false_iff_not, Nat.reduceAdd, Nat.reduceSub, List.replicate_succ, List.replicate_zero, true_and, and_true, reduceCtorEq, isStr, qPutS, putS, powD, CPow, qPut, onOwn, setD, qPutP, onPtr, qDelP, delD, qPutF, setF, qProp, qMeth, qMake, isObj, fldD, minD, maxD, qChain, revD, lrevD, isiD, tyD, qOrT, qAndT, onTru, truD, qJoined, qjCons, qjNil, fmtD, fmt5D, D.int.injEq, D.str.injEq, D.lst.injEq, D.tup.injEq, D.bl.injEq, false_implies, true_implies, ne_eq, not_false_eq_true, not_true_eq_false, forall_const, implies_true, false_and, and_false, exists_eq_left, exists_eq_left', Int.reduceEq, Int.reduceLT, Int.reduceNe, Int.reduceLE, or_false, false_or, or_true, true_or, qLc, qFor, qWhile, allD, sortAD, wipeC, isiS, List.any_cons, List.any_nil, Bool.or_false, Bool.or_true, Bool.true_or, Bool.false_or, Bool.and_self, Bool.false_and, Bool.and_false, Bool.and_true, Bool.true_and, String.reduceBEq, Bool.false_eq_true, Bool.true_eq_false]
          cases hc : isLc c' with
          | true =>
            simp only [startC, qVar, qPeek, qC, qBin, qUn, qNil, qCons, qTup, qLst, qCall, asB, qTest, qAnd, qOr, qNot, qAndV, qOrV, qNotV, qIfE, deref, qNext, qSeq, qSet, qSetN, qSetP, qRet, qRetN, qDrop, qIfS, qFreeze, qApp, onOwnL, qAsg, gqName, gqNil, gqCons, gqTup, qM1, qRng1, qEnum, qAny, asI, asL, itemsD, qPart, qNoPart, qCut, cutD, qCutL, cutLD, addD, subD, mulD, modD, fdivD, eqD, neD, eqS, onB, ltD, leD, gtD, geD, isND, lenD, intD, strD, ordD, listD, tupleD, ixD, PEnds.at, wipeC, qYes,
    List.map_cons, List.map_nil, List.replicate, List.cons_append, List.nil_append, List.append_assoc, List.getElem?_cons_zero, List.getElem?_cons_succ, List.set_cons_zero, List.set_cons_succ, List.length_cons, List.length_nil, Option.map_some, if_true, if_false, Bool.not_true, Bool.not_false, decide_eq_true_eq, Bool.not_eq_true', decide_eq_false_iff_not, Nat.reduceAdd, Nat.reduceSub, List.replicate_succ, List.replicate_zero, true_and, and_true, reduceCtorEq, isStr, qPutS, putS, powD, CPow, qPut, onOwn, setD, qPutP, onPtr, qDelP, delD, qPutF, setF, qProp, qMeth, qMake, isObj, fldD, minD, maxD, qChain, revD, lrevD, isiD, tyD, qOrT, qAndT, onTru, truD, qJoined, qjCons, qjNil, fmtD, fmt5D, D.int.injEq, D.str.injEq, D.lst.injEq, D.tup.injEq, D.bl.injEq, false_implies, true_implies, ne_eq, not_false_eq_true, not_true_eq_false, forall_const, implies_true, false_and, and_false, exists_eq_left, exists_eq_left', Int.reduceEq, Int.reduceLT, Int.reduceNe, Int.reduceLE, or_false, false_or, or_true, true_or, qLc, qFor, qWhile, allD, sortAD, wipeC, isiS, List.any_cons, List.any_nil, Bool.or_false, Bool.or_true, Bool.true_or, Bool.false_or, Bool.and_self, Bool.false_and, Bool.and_false, Bool.and_true, Bool.true_and, String.reduceBEq, Bool.false_eq_true, Bool.true_eq_false]
            refine ⟨hlen, ?_⟩
            rw [take_map hd]
            simp [hc]
          | false =>
            simp only [startC, qVar, qPeek, qC, qBin, qUn, qNil, qCons, qTup, qLst, qCall, asB, qTest, qAnd, qOr, qNot, qAndV, qOrV, qNotV, qIfE, deref, qNext, qSeq, qSet, qSetN, qSetP, qRet, qRetN, qDrop, qIfS, qFreeze, qApp, onOwnL, qAsg, gqName, gqNil, gqCons, gqTup, qM1, qRng1, qEnum, qAny, asI, asL, itemsD, qPart, qNoPart, qCut, cutD, qCutL, cutLD, addD, subD, mulD, modD, fdivD, eqD, neD, eqS, onB, ltD, leD, gtD, geD, isND, lenD, intD, strD, ordD, listD, tupleD, ixD, PEnds.at, wipeC, qYes,
    List.map_cons, List.map_nil, List.replicate, List.cons_append, List.nil_append, List.append_assoc, List.getElem?_cons_zero, List.getElem?_cons_succ, List.set_cons_zero, List.set_cons_succ, List.length_cons, List.length_nil, Option.map_some, if_true, if_false, Bool.not_true, Bool.not_false, decide_eq_true_eq, Bool.not_eq_true', decide_eq_false_iff_not, Nat.reduceAdd, Nat.reduceSub, List.replicate_succ, List.replicate_zero, true_and, and_true, reduceCtorEq, isStr, qPutS, putS, powD, CPow, qPut, onOwn, setD, qPutP, onPtr, qDelP, delD, qPutF, setF, qProp, qMeth, qMake, isObj, fldD, minD, maxD, qChain, revD, lrevD, isiD, tyD, qOrT, qAndT, onTru, truD, qJoined, qjCons, qjNil, fmtD, fmt5D, D.int.injEq, D.str.injEq, D.lst.injEq, D.tup.injEq, D.bl.injEq, false_implies, true_implies, ne_eq, not_false_eq_true, not_true_eq_false, forall_const, implies_true, false_and, and_false, exists_eq_left, exists_eq_left', Int.reduceEq, Int.reduceLT, Int.reduceNe, Int.reduceLE, or_false, false_or, or_true, true_or, qLc, qFor, qWhile, allD, sortAD, wipeC, isiS, List.any_cons, List.any_nil, Bool.or_false, Bool.or_true, Bool.true_or, Bool.false_or, Bool.and_self, Bool.false_and, Bool.and_false, Bool.and_true, Bool.true_and, String.reduceBEq, Bool.false_eq_true, Bool.true_eq_false]
            refine ⟨c', rfl, hlen, ?_⟩
            rw [take_map hd]
            simp [hc]
        · rintro acc h' ⟨rfl, rfl⟩
          simp only [startC, qVar, qPeek, qC, qBin, qUn, qNil, qCons, qTup, qLst, qCall, asB, qTest, qAnd, qOr, qNot, qAndV, qOrV, qNotV, qIfE, deref, qNext, qSeq, qSet, qSetN, qSetP, qRet, qRetN, qDrop, qIfS, qFreeze, qApp, onOwnL, qAsg, gqName, gqNil, gqCons, gqTup, qM1, qRng1, qEnum, qAny, asI, asL, itemsD, qPart, qNoPart, qCut, cutD, qCutL, cutLD, addD, subD, mulD, modD, fdivD, eqD, neD, eqS, onB, ltD, leD, gtD, geD, isND, lenD, intD, strD, ordD, listD, tupleD, ixD, PEnds.at, wipeC, qYes,
    List.map_cons, List.map_nil, List.replicate, List.cons_append, List.nil_append, List.append_assoc, List.getElem?_cons_zero, List.getElem?_cons_succ, List.set_cons_zero, List.set_cons_succ, List.length_cons, List.length_nil, Option.map_some, if_true, if_false, Bool.not_true, Bool.not_false, decide_eq_true_eq, Bool.not_eq_true', decide_eq_false_iff_not, Nat.reduceAdd, Nat.reduceSub, List.replicate_succ, List.replicate_zero, true_and, and_true, reduceCtorEq, isStr, qPutS, putS, powD, CPow, qPut, onOwn, setD, qPutP, onPtr, qDelP, delD, qPutF, setF, qProp, qMeth, qMake, isObj, fldD, minD, maxD, qChain, revD, lrevD, isiD, tyD, qOrT, qAndT, onTru, truD, qJoined, qjCons, qjNil, fmtD, fmt5D, D.int.injEq, D.str.injEq, D.lst.injEq, D.tup.injEq, D.bl.injEq, false_implies, true_implies, ne_eq, not_false_eq_true, not_true_eq_false, forall_const, implies_true, false_and, and_false, exists_eq_left, exists_eq_left', Int.reduceEq, Int.reduceLT, Int.reduceNe, Int.reduceLE, or_false, false_or, or_true, true_or, qLc, qFor, qWhile, allD, sortAD, wipeC, isiS, List.any_cons, List.any_nil, Bool.or_false, Bool.or_true, Bool.true_or, Bool.false_or, Bool.and_self, Bool.false_and, Bool.and_false, Bool.and_true, Bool.true_and, String.reduceBEq, Bool.false_eq_true, Bool.true_eq_false]
          refine ⟨z.cps.toList.map fun c => isLc c || isDc c, ?_, ?_⟩
          · rw [List.take_length]
            unfold signs
            rw [List.map_map, List.map_map]
            rfl
          · rw [List.all_map]
            exact hQ
      · rw [Bool.not_eq_true] at h3
        rw [h3] at hQ ⊢
        exact hQ
    · rw [if_pos (by omega)]
      rw [decide_eq_false h2, Bool.and_false] at hQ
      exact hQ
  · rw [if_neg (by omega)]
    rw [decide_eq_false h1] at hQ
    exact hQ
theorem c_is_name (G : GE K mg) : Cal P w K mg base "is_name" ["word"] 2 sp_is_name :=
  cal_of G.f_is_name sc_is_name (fun _ _ F => F.bindsN fun _ _ _ _ _ _ us hl => match us, hl with | [_], _ => rfl) (fun _ _ _ _ ⟨_, e, _⟩ => by rw [e]; rfl) (w_is_name G (c_is_letter G) (c_is_digit G)) v_is_name
end Pu.L70
set_option Elab.async false
set_option linter.all false
set_option maxRecDepth 100000
set_option maxHeartbeats 4000000
set_option autoImplicit false
namespace Pu.L70
open PySem PySem.Spec PyProof.Rows L2
variable {P : Program} {w : World} {K : PySem.W.Frag} {mg : Str → Option Value} {base : Heap}
def sp_check_name : Spec := fun ds h Q Ex => ∃ (z : Str), ds = [.str z] ∧ nameB z = true ∧ Q (.str z) h
theorem sc_check_name : FnScope ["word"] ["word"] (defScope s_check_name) := ⟨rfl, rfl, rfl, by decide +kernel, rfl, by decide +kernel, by decide +kernel⟩
def q_check_name : RS := (qSeq (qIfS (qNot (qTest (qCall sp_is_name (qCons (qVar 0) qNil)))) qNever qNext)
  (qRet (qVar 0)))
theorem w_check_name (G : GE K mg) (C_is_name : Cal P w K mg base "is_name" ["word"] 2 sp_is_name) : WkOk P w K mg base ["word"] "check_name" s_check_name 2 q_check_name := fun f cdv A outer s H E hr tk => by
  have S := sc_check_name
  unfold q_check_name
  exact (qss_cons (qs_if (qt_not (qt_val (qe_callC C_is_name hr tk (qa_cons (qe_var 0) qa_nil)).k)) (qss_one qs_never) qss_nil)
    (qss_one (qs_ret (qe_var 0))))
theorem v_check_name (ds : List D) (h : PHp) (Qp : D → PHp → Prop) (Ep : XP) : sp_check_name ds h Qp Ep → q_check_name (PE0 Qp Ep) (startC 1 ds) h := by
  rintro ⟨z, rfl, hn, hQ⟩
  simp only [q_check_name, startC, qVar, qPeek, qC, qBin, qUn, qNil, qCons, qTup, qLst, qCall, asB, qTest, qAnd, qOr, qNot, qAndV, qOrV, qNotV, qIfE, deref, qNext, qSeq, qSet, qSetN, qSetP, qRet, qRetN, qDrop, qIfS, qFreeze, qApp, onOwnL, qAsg, gqName, gqNil, gqCons, gqTup, qM1, qRng1, qEnum, qAny, asI, asL, itemsD, qPart, qNoPart, qCut, cutD, qCutL, cutLD, addD, subD, mulD, modD, fdivD, eqD, neD, eqS, onB, ltD, leD, gtD, geD, isND, lenD, intD, strD, ordD, listD, tupleD, ixD, PEnds.at, wipeC, qYes,
    List.map_cons, List.map_nil, List.replicate, List.cons_append, List.nil_append, List.append_assoc, List.getElem?_cons_zero, List.getElem?_cons_succ, List.set_cons_zero, List.set_cons_succ, List.length_cons, List.length_nil, Option.map_some, if_true, if_false, Bool.not_true, Bool.not_false, decide_eq_true_eq, Bool.not_eq_true', decide_eq_false_iff_not, Nat.reduceAdd, Nat.reduceSub, List.replicate_succ, List.replicate_zero, true_and, and_true, reduceCtorEq, isStr, qPutS, putS, powD, CPow, qPut, onOwn, setD, qPutP, onPtr, qDelP, delD, qPutF, setF, qProp, qMeth, qMake, isObj, fldD, minD, maxD, qChain, revD, lrevD, isiD, tyD, qOrT, qAndT, onTru, truD, qJoined, qjCons, qjNil, fmtD, fmt5D, D.int.injEq, D.str.injEq, D.lst.injEq, D.tup.injEq, D.bl.injEq, false_implies, true_implies, ne_eq, not_false_eq_true, not_true_eq_false, forall_const, implies_true, false_and, and_false, exists_eq_left, exists_eq_left', Int.reduceEq, Int.reduceLT, Int.reduceNe, Int.reduceLE, or_false, false_or, or_true, true_or, qLc, qFor, qWhile, allD, sortAD, wipeC, isiS, List.any_cons, List.any_nil, Bool.or_false, Bool.or_true, Bool.true_or, Bool.false_or, Bool.and_self, Bool.false_and, Bool.and_false, Bool.and_true, Bool.true_and, String.reduceBEq, Bool.false_eq_true, Bool.true_eq_false]
  have hl : z.length ≤ sizeLine := by
    unfold nameB at hn
    simp only [Bool.and_eq_true, decide_eq_true_eq] at hn
    rw [sizeLine_eq]
    omega
  refine ⟨z, rfl, hl, ?_⟩
  rw [hn]
  exact hQ
theorem c_check_name (G : GE K mg) : Cal P w K mg base "check_name" ["word"] 3 sp_check_name :=
  cal_of G.f_check_name sc_check_name (fun _ _ F => F.bindsN fun _ _ _ _ _ _ us hl => match us, hl with | [_], _ => rfl) (fun _ _ _ _ ⟨_, e, _⟩ => by rw [e]; rfl) (w_check_name G (c_is_name G)) v_check_name
end Pu.L70
set_option Elab.async false
set_option linter.all false
set_option maxRecDepth 100000
set_option maxHeartbeats 4000000
set_option autoImplicit false
namespace Pu.L70
open PySem PySem.Spec PyProof.Rows L2
variable {P : Program} {w : World} {K : PySem.W.Frag} {mg : Str → Option Value} {base : Heap}
def sp_check_number : Spec := fun ds h Q Ex => ∃ (n a b : Int), ds = [.int n, .int a, .int b] ∧ a ≤ n ∧ n ≤ b ∧ Q (.int n) h
theorem sc_check_number : FnScope ["number", "least", "most"] ["number", "least", "most"] (defScope s_check_number) := ⟨rfl, rfl, rfl, by decide +kernel, rfl, by decide +kernel, by decide +kernel⟩
def q_check_number : RS := (qSeq (qIfS (qOr (qNot (qTest (qUn (isiD ["int"]) (qPeek 0)))) (qTest (qUn (isiD ["bool"]) (qPeek 0)))) qNever qNext)
  (qSeq (qIfS (qNot (qTest (qChain leD leD (qPeek 1) (qPeek 0) (qPeek 2)))) qNever qNext)
  (qRet (qVar 0))))
theorem w_check_number (G : GE K mg)  : WkOk P w K mg base ["number", "least", "most"] "check_number" s_check_number 0 q_check_number := fun f cdv A outer s H E hr tk => by
  have S := sc_check_number
  unfold q_check_number
  exact (qss_cons (qs_if (qw_or (qt_not (qt_val (qe_isi1 "int" G.n_isinstance G.n_int (qk_var 0)).k)) (qw_or1 (qt_val (qe_isi1 "bool" G.n_isinstance G.n_bool (qk_var 0)).k))).t (qss_one qs_never) qss_nil)
    (qss_cons (qs_if (qt_not (qt_chain op_leAll ops_le op_leAll ops_le (qk_var 1) (qk_var 0) (qk_var 2))) (qss_one qs_never) qss_nil)
    (qss_one (qs_ret (qe_var 0)))))
theorem v_check_number (ds : List D) (h : PHp) (Qp : D → PHp → Prop) (Ep : XP) : sp_check_number ds h Qp Ep → q_check_number (PE0 Qp Ep) (startC 3 ds) h := by
  rintro ⟨n, a, b, rfl, h1, h2, hQ⟩
  simp only [q_check_number, startC, qVar, qPeek, qC, qBin, qUn, qNil, qCons, qTup, qLst, qCall, asB, qTest, qAnd, qOr, qNot, qAndV, qOrV, qNotV, qIfE, deref, qNext, qSeq, qSet, qSetN, qSetP, qRet, qRetN, qDrop, qIfS, qFreeze, qApp, onOwnL, qAsg, gqName, gqNil, gqCons, gqTup, qM1, qRng1, qEnum, qAny, asI, asL, itemsD, qPart, qNoPart, qCut, cutD, qCutL, cutLD, addD, subD, mulD, modD, fdivD, eqD, neD, eqS, onB, ltD, leD, gtD, geD, isND, lenD, intD, strD, ordD, listD, tupleD, ixD, PEnds.at, wipeC, qYes,
    List.map_cons, List.map_nil, List.replicate, List.cons_append, List.nil_append, List.append_assoc, List.getElem?_cons_zero, List.getElem?_cons_succ, List.set_cons_zero, List.set_cons_succ, List.length_cons, List.length_nil, Option.map_some, if_true, if_false, Bool.not_true, Bool.not_false, decide_eq_true_eq, Bool.not_eq_true', decide_eq_false_iff_not, Nat.reduceAdd, Nat.reduceSub, List.replicate_succ, List.replicate_zero, true_and, and_true, reduceCtorEq, isStr, qPutS, putS, powD, CPow, qPut, onOwn, setD, qPutP, onPtr, qDelP, delD, qPutF, setF, qProp, qMeth, qMake, isObj, fldD, minD, maxD, qChain, revD, lrevD, isiD, tyD, qOrT, qAndT, onTru, truD, qJoined, qjCons, qjNil, fmtD, fmt5D, D.int.injEq, D.str.injEq, D.lst.injEq, D.tup.injEq, D.bl.injEq, false_implies, true_implies, ne_eq, not_false_eq_true, not_true_eq_false, forall_const, implies_true, false_and, and_false, exists_eq_left, exists_eq_left', Int.reduceEq, Int.reduceLT, Int.reduceNe, Int.reduceLE, or_false, false_or, or_true, true_or, qLc, qFor, qWhile, allD, sortAD, wipeC, isiS, List.any_cons, List.any_nil, Bool.or_false, Bool.or_true, Bool.true_or, Bool.false_or, Bool.and_self, Bool.false_and, Bool.and_false, Bool.and_true, Bool.true_and, String.reduceBEq, Bool.false_eq_true, Bool.true_eq_false]
  rw [if_pos h1, if_neg (by omega)]
  exact hQ
theorem c_check_number (G : GE K mg) : Cal P w K mg base "check_number" ["number", "least", "most"] 1 sp_check_number :=
  cal_of G.f_check_number sc_check_number (fun _ _ F => F.bindsN fun _ _ _ _ _ _ us hl => match us, hl with | [_, _, _], _ => rfl) (fun _ _ _ _ ⟨_, _, _, e, _⟩ => by rw [e]; rfl) (w_check_number G ) v_check_number
end Pu.L70
set_option Elab.async false
set_option linter.all false
set_option maxRecDepth 100000
set_option maxHeartbeats 4000000
set_option autoImplicit false
namespace Pu.L70
open PySem PySem.Spec PyProof.Rows L2
variable {P : Program} {w : World} {K : PySem.W.Frag} {mg : Str → Option Value} {base : Heap}
def sp_ordered : Spec := fun ds h Q Ex => ∃ (a b : Str), ds = [.str a, .str b] ∧ Q (if b.cps.toList < a.cps.toList then .tup [.str b, .str a] else .tup [.str a, .str b]) h
theorem sc_ordered : FnScope ["a", "b"] ["a", "b"] (defScope s_ordered) := ⟨rfl, rfl, rfl, by decide +kernel, rfl, by decide +kernel, by decide +kernel⟩
def q_ordered : RS := (qSeq (qIfS (qTest (qBin ltD (qPeek 1) (qPeek 0))) (qRet (qTup (qCons (qVar 1) (qCons (qVar 0) qNil)))) qNext)
  (qRet (qTup (qCons (qVar 0) (qCons (qVar 1) qNil)))))
theorem w_ordered (G : GE K mg)  : WkOk P w K mg base ["a", "b"] "ordered" s_ordered 0 q_ordered := fun f cdv A outer s H E hr tk => by
  have S := sc_ordered
  unfold q_ordered
  exact (qss_cons (qs_if (qt_cmp op_ltAll ops_lt (qk_var 1) (qk_var 0) (by rfl)) (qss_one (qs_ret (qe_tup (qa_cons (qe_var 1) (qa_cons (qe_var 0) qa_nil))))) qss_nil)
    (qss_one (qs_ret (qe_tup (qa_cons (qe_var 0) (qa_cons (qe_var 1) qa_nil))))))
theorem v_ordered (ds : List D) (h : PHp) (Qp : D → PHp → Prop) (Ep : XP) : sp_ordered ds h Qp Ep → q_ordered (PE0 Qp Ep) (startC 2 ds) h := by
  rintro ⟨a, b, rfl, hQ⟩
  simp only [q_ordered, startC, qVar, qPeek, qC, qBin, qUn, qNil, qCons, qTup, qLst, qCall, asB, qTest, qAnd, qOr, qNot, qAndV, qOrV, qNotV, qIfE, deref, qNext, qSeq, qSet, qSetN, qSetP, qRet, qRetN, qDrop, qIfS, qFreeze, qApp, onOwnL, qAsg, gqName, gqNil, gqCons, gqTup, qM1, qRng1, qEnum, qAny, asI, asL, itemsD, qPart, qNoPart, qCut, cutD, qCutL, cutLD, addD, subD, mulD, modD, fdivD, eqD, neD, eqS, onB, ltD, leD, gtD, geD, isND, lenD, intD, strD, ordD, listD, tupleD, ixD, PEnds.at, wipeC, qYes,
    List.map_cons, List.map_nil, List.replicate, List.cons_append, List.nil_append, List.append_assoc, List.getElem?_cons_zero, List.getElem?_cons_succ, List.set_cons_zero, List.set_cons_succ, List.length_cons, List.length_nil, Option.map_some, if_true, if_false, Bool.not_true, Bool.not_false, decide_eq_true_eq, Bool.not_eq_true', decide_eq_false_iff_not, Nat.reduceAdd, Nat.reduceSub, List.replicate_succ, List.replicate_zero, true_and, and_true, reduceCtorEq, isStr, qPutS, putS, powD, CPow, qPut, onOwn, setD, qPutP, onPtr, qDelP, delD, qPutF, setF, qProp, qMeth, qMake, isObj, fldD, minD, maxD, qChain, revD, lrevD, isiD, tyD, qOrT, qAndT, onTru, truD, qJoined, qjCons, qjNil, fmtD, fmt5D, D.int.injEq, D.str.injEq, D.lst.injEq, D.tup.injEq, D.bl.injEq, false_implies, true_implies, ne_eq, not_false_eq_true, not_true_eq_false, forall_const, implies_true, false_and, and_false, exists_eq_left, exists_eq_left', Int.reduceEq, Int.reduceLT, Int.reduceNe, Int.reduceLE, or_false, false_or, or_true, true_or, qLc, qFor, qWhile, allD, sortAD, wipeC, isiS, List.any_cons, List.any_nil, Bool.or_false, Bool.or_true, Bool.true_or, Bool.false_or, Bool.and_self, Bool.false_and, Bool.and_false, Bool.and_true, Bool.true_and, String.reduceBEq, Bool.false_eq_true, Bool.true_eq_false]
  split
  · rename_i c; rw [if_pos c] at hQ; exact hQ
  · rename_i c; rw [if_neg c] at hQ; exact hQ
theorem c_ordered (G : GE K mg) : Cal P w K mg base "ordered" ["a", "b"] 1 sp_ordered :=
  cal_of G.f_ordered sc_ordered (fun _ _ F => F.bindsN fun _ _ _ _ _ _ us hl => match us, hl with | [_, _], _ => rfl) (fun _ _ _ _ ⟨_, _, e, _⟩ => by rw [e]; rfl) (w_ordered G ) v_ordered
end Pu.L70
set_option Elab.async false
set_option linter.all false
set_option maxRecDepth 100000
set_option maxHeartbeats 4000000
set_option autoImplicit false
namespace Pu.L70
open PySem PySem.Spec PyProof.Rows L2
def rs (v : Int) (cs : List Nat) : Int := cs.foldl (fun (v : Int) (c : Nat) => (v * 131 + (c : Int)) % 99991) v
def rev1 (t : Int × Int) (c : Nat) : Int × Int := (t.1 + c * t.2, (t.2 * 131) % 99991)
def rT (cs : List Nat) : Int × Int := cs.reverse.foldl rev1 (0, 1)
theorem rs_eq : ∀ (cs : List Nat) (v : Int), rs v cs % 99991 = ((rT cs).1 + v * (rT cs).2) % 99991
  | [], v => by
    show v % 99991 = (0 + v * 1) % 99991
    rw [Int.mul_one, Int.zero_add]
  | c :: r, v => by
    have ih := rs_eq r ((v * 131 + c) % 99991)
    have e : rT (c :: r) = rev1 (rT r) c := by
      unfold rT
      rw [List.reverse_cons, List.foldl_append]
      rfl
    show rs ((v * 131 + c) % 99991) r % 99991 = _
    rw [ih, e]
    show ((rT r).1 + (v * 131 + c) % 99991 * (rT r).2) % 99991 = ((rT r).1 + c * (rT r).2 + v * (((rT r).2 * 131) % 99991)) % 99991
    generalize (rT r).1 = t
    generalize (rT r).2 = p
    have e1 : ((v * 131 + c) % 99991 * p) % 99991 = ((v * 131 + c) * p) % 99991 := by rw [Int.mul_emod, Int.emod_emod_of_dvd _ (Int.dvd_refl _), ← Int.mul_emod]
    have e2 : (v * (p * 131 % 99991)) % 99991 = (v * (p * 131)) % 99991 := by rw [Int.mul_emod, Int.emod_emod_of_dvd _ (Int.dvd_refl _), ← Int.mul_emod]
    rw [Int.add_emod, e1, ← Int.add_emod, Int.add_emod (t + c * p), e2, ← Int.add_emod]
    congr 1
    rw [Int.add_mul, Int.add_assoc, Int.mul_assoc, Int.mul_comm 131 p]
    omega
theorem rs_small : ∀ (cs : List Nat) (v : Int), 0 ≤ v → v < 99991 → 0 ≤ rs v cs ∧ rs v cs < 99991
  | [], v, h0, h1 => ⟨h0, h1⟩
  | c :: r, v, h0, h1 => rs_small r _ (Int.emod_nonneg _ (by decide)) (Int.emod_lt_of_pos _ (by decide))
theorem rs_due (cs : List Nat) : ((rT cs).1 + 7 * (rT cs).2) % 99991 = rs 7 cs := by
  rw [← rs_eq]
  have := rs_small cs 7 (by decide) (by decide)
  exact Int.emod_eq_of_lt this.1 this.2
theorem rT_small : ∀ (cs : List Nat) (t : Int × Int), 0 ≤ t.2 → t.2 < 99991 → 0 ≤ (cs.foldl rev1 t).2 ∧ (cs.foldl rev1 t).2 < 99991
  | [], t, h0, h1 => ⟨h0, h1⟩
  | c :: r, t, h0, h1 => rT_small r _ (Int.emod_nonneg _ (by decide)) (Int.emod_lt_of_pos _ (by decide))
theorem rs_snoc (v : Int) (cs : List Nat) (a : Nat) : rs v (cs ++ [a]) = (rs v cs * 131 + (a : Int)) % 99991 := by
  unfold rs
  rw [List.foldl_append]
  rfl
theorem revS_toList (z : Str) : (revS z).cps.toList = z.cps.toList.reverse := by
  unfold revS
  simp
end Pu.L70
set_option Elab.async false
set_option linter.all false
set_option maxRecDepth 100000
set_option maxHeartbeats 4000000
set_option autoImplicit false
namespace Pu.L70
open PySem PySem.Spec PyProof.Rows L2
variable {P : Program} {w : World} {K : PySem.W.Frag} {mg : Str → Option Value} {base : Heap}
def sp_record_sum : Spec := fun ds h Q Ex => ∃ (z : Str), ds = [.str z] ∧ Q (.int (rs 7 z.cps.toList)) h
theorem sc_record_sum : FnScope ["text", "value", "character"] ["text"] (defScope s_record_sum) := ⟨rfl, rfl, rfl, by decide +kernel, rfl, by decide +kernel, by decide +kernel⟩
def q_record_sum : RS := (qSeq (qSet 1 (qC (.int 7)))
  (qSeq (qFor (qAny (qVar 0)) (gqName 2) (qSet 1 (qBin modD (qBin addD (qBin mulD (qPeek 1) (qC (.int 131))) (qUn ordD (qPeek 2))) (qC (.int 99991)))))
  (qRet (qVar 1))))
theorem w_record_sum (G : GE K mg)  : WkOk P w K mg base ["text", "value", "character"] "record_sum" s_record_sum 0 q_record_sum := fun f cdv A outer s H E hr tk => by
  have S := sc_record_sum
  unfold q_record_sum
  exact (qss_cons (qs_set 1 qe_int S.nd)
    (qss_cons (qs_for (passes_of rfl) rfl (qi_any (qe_var 0)) (qg_name 2 S.nd) (qss_one (qs_set 1 (qe_bin op_modN ops_mod (qe_bin op_addAll ops_add (qe_bin op_mulAll ops_mul (qk_var 1) (qe_int).k).k (qe_b1 call_ord cs_ord G.n_ord (qk_var 2)).k).k (qe_int).k) S.nd)))
    (qss_one (qs_ret (qe_var 1)))))
theorem v_record_sum (ds : List D) (h : PHp) (Qp : D → PHp → Prop) (Ep : XP) : sp_record_sum ds h Qp Ep → q_record_sum (PE0 Qp Ep) (startC 3 ds) h := by
  rintro ⟨z, rfl, hQ⟩
  simp only [q_record_sum, startC, qVar, qPeek, qC, qBin, qUn, qNil, qCons, qTup, qLst, qCall, asB, qTest, qAnd, qOr, qNot, qAndV, qOrV, qNotV, qIfE, deref, qNext, qSeq, qSet, qSetN, qSetP, qRet, qRetN, qDrop, qIfS, qFreeze, qApp, onOwnL, qAsg, gqName, gqNil, gqCons, gqTup, qM1, qRng1, qEnum, qAny, asI, asL, itemsD, qPart, qNoPart, qCut, cutD, qCutL, cutLD, addD, subD, mulD, modD, fdivD, eqD, neD, eqS, onB, ltD, leD, gtD, geD, isND, lenD, intD, strD, ordD, listD, tupleD, ixD, PEnds.at, wipeC, qYes,
    List.map_cons, List.map_nil, List.replicate, List.cons_append, List.nil_append, List.append_assoc, List.getElem?_cons_zero, List.getElem?_cons_succ, List.set_cons_zero, List.set_cons_succ, List.length_cons, List.length_nil, Option.map_some, if_true, if_false, Bool.not_true, Bool.not_false, decide_eq_true_eq, Bool.not_eq_true', decide_eq_false_iff_not, Nat.reduceAdd, Nat.reduceSub, List.replicate_succ, List.replicate_zero, true_and, and_true, reduceCtorEq, isStr, qPutS, putS, powD, CPow, qPut, onOwn, setD, qPutP, onPtr, qDelP, delD, qPutF, setF, qProp, qMeth, qMake, isObj, fldD, minD, maxD, qChain, revD, lrevD, isiD, tyD, qOrT, qAndT, onTru, truD, qJoined, qjCons, qjNil, fmtD, fmt5D, D.int.injEq, D.str.injEq, D.lst.injEq, D.tup.injEq, D.bl.injEq, false_implies, true_implies, ne_eq, not_false_eq_true, not_true_eq_false, forall_const, implies_true, false_and, and_false, exists_eq_left, exists_eq_left', Int.reduceEq, Int.reduceLT, Int.reduceNe, Int.reduceLE, or_false, false_or, or_true, true_or, qLc, qFor, qWhile, allD, sortAD, wipeC, isiS, List.any_cons, List.any_nil, Bool.or_false, Bool.or_true, Bool.true_or, Bool.false_or, Bool.and_self, Bool.false_and, Bool.and_false, Bool.and_true, Bool.true_and, String.reduceBEq, Bool.false_eq_true, Bool.true_eq_false]
  refine forK_i (fun i ρ' h' => h' = h ∧ ∃ c, ρ' = [.fro (.str z), .fro (.int (rs 7 (z.cps.toList.take i))), c]) ⟨rfl, _, rfl⟩ ?_ ?_
  · rintro i d ρ' h' hd ⟨rfl, c, rfl⟩
    obtain ⟨a, h1, rfl⟩ := signs_get hd
    simp only [startC, qVar, qPeek, qC, qBin, qUn, qNil, qCons, qTup, qLst, qCall, asB, qTest, qAnd, qOr, qNot, qAndV, qOrV, qNotV, qIfE, deref, qNext, qSeq, qSet, qSetN, qSetP, qRet, qRetN, qDrop, qIfS, qFreeze, qApp, onOwnL, qAsg, gqName, gqNil, gqCons, gqTup, qM1, qRng1, qEnum, qAny, asI, asL, itemsD, qPart, qNoPart, qCut, cutD, qCutL, cutLD, addD, subD, mulD, modD, fdivD, eqD, neD, eqS, onB, ltD, leD, gtD, geD, isND, lenD, intD, strD, ordD, listD, tupleD, ixD, PEnds.at, wipeC, qYes,
    List.map_cons, List.map_nil, List.replicate, List.cons_append, List.nil_append, List.append_assoc, List.getElem?_cons_zero, List.getElem?_cons_succ, List.set_cons_zero, List.set_cons_succ, List.length_cons, List.length_nil, Option.map_some, if_true, if_false, Bool.not_true, Bool.not_false, decide_eq_true_eq, Bool.not_eq_true', decide_eq_false_iff_not, Nat.reduceAdd, Nat.reduceSub, List.replicate_succ, List.replicate_zero, true_and, and_true, reduceCtorEq, isStr, qPutS, putS, powD, CPow, qPut, onOwn, setD, qPutP, onPtr, qDelP, delD, qPutF, setF, qProp, qMeth, qMake, isObj, fldD, minD, maxD, qChain, revD, lrevD, isiD, tyD, qOrT, qAndT, onTru, truD, qJoined, qjCons, qjNil, fmtD, fmt5D, D.int.injEq, D.str.injEq, D.lst.injEq, D.tup.injEq, D.bl.injEq, false_implies, true_implies, ne_eq, not_false_eq_true, not_true_eq_false, forall_const, implies_true, false_and, and_false, exists_eq_left, exists_eq_left', Int.reduceEq, Int.reduceLT, Int.reduceNe, Int.reduceLE, or_false, false_or, or_true, true_or, qLc, qFor, qWhile, allD, sortAD, wipeC, isiS, List.any_cons, List.any_nil, Bool.or_false, Bool.or_true, Bool.true_or, Bool.false_or, Bool.and_self, Bool.false_and, Bool.and_false, Bool.and_true, Bool.true_and, String.reduceBEq, Bool.false_eq_true, Bool.true_eq_false]
    refine ⟨.inr ⟨by decide, by decide⟩, rfl, .fro (.str ⟨#[a]⟩), ?_⟩
    rw [take_snoc h1, rs_snoc, fmod_emod (by decide)]
    rfl
  · rintro ρ' h' ⟨rfl, c, rfl⟩
    rw [signs_len, show z.length = z.cps.toList.length from Array.length_toList.symm, List.take_length]
    simp only [startC, qVar, qPeek, qC, qBin, qUn, qNil, qCons, qTup, qLst, qCall, asB, qTest, qAnd, qOr, qNot, qAndV, qOrV, qNotV, qIfE, deref, qNext, qSeq, qSet, qSetN, qSetP, qRet, qRetN, qDrop, qIfS, qFreeze, qApp, onOwnL, qAsg, gqName, gqNil, gqCons, gqTup, qM1, qRng1, qEnum, qAny, asI, asL, itemsD, qPart, qNoPart, qCut, cutD, qCutL, cutLD, addD, subD, mulD, modD, fdivD, eqD, neD, eqS, onB, ltD, leD, gtD, geD, isND, lenD, intD, strD, ordD, listD, tupleD, ixD, PEnds.at, wipeC, qYes,
    List.map_cons, List.map_nil, List.replicate, List.cons_append, List.nil_append, List.append_assoc, List.getElem?_cons_zero, List.getElem?_cons_succ, List.set_cons_zero, List.set_cons_succ, List.length_cons, List.length_nil, Option.map_some, if_true, if_false, Bool.not_true, Bool.not_false, decide_eq_true_eq, Bool.not_eq_true', decide_eq_false_iff_not, Nat.reduceAdd, Nat.reduceSub, List.replicate_succ, List.replicate_zero, true_and, and_true, reduceCtorEq, isStr, qPutS, putS, powD, CPow, qPut, onOwn, setD, qPutP, onPtr, qDelP, delD, qPutF, setF, qProp, qMeth, qMake, isObj, fldD, minD, maxD, qChain, revD, lrevD, isiD, tyD, qOrT, qAndT, onTru, truD, qJoined, qjCons, qjNil, fmtD, fmt5D, D.int.injEq, D.str.injEq, D.lst.injEq, D.tup.injEq, D.bl.injEq, false_implies, true_implies, ne_eq, not_false_eq_true, not_true_eq_false, forall_const, implies_true, false_and, and_false, exists_eq_left, exists_eq_left', Int.reduceEq, Int.reduceLT, Int.reduceNe, Int.reduceLE, or_false, false_or, or_true, true_or, qLc, qFor, qWhile, allD, sortAD, wipeC, isiS, List.any_cons, List.any_nil, Bool.or_false, Bool.or_true, Bool.true_or, Bool.false_or, Bool.and_self, Bool.false_and, Bool.and_false, Bool.and_true, Bool.true_and, String.reduceBEq, Bool.false_eq_true, Bool.true_eq_false]
    exact hQ
theorem c_record_sum (G : GE K mg) : Cal P w K mg base "record_sum" ["text"] 1 sp_record_sum :=
  cal_of G.f_record_sum sc_record_sum (fun _ _ F => F.bindsN fun _ _ _ _ _ _ us hl => match us, hl with | [_], _ => rfl) (fun _ _ _ _ ⟨_, e, _⟩ => by rw [e]; rfl) (w_record_sum G ) v_record_sum
end Pu.L70
set_option Elab.async false
set_option linter.all false
set_option maxRecDepth 100000
set_option maxHeartbeats 4000000
set_option autoImplicit false
namespace Pu.L70
open PySem PySem.Spec PyProof.Rows L2
variable {P : Program} {w : World} {K : PySem.W.Frag} {mg : Str → Option Value} {base : Heap}
def sp__law_due_sum : Spec := fun ds h Q Ex => ∃ (z : Str), ds = [.str z] ∧ z.length ≤ sizeLine ∧ Q (.int (rs 7 z.cps.toList)) h
theorem sc__law_due_sum : FnScope ["_law_text_here", "_law_total", "_law_power", "_law_sign"] ["_law_text_here"] (defScope s__law_due_sum) := ⟨rfl, rfl, rfl, by decide +kernel, rfl, by decide +kernel, by decide +kernel⟩
def q__law_due_sum : RS := (qSeq (qSet 1 (qC (.int 0)))
  (qSeq (qSet 2 (qC (.int 1)))
  (qSeq (qFor (qAny (qUn revD (qPeek 0))) (gqName 3) (qSeq (qSet 1 (qBin addD (qPeek 1) (qBin mulD (qUn ordD (qPeek 3)) (qPeek 2))))
  (qSet 2 (qBin modD (qUn intD (qBin mulD (qPeek 2) (qC (.int 131)))) (qC (.int 99991))))))
  (qRet (qBin modD (qUn intD (qBin addD (qPeek 1) (qBin mulD (qC (.int 7)) (qPeek 2)))) (qC (.int 99991)))))))
theorem w__law_due_sum (G : GE K mg)  : WkOk P w K mg base ["_law_text_here", "_law_total", "_law_power", "_law_sign"] "_law_due_sum" s__law_due_sum 0 q__law_due_sum := fun f cdv A outer s H E hr tk => by
  have S := sc__law_due_sum
  unfold q__law_due_sum
  exact (qss_cons (qs_set 1 qe_int S.nd)
    (qss_cons (qs_set 2 qe_int S.nd)
    (qss_cons (qs_for (passes_of rfl) rfl (qi_any (qe_rev (qk_var 0))) (qg_name 3 S.nd) (qss_cons (qs_set 1 (qe_bin op_addAll ops_add (qk_var 1) (qe_bin op_mulAll ops_mul (qe_b1 call_ord cs_ord G.n_ord (qk_var 3)).k (qk_var 2)).k) S.nd)
    (qss_one (qs_set 2 (qe_bin op_modN ops_mod (qe_t1 call_intAll cs_int G.n_int (qe_bin op_mulAll ops_mul (qk_var 2) (qe_int).k).k).k (qe_int).k) S.nd))))
    (qss_one (qs_ret (qe_bin op_modN ops_mod (qe_t1 call_intAll cs_int G.n_int (qe_bin op_addAll ops_add (qk_var 1) (qe_bin op_mulAll ops_mul (qe_int).k (qk_var 2)).k).k).k (qe_int).k))))))
theorem v__law_due_sum (ds : List D) (h : PHp) (Qp : D → PHp → Prop) (Ep : XP) : sp__law_due_sum ds h Qp Ep → q__law_due_sum (PE0 Qp Ep) (startC 4 ds) h := by
  rintro ⟨z, rfl, hl, hQ⟩
  simp only [q__law_due_sum, startC, qVar, qPeek, qC, qBin, qUn, qNil, qCons, qTup, qLst, qCall, asB, qTest, qAnd, qOr, qNot, qAndV, qOrV, qNotV, qIfE, deref, qNext, qSeq, qSet, qSetN, qSetP, qRet, qRetN, qDrop, qIfS, qFreeze, qApp, onOwnL, qAsg, gqName, gqNil, gqCons, gqTup, qM1, qRng1, qEnum, qAny, asI, asL, itemsD, qPart, qNoPart, qCut, cutD, qCutL, cutLD, addD, subD, mulD, modD, fdivD, eqD, neD, eqS, onB, ltD, leD, gtD, geD, isND, lenD, intD, strD, ordD, listD, tupleD, ixD, PEnds.at, wipeC, qYes,
    List.map_cons, List.map_nil, List.replicate, List.cons_append, List.nil_append, List.append_assoc, List.getElem?_cons_zero, List.getElem?_cons_succ, List.set_cons_zero, List.set_cons_succ, List.length_cons, List.length_nil, Option.map_some, if_true, if_false, Bool.not_true, Bool.not_false, decide_eq_true_eq, Bool.not_eq_true', decide_eq_false_iff_not, Nat.reduceAdd, Nat.reduceSub, List.replicate_succ, List.replicate_zero, true_and, and_true, reduceCtorEq, isStr, qPutS, putS, powD, CPow, qPut, onOwn, setD, qPutP, onPtr, qDelP, delD, qPutF, setF, qProp, qMeth, qMake, isObj, fldD, minD, maxD, qChain, revD, lrevD, isiD, tyD, qOrT, qAndT, onTru, truD, qJoined, qjCons, qjNil, fmtD, fmt5D, D.int.injEq, D.str.injEq, D.lst.injEq, D.tup.injEq, D.bl.injEq, false_implies, true_implies, ne_eq, not_false_eq_true, not_true_eq_false, forall_const, implies_true, false_and, and_false, exists_eq_left, exists_eq_left', Int.reduceEq, Int.reduceLT, Int.reduceNe, Int.reduceLE, or_false, false_or, or_true, true_or, qLc, qFor, qWhile, allD, sortAD, wipeC, isiS, List.any_cons, List.any_nil, Bool.or_false, Bool.or_true, Bool.true_or, Bool.false_or, Bool.and_self, Bool.false_and, Bool.and_false, Bool.and_true, Bool.true_and, String.reduceBEq, Bool.false_eq_true, Bool.true_eq_false]
  refine ⟨hl, forK_i (fun i ρ' h' => h' = h ∧ ∃ c, ρ' = [.fro (.str z), .fro (.int ((z.cps.toList.reverse.take i).foldl rev1 (0, 1)).1), .fro (.int ((z.cps.toList.reverse.take i).foldl rev1 (0, 1)).2), c]) ⟨rfl, _, rfl⟩ ?_ ?_⟩
  · rintro i d ρ' h' hd ⟨rfl, c, rfl⟩
    obtain ⟨a, h1, rfl⟩ := signs_get hd
    have sm := rT_small (z.cps.toList.reverse.take i) (0, 1) (by decide) (by decide)
    simp only [startC, qVar, qPeek, qC, qBin, qUn, qNil, qCons, qTup, qLst, qCall, asB, qTest, qAnd, qOr, qNot, qAndV, qOrV, qNotV, qIfE, deref, qNext, qSeq, qSet, qSetN, qSetP, qRet, qRetN, qDrop, qIfS, qFreeze, qApp, onOwnL, qAsg, gqName, gqNil, gqCons, gqTup, qM1, qRng1, qEnum, qAny, asI, asL, itemsD, qPart, qNoPart, qCut, cutD, qCutL, cutLD, addD, subD, mulD, modD, fdivD, eqD, neD, eqS, onB, ltD, leD, gtD, geD, isND, lenD, intD, strD, ordD, listD, tupleD, ixD, PEnds.at, wipeC, qYes,
    List.map_cons, List.map_nil, List.replicate, List.cons_append, List.nil_append, List.append_assoc, List.getElem?_cons_zero, List.getElem?_cons_succ, List.set_cons_zero, List.set_cons_succ, List.length_cons, List.length_nil, Option.map_some, if_true, if_false, Bool.not_true, Bool.not_false, decide_eq_true_eq, Bool.not_eq_true', decide_eq_false_iff_not, Nat.reduceAdd, Nat.reduceSub, List.replicate_succ, List.replicate_zero, true_and, and_true, reduceCtorEq, isStr, qPutS, putS, powD, CPow, qPut, onOwn, setD, qPutP, onPtr, qDelP, delD, qPutF, setF, qProp, qMeth, qMake, isObj, fldD, minD, maxD, qChain, revD, lrevD, isiD, tyD, qOrT, qAndT, onTru, truD, qJoined, qjCons, qjNil, fmtD, fmt5D, D.int.injEq, D.str.injEq, D.lst.injEq, D.tup.injEq, D.bl.injEq, false_implies, true_implies, ne_eq, not_false_eq_true, not_true_eq_false, forall_const, implies_true, false_and, and_false, exists_eq_left, exists_eq_left', Int.reduceEq, Int.reduceLT, Int.reduceNe, Int.reduceLE, or_false, false_or, or_true, true_or, qLc, qFor, qWhile, allD, sortAD, wipeC, isiS, List.any_cons, List.any_nil, Bool.or_false, Bool.or_true, Bool.true_or, Bool.false_or, Bool.and_self, Bool.false_and, Bool.and_false, Bool.and_true, Bool.true_and, String.reduceBEq, Bool.false_eq_true, Bool.true_eq_false]
    rw [revS_toList] at h1
    refine ⟨rfl, .inr ⟨by omega, by omega⟩, .inr ⟨by decide, by decide⟩, .fro (.str ⟨#[a]⟩), ?_⟩
    rw [take_snoc h1, List.foldl_append, fmod_emod (by decide)]
    rfl
  · rintro ρ' h' ⟨rfl, c, rfl⟩
    simp only [startC, qVar, qPeek, qC, qBin, qUn, qNil, qCons, qTup, qLst, qCall, asB, qTest, qAnd, qOr, qNot, qAndV, qOrV, qNotV, qIfE, deref, qNext, qSeq, qSet, qSetN, qSetP, qRet, qRetN, qDrop, qIfS, qFreeze, qApp, onOwnL, qAsg, gqName, gqNil, gqCons, gqTup, qM1, qRng1, qEnum, qAny, asI, asL, itemsD, qPart, qNoPart, qCut, cutD, qCutL, cutLD, addD, subD, mulD, modD, fdivD, eqD, neD, eqS, onB, ltD, leD, gtD, geD, isND, lenD, intD, strD, ordD, listD, tupleD, ixD, PEnds.at, wipeC, qYes,
    List.map_cons, List.map_nil, List.replicate, List.cons_append, List.nil_append, List.append_assoc, List.getElem?_cons_zero, List.getElem?_cons_succ, List.set_cons_zero, List.set_cons_succ, List.length_cons, List.length_nil, Option.map_some, if_true, if_false, Bool.not_true, Bool.not_false, decide_eq_true_eq, Bool.not_eq_true', decide_eq_false_iff_not, Nat.reduceAdd, Nat.reduceSub, List.replicate_succ, List.replicate_zero, true_and, and_true, reduceCtorEq, isStr, qPutS, putS, powD, CPow, qPut, onOwn, setD, qPutP, onPtr, qDelP, delD, qPutF, setF, qProp, qMeth, qMake, isObj, fldD, minD, maxD, qChain, revD, lrevD, isiD, tyD, qOrT, qAndT, onTru, truD, qJoined, qjCons, qjNil, fmtD, fmt5D, D.int.injEq, D.str.injEq, D.lst.injEq, D.tup.injEq, D.bl.injEq, false_implies, true_implies, ne_eq, not_false_eq_true, not_true_eq_false, forall_const, implies_true, false_and, and_false, exists_eq_left, exists_eq_left', Int.reduceEq, Int.reduceLT, Int.reduceNe, Int.reduceLE, or_false, false_or, or_true, true_or, qLc, qFor, qWhile, allD, sortAD, wipeC, isiS, List.any_cons, List.any_nil, Bool.or_false, Bool.or_true, Bool.true_or, Bool.false_or, Bool.and_self, Bool.false_and, Bool.and_false, Bool.and_true, Bool.true_and, String.reduceBEq, Bool.false_eq_true, Bool.true_eq_false]
    rw [signs_len, revS_len, show z.length = z.cps.toList.reverse.length by rw [List.length_reverse]; exact Array.length_toList.symm, List.take_length, fmod_emod (by decide)]
    refine ⟨.inl ⟨by decide, by decide⟩, ?_⟩
    have := rs_due z.cps.toList
    unfold rT at this
    rw [this]
    exact hQ
theorem c__law_due_sum (G : GE K mg) : Cal P w K mg base "_law_due_sum" ["_law_text_here"] 1 sp__law_due_sum :=
  cal_of G.f__law_due_sum sc__law_due_sum (fun _ _ F => F.bindsN fun _ _ _ _ _ _ us hl => match us, hl with | [_], _ => rfl) (fun _ _ _ _ ⟨_, e, _⟩ => by rw [e]; rfl) (w__law_due_sum G ) v__law_due_sum
end Pu.L70
set_option Elab.async false
set_option linter.all false
set_option maxRecDepth 100000
set_option maxHeartbeats 4000000
set_option autoImplicit false
namespace Pu.L70
open PySem PySem.Spec PyProof.Rows L2
variable {P : Program} {w : World} {K : PySem.W.Frag} {mg : Str → Option Value} {base : Heap}
def sp__law_shuffled : Spec := fun ds h Q Ex => ∃ (xs : List D), ds = [.sto, .lst xs] ∧ xs.length ≤ sizeLine ∧ ∀ ys : List D, ys.Perm xs → Q (.lst ys) h
theorem sc__law_shuffled : FnScope ["_law_store_here", "_law_items", "_law_row", "_law_style", "_law_k", "_law_at", "_law_kept"] ["_law_store_here", "_law_items"] (defScope s__law_shuffled) := ⟨rfl, rfl, rfl, by decide +kernel, rfl, by decide +kernel, by decide +kernel⟩
def q__law_shuffled : RS := (qSeq (qSetN 2 (qUn listD (qPeek 1)))
  (qSeq (qSet 3 (qCall sp__law_take (qCons (qVar 0) (qCons (qC (.int 6)) qNil))))
  (qSeq (qIfS (qTest (qBin eqD (qPeek 3) (qC (.int 0)))) (qFreeze 2 (qRet (qVar 2))) qNext)
  (qSeq (qIfS (qTest (qBin eqD (qPeek 3) (qC (.int 1)))) (qRet (qUn lrevD (qPeek 2))) qNext)
  (qSeq (qFor (qRng1 (qBin subD (qUn lenD (qPeek 2)) (qC (.int 1)))) (gqName 4) (qSeq (qSet 5 (qBin addD (qPeek 4) (qCall sp__law_take (qCons (qVar 0) (qCons (qBin subD (qUn lenD (qPeek 2)) (qPeek 4)) qNil)))))
  (qSeq (qSet 6 (qBin ixD (qPeek 2) (qPeek 4)))
  (qSeq (qPut 2 (qBin ixD (qPeek 2) (qPeek 5)) (qVar 4))
  (qPut 2 (qVar 6) (qVar 5))))))
  (qFreeze 2 (qRet (qVar 2))))))))
theorem w__law_shuffled (G : GE K mg) (C__law_take : Cal P w K mg base "_law_take" ["_law_store_here", "_law_many"] 1 sp__law_take) : WkOk P w K mg base ["_law_store_here", "_law_items", "_law_row", "_law_style", "_law_k", "_law_at", "_law_kept"] "_law_shuffled" s__law_shuffled 1 q__law_shuffled := fun f cdv A outer s H E hr tk => by
  have S := sc__law_shuffled
  unfold q__law_shuffled
  exact (qss_cons (qs_setN 2 (qn_t1 call_list_of cn_list G.n_list (qk_var 1)) S.nd)
    (qss_cons (qs_set 3 (qe_callC C__law_take hr tk (qa_cons (qe_var 0) (qa_cons qe_int qa_nil))) S.nd)
    (qss_cons (qs_if (qt_cmp op_eq ops_eq (qk_var 3) (qe_int).k (by rfl)) (qss_freeze 2 (qss_one (qs_ret (qe_var 2)))) qss_nil)
    (qss_cons (qs_if (qt_cmp op_eq ops_eq (qk_var 3) (qe_int).k (by rfl)) (qss_one (qs_ret ((qn_listRev G.n_list G.n_reversed (qk_var 2))).e)) qss_nil)
    (qss_cons (qs_for (passes_of rfl) rfl (qi_rng1 (qe_bin op_sub ops_sub (qe_b1 call_lenAll cs_len G.n_len (qk_var 2)).k (qe_int).k) G.n_range) (qg_name 4 S.nd) (qss_cons (qs_set 5 (qe_bin op_addAll ops_add (qk_var 4) (qe_callC C__law_take hr tk (qa_cons (qe_var 0) (qa_cons (qe_bin op_sub ops_sub (qe_b1 call_lenAll cs_len G.n_len (qk_var 2)).k (qk_var 4)) qa_nil))).k) S.nd)
    (qss_cons (qs_set 6 (qe_ix (ix_all hr.u1) ops_ix (qk_var 2) (qk_var 4)) S.nd)
    (qss_cons (qs_put 2 hr.u1 (qe_ix (ix_all hr.u1) ops_ix (qk_var 2) (qk_var 5)) (qe_var 4))
    (qss_one (qs_put 2 hr.u1 (qe_var 6) (qe_var 5)))))))
    (qss_freeze 2 (qss_one (qs_ret (qe_var 2)))))))))
theorem v__law_shuffled (ds : List D) (h : PHp) (Qp : D → PHp → Prop) (Ep : XP) : sp__law_shuffled ds h Qp Ep → q__law_shuffled (PE0 Qp Ep) (startC 7 ds) h := by
  rintro ⟨xs, rfl, hl, hQ⟩
  have hl' := hl
  rw [sizeLine_eq] at hl'
  simp only [q__law_shuffled, startC, qVar, qPeek, qC, qBin, qUn, qNil, qCons, qTup, qLst, qCall, asB, qTest, qAnd, qOr, qNot, qAndV, qOrV, qNotV, qIfE, deref, qNext, qSeq, qSet, qSetN, qSetP, qRet, qRetN, qDrop, qIfS, qFreeze, qApp, onOwnL, qAsg, gqName, gqNil, gqCons, gqTup, qM1, qRng1, qEnum, qAny, asI, asL, itemsD, qPart, qNoPart, qCut, cutD, qCutL, cutLD, addD, subD, mulD, modD, fdivD, eqD, neD, eqS, onB, ltD, leD, gtD, geD, isND, lenD, intD, strD, ordD, listD, tupleD, ixD, PEnds.at, wipeC, qYes,
    List.map_cons, List.map_nil, List.replicate, List.cons_append, List.nil_append, List.append_assoc, List.getElem?_cons_zero, List.getElem?_cons_succ, List.set_cons_zero, List.set_cons_succ, List.length_cons, List.length_nil, Option.map_some, if_true, if_false, Bool.not_true, Bool.not_false, decide_eq_true_eq, Bool.not_eq_true', decide_eq_false_iff_not, Nat.reduceAdd, Nat.reduceSub, List.replicate_succ, List.replicate_zero, true_and, and_true, reduceCtorEq, isStr, qPutS, putS, powD, CPow, qPut, onOwn, setD, qPutP, onPtr, qDelP, delD, qPutF, setF, qProp, qMeth, qMake, isObj, fldD, minD, maxD, qChain, revD, lrevD, isiD, tyD, qOrT, qAndT, onTru, truD, qJoined, qjCons, qjNil, fmtD, fmt5D, D.int.injEq, D.str.injEq, D.lst.injEq, D.tup.injEq, D.bl.injEq, false_implies, true_implies, ne_eq, not_false_eq_true, not_true_eq_false, forall_const, implies_true, false_and, and_false, exists_eq_left, exists_eq_left', Int.reduceEq, Int.reduceLT, Int.reduceNe, Int.reduceLE, or_false, false_or, or_true, true_or, qLc, qFor, qWhile, allD, sortAD, wipeC, isiS, List.any_cons, List.any_nil, Bool.or_false, Bool.or_true, Bool.true_or, Bool.false_or, Bool.and_self, Bool.false_and, Bool.and_false, Bool.and_true, Bool.true_and, String.reduceBEq, Bool.false_eq_true, Bool.true_eq_false]
  refine ⟨_, rfl, by decide, fun r r0 r1 => ?_⟩
  simp only [startC, qVar, qPeek, qC, qBin, qUn, qNil, qCons, qTup, qLst, qCall, asB, qTest, qAnd, qOr, qNot, qAndV, qOrV, qNotV, qIfE, deref, qNext, qSeq, qSet, qSetN, qSetP, qRet, qRetN, qDrop, qIfS, qFreeze, qApp, onOwnL, qAsg, gqName, gqNil, gqCons, gqTup, qM1, qRng1, qEnum, qAny, asI, asL, itemsD, qPart, qNoPart, qCut, cutD, qCutL, cutLD, addD, subD, mulD, modD, fdivD, eqD, neD, eqS, onB, ltD, leD, gtD, geD, isND, lenD, intD, strD, ordD, listD, tupleD, ixD, PEnds.at, wipeC, qYes,
    List.map_cons, List.map_nil, List.replicate, List.cons_append, List.nil_append, List.append_assoc, List.getElem?_cons_zero, List.getElem?_cons_succ, List.set_cons_zero, List.set_cons_succ, List.length_cons, List.length_nil, Option.map_some, if_true, if_false, Bool.not_true, Bool.not_false, decide_eq_true_eq, Bool.not_eq_true', decide_eq_false_iff_not, Nat.reduceAdd, Nat.reduceSub, List.replicate_succ, List.replicate_zero, true_and, and_true, reduceCtorEq, isStr, qPutS, putS, powD, CPow, qPut, onOwn, setD, qPutP, onPtr, qDelP, delD, qPutF, setF, qProp, qMeth, qMake, isObj, fldD, minD, maxD, qChain, revD, lrevD, isiD, tyD, qOrT, qAndT, onTru, truD, qJoined, qjCons, qjNil, fmtD, fmt5D, D.int.injEq, D.str.injEq, D.lst.injEq, D.tup.injEq, D.bl.injEq, false_implies, true_implies, ne_eq, not_false_eq_true, not_true_eq_false, forall_const, implies_true, false_and, and_false, exists_eq_left, exists_eq_left', Int.reduceEq, Int.reduceLT, Int.reduceNe, Int.reduceLE, or_false, false_or, or_true, true_or, qLc, qFor, qWhile, allD, sortAD, wipeC, isiS, List.any_cons, List.any_nil, Bool.or_false, Bool.or_true, Bool.true_or, Bool.false_or, Bool.and_self, Bool.false_and, Bool.and_false, Bool.and_true, Bool.true_and, String.reduceBEq, Bool.false_eq_true, Bool.true_eq_false]
  split
  · exact hQ _ (List.Perm.refl _)
  · split
    · exact hQ _ (List.reverse_perm _)
    · refine ⟨by omega, by omega, forK_i (fun i ρ' h' => h' = h ∧ ∃ ys a b c, ys.Perm xs ∧ ρ' = [.fro .sto, .fro (.lst xs), .own (.lst ys), .fro (.int r), a, b, c]) ⟨rfl, xs, _, _, _, List.Perm.refl _, rfl⟩ ?_ ?_⟩
      · rintro i d ρ' h' hd ⟨rfl, ys, a, b, c, hp, rfl⟩
        obtain ⟨rfl, hi⟩ := rng_get hd
        have hy := hp.length_eq
        simp only [startC, qVar, qPeek, qC, qBin, qUn, qNil, qCons, qTup, qLst, qCall, asB, qTest, qAnd, qOr, qNot, qAndV, qOrV, qNotV, qIfE, deref, qNext, qSeq, qSet, qSetN, qSetP, qRet, qRetN, qDrop, qIfS, qFreeze, qApp, onOwnL, qAsg, gqName, gqNil, gqCons, gqTup, qM1, qRng1, qEnum, qAny, asI, asL, itemsD, qPart, qNoPart, qCut, cutD, qCutL, cutLD, addD, subD, mulD, modD, fdivD, eqD, neD, eqS, onB, ltD, leD, gtD, geD, isND, lenD, intD, strD, ordD, listD, tupleD, ixD, PEnds.at, wipeC, qYes,
    List.map_cons, List.map_nil, List.replicate, List.cons_append, List.nil_append, List.append_assoc, List.getElem?_cons_zero, List.getElem?_cons_succ, List.set_cons_zero, List.set_cons_succ, List.length_cons, List.length_nil, Option.map_some, if_true, if_false, Bool.not_true, Bool.not_false, decide_eq_true_eq, Bool.not_eq_true', decide_eq_false_iff_not, Nat.reduceAdd, Nat.reduceSub, List.replicate_succ, List.replicate_zero, true_and, and_true, reduceCtorEq, isStr, qPutS, putS, powD, CPow, qPut, onOwn, setD, qPutP, onPtr, qDelP, delD, qPutF, setF, qProp, qMeth, qMake, isObj, fldD, minD, maxD, qChain, revD, lrevD, isiD, tyD, qOrT, qAndT, onTru, truD, qJoined, qjCons, qjNil, fmtD, fmt5D, D.int.injEq, D.str.injEq, D.lst.injEq, D.tup.injEq, D.bl.injEq, false_implies, true_implies, ne_eq, not_false_eq_true, not_true_eq_false, forall_const, implies_true, false_and, and_false, exists_eq_left, exists_eq_left', Int.reduceEq, Int.reduceLT, Int.reduceNe, Int.reduceLE, or_false, false_or, or_true, true_or, qLc, qFor, qWhile, allD, sortAD, wipeC, isiS, List.any_cons, List.any_nil, Bool.or_false, Bool.or_true, Bool.true_or, Bool.false_or, Bool.and_self, Bool.false_and, Bool.and_false, Bool.and_true, Bool.true_and, String.reduceBEq, Bool.false_eq_true, Bool.true_eq_false]
        refine ⟨_, rfl, by omega, fun k k0 k1 => ?_⟩
        obtain ⟨u, e1, _, e2⟩ := atI_get (xs := ys) (i := (i : Int)) (by omega) (by omega)
        obtain ⟨v, e3, _, e4⟩ := atI_get (xs := ys) (i := (i : Int) + k) (by omega) (by omega)
        simp only [startC, qVar, qPeek, qC, qBin, qUn, qNil, qCons, qTup, qLst, qCall, asB, qTest, qAnd, qOr, qNot, qAndV, qOrV, qNotV, qIfE, deref, qNext, qSeq, qSet, qSetN, qSetP, qRet, qRetN, qDrop, qIfS, qFreeze, qApp, onOwnL, qAsg, gqName, gqNil, gqCons, gqTup, qM1, qRng1, qEnum, qAny, asI, asL, itemsD, qPart, qNoPart, qCut, cutD, qCutL, cutLD, addD, subD, mulD, modD, fdivD, eqD, neD, eqS, onB, ltD, leD, gtD, geD, isND, lenD, intD, strD, ordD, listD, tupleD, ixD, PEnds.at, wipeC, qYes,
    List.map_cons, List.map_nil, List.replicate, List.cons_append, List.nil_append, List.append_assoc, List.getElem?_cons_zero, List.getElem?_cons_succ, List.set_cons_zero, List.set_cons_succ, List.length_cons, List.length_nil, Option.map_some, if_true, if_false, Bool.not_true, Bool.not_false, decide_eq_true_eq, Bool.not_eq_true', decide_eq_false_iff_not, Nat.reduceAdd, Nat.reduceSub, List.replicate_succ, List.replicate_zero, true_and, and_true, reduceCtorEq, isStr, qPutS, putS, powD, CPow, qPut, onOwn, setD, qPutP, onPtr, qDelP, delD, qPutF, setF, qProp, qMeth, qMake, isObj, fldD, minD, maxD, qChain, revD, lrevD, isiD, tyD, qOrT, qAndT, onTru, truD, qJoined, qjCons, qjNil, fmtD, fmt5D, D.int.injEq, D.str.injEq, D.lst.injEq, D.tup.injEq, D.bl.injEq, false_implies, true_implies, ne_eq, not_false_eq_true, not_true_eq_false, forall_const, implies_true, false_and, and_false, exists_eq_left, exists_eq_left', Int.reduceEq, Int.reduceLT, Int.reduceNe, Int.reduceLE, or_false, false_or, or_true, true_or, qLc, qFor, qWhile, allD, sortAD, wipeC, isiS, List.any_cons, List.any_nil, Bool.or_false, Bool.or_true, Bool.true_or, Bool.false_or, Bool.and_self, Bool.false_and, Bool.and_false, Bool.and_true, Bool.true_and, String.reduceBEq, Bool.false_eq_true, Bool.true_eq_false]
        refine ⟨u, e1, v, e3, i, ixN_pos (by omega) (by omega), ((i : Int) + k).toNat, ?_, ?_⟩
        · rw [List.length_set]
          exact ixN_pos (by omega) (by omega)
        · exact ⟨_, _, _, _, (swap_perm (by simpa using e2) e4).trans hp, rfl⟩
      · rintro ρ' h' ⟨rfl, ys, a, b, c, hp, rfl⟩
        simp only [startC, qVar, qPeek, qC, qBin, qUn, qNil, qCons, qTup, qLst, qCall, asB, qTest, qAnd, qOr, qNot, qAndV, qOrV, qNotV, qIfE, deref, qNext, qSeq, qSet, qSetN, qSetP, qRet, qRetN, qDrop, qIfS, qFreeze, qApp, onOwnL, qAsg, gqName, gqNil, gqCons, gqTup, qM1, qRng1, qEnum, qAny, asI, asL, itemsD, qPart, qNoPart, qCut, cutD, qCutL, cutLD, addD, subD, mulD, modD, fdivD, eqD, neD, eqS, onB, ltD, leD, gtD, geD, isND, lenD, intD, strD, ordD, listD, tupleD, ixD, PEnds.at, wipeC, qYes,
    List.map_cons, List.map_nil, List.replicate, List.cons_append, List.nil_append, List.append_assoc, List.getElem?_cons_zero, List.getElem?_cons_succ, List.set_cons_zero, List.set_cons_succ, List.length_cons, List.length_nil, Option.map_some, if_true, if_false, Bool.not_true, Bool.not_false, decide_eq_true_eq, Bool.not_eq_true', decide_eq_false_iff_not, Nat.reduceAdd, Nat.reduceSub, List.replicate_succ, List.replicate_zero, true_and, and_true, reduceCtorEq, isStr, qPutS, putS, powD, CPow, qPut, onOwn, setD, qPutP, onPtr, qDelP, delD, qPutF, setF, qProp, qMeth, qMake, isObj, fldD, minD, maxD, qChain, revD, lrevD, isiD, tyD, qOrT, qAndT, onTru, truD, qJoined, qjCons, qjNil, fmtD, fmt5D, D.int.injEq, D.str.injEq, D.lst.injEq, D.tup.injEq, D.bl.injEq, false_implies, true_implies, ne_eq, not_false_eq_true, not_true_eq_false, forall_const, implies_true, false_and, and_false, exists_eq_left, exists_eq_left', Int.reduceEq, Int.reduceLT, Int.reduceNe, Int.reduceLE, or_false, false_or, or_true, true_or, qLc, qFor, qWhile, allD, sortAD, wipeC, isiS, List.any_cons, List.any_nil, Bool.or_false, Bool.or_true, Bool.true_or, Bool.false_or, Bool.and_self, Bool.false_and, Bool.and_false, Bool.and_true, Bool.true_and, String.reduceBEq, Bool.false_eq_true, Bool.true_eq_false]
        exact hQ _ hp
theorem c__law_shuffled (G : GE K mg) : Cal P w K mg base "_law_shuffled" ["_law_store_here", "_law_items"] 2 sp__law_shuffled :=
  cal_of G.f__law_shuffled sc__law_shuffled (fun _ _ F => F.bindsN fun _ _ _ _ _ _ us hl => match us, hl with | [_, _], _ => rfl) (fun _ _ _ _ ⟨_, e, _⟩ => by rw [e]; rfl) (w__law_shuffled G (c__law_take G)) v__law_shuffled
end Pu.L70
set_option Elab.async false
set_option linter.all false
set_option maxRecDepth 100000
set_option maxHeartbeats 4000000
set_option autoImplicit false
namespace Pu.L70
open PySem PySem.Spec PyProof.Rows L2
variable {P : Program} {w : World} {K : PySem.W.Frag} {mg : Str → Option Value} {base : Heap}
def sp__law_text : Spec := fun ds h Q Ex => ∃ (m : Int), ds = [.sto, .int m] ∧ 0 ≤ m ∧ m ≤ 200 ∧ ∀ z : Str, z.length ≤ m.toNat → Q (.str z) h
theorem sc__law_text : FnScope ["_law_store_here", "_law_most", "_law_signs", "_law_size", "_law_k"] ["_law_store_here", "_law_most"] (defScope s__law_text) := ⟨rfl, rfl, rfl, by decide +kernel, rfl, by decide +kernel, by decide +kernel⟩
def q__law_text : RS := (qSeq (qSet 2 (qC (.str (Str.ofString " !\"#$&'()*+,-./0123456789:;<=>?@ABCDEFGHIJKLMNOPQRSTUVWXYZ[\\]^_`abcdefghijklmnopqrstuvwxyz{|}~\n"))))
  (qSeq (qSet 3 (qCall sp__law_between (qCons (qVar 0) (qCons (qC (.int 0)) (qCons (qVar 1) qNil)))))
  (qSeq (qIfS (qTest (qBin eqD (qCall sp__law_take (qCons (qVar 0) (qCons (qC (.int 3)) qNil))) (qC (.int 0)))) (qRet (qBin mulD (qCall sp__law_pick (qCons (qVar 0) (qCons (qVar 2) qNil))) (qPeek 3))) qNext)
  (qRet (qM1 joinD (qC (.str (Str.ofString ""))) (qLc (qRng1 (qVar 3)) (gqName 4) qYes (qCall sp__law_pick (qCons (qVar 0) (qCons (qVar 2) qNil))) [4]))))))
theorem w__law_text (G : GE K mg) (C__law_between : Cal P w K mg base "_law_between" ["_law_store_here", "_law_least", "_law_most"] 2 sp__law_between) (C__law_take : Cal P w K mg base "_law_take" ["_law_store_here", "_law_many"] 1 sp__law_take) (C__law_pick : Cal P w K mg base "_law_pick" ["_law_store_here", "_law_items"] 2 sp__law_pick) : WkOk P w K mg base ["_law_store_here", "_law_most", "_law_signs", "_law_size", "_law_k"] "_law_text" s__law_text 2 q__law_text := fun f cdv A outer s H E hr tk => by
  have S := sc__law_text
  unfold q__law_text
  exact (qss_cons (qs_set 2 qe_str S.nd)
    (qss_cons (qs_set 3 (qe_callC C__law_between hr tk (qa_cons (qe_var 0) (qa_cons qe_int (qa_cons (qe_var 1) qa_nil)))) S.nd)
    (qss_cons (qs_if (qt_cmp op_eq ops_eq (qe_callC C__law_take hr tk (qa_cons (qe_var 0) (qa_cons qe_int qa_nil))).k (qe_int).k (by rfl)) (qss_one (qs_ret (qe_bin op_mulAll ops_mul (qe_callC C__law_pick hr tk (qa_cons (qe_var 0) (qa_cons (qe_var 2) qa_nil))).k (qk_var 3)))) qss_nil)
    (qss_one (qs_ret (qe_m1 PySem.F.slot_str_join PySem.F.type_str_join mt_join ms_join (qe_str).k ((qn_lc rfl S.nd (qi_rng1 (qe_var 3) G.n_range) (L2.blkOk_by (own := [("_law_k", 4)]) (by rfl)) (fun _ _ _ _ _ => (qg_name 4 S.nd)) (fun _ _ _ _ _ => qts_nil) (fun _ _ _ _ _ => (qe_callC C__law_pick hr takes0 (qa_cons (qe_var 0) (qa_cons (qe_var 2) qa_nil)))))).e.k))))))
theorem v__law_text (ds : List D) (h : PHp) (Qp : D → PHp → Prop) (Ep : XP) : sp__law_text ds h Qp Ep → q__law_text (PE0 Qp Ep) (startC 5 ds) h := by
  rintro ⟨m, rfl, h0, h1, hQ⟩
  simp only [q__law_text, startC, qVar, qPeek, qC, qBin, qUn, qNil, qCons, qTup, qLst, qCall, asB, qTest, qAnd, qOr, qNot, qAndV, qOrV, qNotV, qIfE, deref, qNext, qSeq, qSet, qSetN, qSetP, qRet, qRetN, qDrop, qIfS, qFreeze, qApp, onOwnL, qAsg, gqName, gqNil, gqCons, gqTup, qM1, qRng1, qEnum, qAny, asI, asL, itemsD, qPart, qNoPart, qCut, cutD, qCutL, cutLD, addD, subD, mulD, modD, fdivD, eqD, neD, eqS, onB, ltD, leD, gtD, geD, isND, lenD, intD, strD, ordD, listD, tupleD, ixD, PEnds.at, wipeC, qYes,
    List.map_cons, List.map_nil, List.replicate, List.cons_append, List.nil_append, List.append_assoc, List.getElem?_cons_zero, List.getElem?_cons_succ, List.set_cons_zero, List.set_cons_succ, List.length_cons, List.length_nil, Option.map_some, if_true, if_false, Bool.not_true, Bool.not_false, decide_eq_true_eq, Bool.not_eq_true', decide_eq_false_iff_not, Nat.reduceAdd, Nat.reduceSub, List.replicate_succ, List.replicate_zero, true_and, and_true, reduceCtorEq, isStr, qPutS, putS, powD, CPow, qPut, onOwn, setD, qPutP, onPtr, qDelP, delD, qPutF, setF, qProp, qMeth, qMake, isObj, fldD, minD, maxD, qChain, revD, lrevD, isiD, tyD, qOrT, qAndT, onTru, truD, qJoined, qjCons, qjNil, fmtD, fmt5D, D.int.injEq, D.str.injEq, D.lst.injEq, D.tup.injEq, D.bl.injEq, false_implies, true_implies, ne_eq, not_false_eq_true, not_true_eq_false, forall_const, implies_true, false_and, and_false, exists_eq_left, exists_eq_left', Int.reduceEq, Int.reduceLT, Int.reduceNe, Int.reduceLE, or_false, false_or, or_true, true_or, qLc, qFor, qWhile, allD, sortAD, wipeC, isiS, List.any_cons, List.any_nil, Bool.or_false, Bool.or_true, Bool.true_or, Bool.false_or, Bool.and_self, Bool.false_and, Bool.and_false, Bool.and_true, Bool.true_and, String.reduceBEq, Bool.false_eq_true, Bool.true_eq_false]
  refine ⟨_, _, rfl, by omega, fun n n0 n1 => ?_⟩
  simp only [startC, qVar, qPeek, qC, qBin, qUn, qNil, qCons, qTup, qLst, qCall, asB, qTest, qAnd, qOr, qNot, qAndV, qOrV, qNotV, qIfE, deref, qNext, qSeq, qSet, qSetN, qSetP, qRet, qRetN, qDrop, qIfS, qFreeze, qApp, onOwnL, qAsg, gqName, gqNil, gqCons, gqTup, qM1, qRng1, qEnum, qAny, asI, asL, itemsD, qPart, qNoPart, qCut, cutD, qCutL, cutLD, addD, subD, mulD, modD, fdivD, eqD, neD, eqS, onB, ltD, leD, gtD, geD, isND, lenD, intD, strD, ordD, listD, tupleD, ixD, PEnds.at, wipeC, qYes,
    List.map_cons, List.map_nil, List.replicate, List.cons_append, List.nil_append, List.append_assoc, List.getElem?_cons_zero, List.getElem?_cons_succ, List.set_cons_zero, List.set_cons_succ, List.length_cons, List.length_nil, Option.map_some, if_true, if_false, Bool.not_true, Bool.not_false, decide_eq_true_eq, Bool.not_eq_true', decide_eq_false_iff_not, Nat.reduceAdd, Nat.reduceSub, List.replicate_succ, List.replicate_zero, true_and, and_true, reduceCtorEq, isStr, qPutS, putS, powD, CPow, qPut, onOwn, setD, qPutP, onPtr, qDelP, delD, qPutF, setF, qProp, qMeth, qMake, isObj, fldD, minD, maxD, qChain, revD, lrevD, isiD, tyD, qOrT, qAndT, onTru, truD, qJoined, qjCons, qjNil, fmtD, fmt5D, D.int.injEq, D.str.injEq, D.lst.injEq, D.tup.injEq, D.bl.injEq, false_implies, true_implies, ne_eq, not_false_eq_true, not_true_eq_false, forall_const, implies_true, false_and, and_false, exists_eq_left, exists_eq_left', Int.reduceEq, Int.reduceLT, Int.reduceNe, Int.reduceLE, or_false, false_or, or_true, true_or, qLc, qFor, qWhile, allD, sortAD, wipeC, isiS, List.any_cons, List.any_nil, Bool.or_false, Bool.or_true, Bool.true_or, Bool.false_or, Bool.and_self, Bool.false_and, Bool.and_false, Bool.and_true, Bool.true_and, String.reduceBEq, Bool.false_eq_true, Bool.true_eq_false]
  refine ⟨_, rfl, by decide, fun r r0 r1 => ?_⟩
  simp only [startC, qVar, qPeek, qC, qBin, qUn, qNil, qCons, qTup, qLst, qCall, asB, qTest, qAnd, qOr, qNot, qAndV, qOrV, qNotV, qIfE, deref, qNext, qSeq, qSet, qSetN, qSetP, qRet, qRetN, qDrop, qIfS, qFreeze, qApp, onOwnL, qAsg, gqName, gqNil, gqCons, gqTup, qM1, qRng1, qEnum, qAny, asI, asL, itemsD, qPart, qNoPart, qCut, cutD, qCutL, cutLD, addD, subD, mulD, modD, fdivD, eqD, neD, eqS, onB, ltD, leD, gtD, geD, isND, lenD, intD, strD, ordD, listD, tupleD, ixD, PEnds.at, wipeC, qYes,
    List.map_cons, List.map_nil, List.replicate, List.cons_append, List.nil_append, List.append_assoc, List.getElem?_cons_zero, List.getElem?_cons_succ, List.set_cons_zero, List.set_cons_succ, List.length_cons, List.length_nil, Option.map_some, if_true, if_false, Bool.not_true, Bool.not_false, decide_eq_true_eq, Bool.not_eq_true', decide_eq_false_iff_not, Nat.reduceAdd, Nat.reduceSub, List.replicate_succ, List.replicate_zero, true_and, and_true, reduceCtorEq, isStr, qPutS, putS, powD, CPow, qPut, onOwn, setD, qPutP, onPtr, qDelP, delD, qPutF, setF, qProp, qMeth, qMake, isObj, fldD, minD, maxD, qChain, revD, lrevD, isiD, tyD, qOrT, qAndT, onTru, truD, qJoined, qjCons, qjNil, fmtD, fmt5D, D.int.injEq, D.str.injEq, D.lst.injEq, D.tup.injEq, D.bl.injEq, false_implies, true_implies, ne_eq, not_false_eq_true, not_true_eq_false, forall_const, implies_true, false_and, and_false, exists_eq_left, exists_eq_left', Int.reduceEq, Int.reduceLT, Int.reduceNe, Int.reduceLE, or_false, false_or, or_true, true_or, qLc, qFor, qWhile, allD, sortAD, wipeC, isiS, List.any_cons, List.any_nil, Bool.or_false, Bool.or_true, Bool.true_or, Bool.false_or, Bool.and_self, Bool.false_and, Bool.and_false, Bool.and_true, Bool.true_and, String.reduceBEq, Bool.false_eq_true, Bool.true_eq_false]
  split
  · refine ⟨_, _, rfl, .inr (.inr ⟨_, rfl, rfl⟩), by decide, by decide +kernel, fun d hd => ?_⟩
    obtain ⟨c, _, rfl⟩ := signs_mem hd
    simp only [startC, qVar, qPeek, qC, qBin, qUn, qNil, qCons, qTup, qLst, qCall, asB, qTest, qAnd, qOr, qNot, qAndV, qOrV, qNotV, qIfE, deref, qNext, qSeq, qSet, qSetN, qSetP, qRet, qRetN, qDrop, qIfS, qFreeze, qApp, onOwnL, qAsg, gqName, gqNil, gqCons, gqTup, qM1, qRng1, qEnum, qAny, asI, asL, itemsD, qPart, qNoPart, qCut, cutD, qCutL, cutLD, addD, subD, mulD, modD, fdivD, eqD, neD, eqS, onB, ltD, leD, gtD, geD, isND, lenD, intD, strD, ordD, listD, tupleD, ixD, PEnds.at, wipeC, qYes,
    List.map_cons, List.map_nil, List.replicate, List.cons_append, List.nil_append, List.append_assoc, List.getElem?_cons_zero, List.getElem?_cons_succ, List.set_cons_zero, List.set_cons_succ, List.length_cons, List.length_nil, Option.map_some, if_true, if_false, Bool.not_true, Bool.not_false, decide_eq_true_eq, Bool.not_eq_true', decide_eq_false_iff_not, Nat.reduceAdd, Nat.reduceSub, List.replicate_succ, List.replicate_zero, true_and, and_true, reduceCtorEq, isStr, qPutS, putS, powD, CPow, qPut, onOwn, setD, qPutP, onPtr, qDelP, delD, qPutF, setF, qProp, qMeth, qMake, isObj, fldD, minD, maxD, qChain, revD, lrevD, isiD, tyD, qOrT, qAndT, onTru, truD, qJoined, qjCons, qjNil, fmtD, fmt5D, D.int.injEq, D.str.injEq, D.lst.injEq, D.tup.injEq, D.bl.injEq, false_implies, true_implies, ne_eq, not_false_eq_true, not_true_eq_false, forall_const, implies_true, false_and, and_false, exists_eq_left, exists_eq_left', Int.reduceEq, Int.reduceLT, Int.reduceNe, Int.reduceLE, or_false, false_or, or_true, true_or, qLc, qFor, qWhile, allD, sortAD, wipeC, isiS, List.any_cons, List.any_nil, Bool.or_false, Bool.or_true, Bool.true_or, Bool.false_or, Bool.and_self, Bool.false_and, Bool.and_false, Bool.and_true, Bool.true_and, String.reduceBEq, Bool.false_eq_true, Bool.true_eq_false]
    refine ⟨by omega, by omega, ?_, ?_, ?_⟩
    · show 1 * _ ≤ _
      omega
    · show 1 < _
      decide
    · refine hQ _ ?_
      rw [rptS_len]
      show 1 * _ ≤ _
      omega
  · refine ⟨by omega, by omega, lcK_i (fun i acc h' => h' = h ∧ ∃ ss : List Str, acc = ss.map D.str ∧ ss.length = i ∧ ∀ s ∈ ss, s.length = 1) ⟨rfl, [], rfl, rfl, fun _ z => by cases z⟩ ?_ ?_⟩
    · rintro i d acc h' hd ⟨rfl, ss, rfl, rfl, hs⟩
      obtain ⟨rfl, hi⟩ := rng_get hd
      simp only [startC, qVar, qPeek, qC, qBin, qUn, qNil, qCons, qTup, qLst, qCall, asB, qTest, qAnd, qOr, qNot, qAndV, qOrV, qNotV, qIfE, deref, qNext, qSeq, qSet, qSetN, qSetP, qRet, qRetN, qDrop, qIfS, qFreeze, qApp, onOwnL, qAsg, gqName, gqNil, gqCons, gqTup, qM1, qRng1, qEnum, qAny, asI, asL, itemsD, qPart, qNoPart, qCut, cutD, qCutL, cutLD, addD, subD, mulD, modD, fdivD, eqD, neD, eqS, onB, ltD, leD, gtD, geD, isND, lenD, intD, strD, ordD, listD, tupleD, ixD, PEnds.at, wipeC, qYes,
    List.map_cons, List.map_nil, List.replicate, List.cons_append, List.nil_append, List.append_assoc, List.getElem?_cons_zero, List.getElem?_cons_succ, List.set_cons_zero, List.set_cons_succ, List.length_cons, List.length_nil, Option.map_some, if_true, if_false, Bool.not_true, Bool.not_false, decide_eq_true_eq, Bool.not_eq_true', decide_eq_false_iff_not, Nat.reduceAdd, Nat.reduceSub, List.replicate_succ, List.replicate_zero, true_and, and_true, reduceCtorEq, isStr, qPutS, putS, powD, CPow, qPut, onOwn, setD, qPutP, onPtr, qDelP, delD, qPutF, setF, qProp, qMeth, qMake, isObj, fldD, minD, maxD, qChain, revD, lrevD, isiD, tyD, qOrT, qAndT, onTru, truD, qJoined, qjCons, qjNil, fmtD, fmt5D, D.int.injEq, D.str.injEq, D.lst.injEq, D.tup.injEq, D.bl.injEq, false_implies, true_implies, ne_eq, not_false_eq_true, not_true_eq_false, forall_const, implies_true, false_and, and_false, exists_eq_left, exists_eq_left', Int.reduceEq, Int.reduceLT, Int.reduceNe, Int.reduceLE, or_false, false_or, or_true, true_or, qLc, qFor, qWhile, allD, sortAD, wipeC, isiS, List.any_cons, List.any_nil, Bool.or_false, Bool.or_true, Bool.true_or, Bool.false_or, Bool.and_self, Bool.false_and, Bool.and_false, Bool.and_true, Bool.true_and, String.reduceBEq, Bool.false_eq_true, Bool.true_eq_false]
      refine ⟨_, _, rfl, .inr (.inr ⟨_, rfl, rfl⟩), by decide, by decide +kernel, fun d hd => ?_⟩
      obtain ⟨c, _, rfl⟩ := signs_mem hd
      refine ⟨by rw [List.length_map, sizeLine_eq]; omega, rfl, ss ++ [⟨#[c]⟩], by simp, by simp, fun s hz => ?_⟩
      rcases List.mem_append.mp hz with hz | hz
      · exact hs s hz
      · rw [List.mem_singleton.mp hz]; rfl
    · rintro acc h' ⟨rfl, ss, rfl, hl, hs⟩
      rw [rng_len] at hl
      refine ⟨_, ss, rfl, .inl rfl, ?_, ?_⟩
      · rw [sum_ones hs]
        show ss.length + ss.length * 0 ≤ _
        omega
      · refine hQ _ ?_
        rw [join_len0 hs]
        omega
theorem c__law_text (G : GE K mg) : Cal P w K mg base "_law_text" ["_law_store_here", "_law_most"] 3 sp__law_text :=
  cal_of G.f__law_text sc__law_text (fun _ _ F => F.bindsN fun _ _ _ _ _ _ us hl => match us, hl with | [_, _], _ => rfl) (fun _ _ _ _ ⟨_, e, _⟩ => by rw [e]; rfl) (w__law_text G (c__law_between G) (c__law_take G) (c__law_pick G)) v__law_text
end Pu.L70
set_option Elab.async false
set_option linter.all false
set_option maxRecDepth 100000
set_option maxHeartbeats 4000000
set_option autoImplicit false
namespace Pu.L70
open PySem PySem.Spec PyProof.Rows L2
theorem atI_zero {α : Type} {a : α} {xs : List α} : atI (a :: xs) 0 = some a := by
  rw [atI_pos (by decide) (by rw [List.length_cons]; omega)]
  rfl
end Pu.L70
set_option Elab.async false
set_option linter.all false
set_option maxRecDepth 100000
set_option maxHeartbeats 4000000
set_option autoImplicit false
namespace Pu.L70
open PySem PySem.Spec PyProof.Rows L2
variable {P : Program} {w : World} {K : PySem.W.Frag} {mg : Str → Option Value} {base : Heap}
def sp__law_without : Spec := fun ds h Q Ex => ∃ (ls : List (List Str)) (x : Str), ds = [.lst (ls.map fun l => .tup (l.map D.str)), .str x] ∧ ls.length ≤ sizeLine ∧ (∀ l ∈ ls, l ≠ []) ∧ Q (.lst ((ls.filter fun l => l.head? != some x).map fun l => .tup (l.map D.str))) h
theorem sc__law_without : FnScope ["_law_lines", "_law_name", "_law_line"] ["_law_lines", "_law_name"] (defScope s__law_without) := ⟨rfl, rfl, rfl, by decide +kernel, rfl, by decide +kernel, by decide +kernel⟩
def q__law_without : RS := (qRet (qLc (qAny (qVar 0)) (gqName 2) (qTest (qBin neD (qBin ixD (qPeek 2) (qC (.int 0))) (qPeek 1))) (qVar 2) [2]))
theorem w__law_without (G : GE K mg)  : WkOk P w K mg base ["_law_lines", "_law_name", "_law_line"] "_law_without" s__law_without 0 q__law_without := fun f cdv A outer s H E hr tk => by
  have S := sc__law_without
  unfold q__law_without
  exact (qss_one (qs_ret ((qn_lc rfl S.nd (qi_any (qe_var 0)) (L2.blkOk_by (own := [("_law_line", 2)]) (by rfl)) (fun _ _ _ _ _ => (qg_name 2 S.nd)) (fun _ _ _ _ _ => (qts_one (qt_cmp op_ne ops_ne (qe_ix (ix_all hr.u1) ops_ix (qk_var 2) (qe_int).k).k (qk_var 1) (by rfl)))) (fun _ _ _ _ _ => (qe_var 2)))).e))
theorem v__law_without (ds : List D) (h : PHp) (Qp : D → PHp → Prop) (Ep : XP) : sp__law_without ds h Qp Ep → q__law_without (PE0 Qp Ep) (startC 3 ds) h := by
  rintro ⟨ls, x, rfl, hl, hn, hQ⟩
  simp only [q__law_without, startC, qVar, qPeek, qC, qBin, qUn, qNil, qCons, qTup, qLst, qCall, asB, qTest, qAnd, qOr, qNot, qAndV, qOrV, qNotV, qIfE, deref, qNext, qSeq, qSet, qSetN, qSetP, qRet, qRetN, qDrop, qIfS, qFreeze, qApp, onOwnL, qAsg, gqName, gqNil, gqCons, gqTup, qM1, qRng1, qEnum, qAny, asI, asL, itemsD, qPart, qNoPart, qCut, cutD, qCutL, cutLD, addD, subD, mulD, modD, fdivD, eqD, neD, eqS, onB, ltD, leD, gtD, geD, isND, lenD, intD, strD, ordD, listD, tupleD, ixD, PEnds.at, wipeC, qYes,
    List.map_cons, List.map_nil, List.replicate, List.cons_append, List.nil_append, List.append_assoc, List.getElem?_cons_zero, List.getElem?_cons_succ, List.set_cons_zero, List.set_cons_succ, List.length_cons, List.length_nil, Option.map_some, if_true, if_false, Bool.not_true, Bool.not_false, decide_eq_true_eq, Bool.not_eq_true', decide_eq_false_iff_not, Nat.reduceAdd, Nat.reduceSub, List.replicate_succ, List.replicate_zero, true_and, and_true, reduceCtorEq, isStr, qPutS, putS, powD, CPow, qPut, onOwn, setD, qPutP, onPtr, qDelP, delD, qPutF, setF, qProp, qMeth, qMake, isObj, fldD, minD, maxD, qChain, revD, lrevD, isiD, tyD, qOrT, qAndT, onTru, truD, qJoined, qjCons, qjNil, fmtD, fmt5D, D.int.injEq, D.str.injEq, D.lst.injEq, D.tup.injEq, D.bl.injEq, false_implies, true_implies, ne_eq, not_false_eq_true, not_true_eq_false, forall_const, implies_true, false_and, and_false, exists_eq_left, exists_eq_left', Int.reduceEq, Int.reduceLT, Int.reduceNe, Int.reduceLE, or_false, false_or, or_true, true_or, qLc, qFor, qWhile, allD, sortAD, wipeC, isiS, List.any_cons, List.any_nil, Bool.or_false, Bool.or_true, Bool.true_or, Bool.false_or, Bool.and_self, Bool.false_and, Bool.and_false, Bool.and_true, Bool.true_and, String.reduceBEq, Bool.false_eq_true, Bool.true_eq_false]
  refine lcK_i (fun i acc h' => h' = h ∧ acc = ((ls.take i).filter fun l => l.head? != some x).map fun l => .tup (l.map D.str)) ⟨rfl, rfl⟩ ?_ ?_
  · rintro i d acc h' hd ⟨rfl, rfl⟩
    obtain ⟨l, h1, rfl⟩ := map_get hd
    have hne := hn l (List.mem_of_getElem? h1)
    have hi := get_lt h1
    rw [take_snoc h1, List.filter_append, List.map_append]
    have hlen : (List.map (fun l => D.tup (List.map D.str l)) (List.filter (fun l => l.head? != some x) (List.take i ls))).length < sizeLine := by
      rw [List.length_map]
      refine Nat.lt_of_le_of_lt (List.length_filter_le _ _) ?_
      rw [List.length_take]
      omega
    cases l with
    | nil => exact absurd rfl hne
    | cons s r =>
      simp only [startC, qVar, qPeek, qC, qBin, qUn, qNil, qCons, qTup, qLst, qCall, asB, qTest, qAnd, qOr, qNot, qAndV, qOrV, qNotV, qIfE, deref, qNext, qSeq, qSet, qSetN, qSetP, qRet, qRetN, qDrop, qIfS, qFreeze, qApp, onOwnL, qAsg, gqName, gqNil, gqCons, gqTup, qM1, qRng1, qEnum, qAny, asI, asL, itemsD, qPart, qNoPart, qCut, cutD, qCutL, cutLD, addD, subD, mulD, modD, fdivD, eqD, neD, eqS, onB, ltD, leD, gtD, geD, isND, lenD, intD, strD, ordD, listD, tupleD, ixD, PEnds.at, wipeC, qYes,
    List.map_cons, List.map_nil, List.replicate, List.cons_append, List.nil_append, List.append_assoc, List.getElem?_cons_zero, List.getElem?_cons_succ, List.set_cons_zero, List.set_cons_succ, List.length_cons, List.length_nil, Option.map_some, if_true, if_false, Bool.not_true, Bool.not_false, decide_eq_true_eq, Bool.not_eq_true', decide_eq_false_iff_not, Nat.reduceAdd, Nat.reduceSub, List.replicate_succ, List.replicate_zero, true_and, and_true, reduceCtorEq, isStr, qPutS, putS, powD, CPow, qPut, onOwn, setD, qPutP, onPtr, qDelP, delD, qPutF, setF, qProp, qMeth, qMake, isObj, fldD, minD, maxD, qChain, revD, lrevD, isiD, tyD, qOrT, qAndT, onTru, truD, qJoined, qjCons, qjNil, fmtD, fmt5D, D.int.injEq, D.str.injEq, D.lst.injEq, D.tup.injEq, D.bl.injEq, false_implies, true_implies, ne_eq, not_false_eq_true, not_true_eq_false, forall_const, implies_true, false_and, and_false, exists_eq_left, exists_eq_left', Int.reduceEq, Int.reduceLT, Int.reduceNe, Int.reduceLE, or_false, false_or, or_true, true_or, qLc, qFor, qWhile, allD, sortAD, wipeC, isiS, List.any_cons, List.any_nil, Bool.or_false, Bool.or_true, Bool.true_or, Bool.false_or, Bool.and_self, Bool.false_and, Bool.and_false, Bool.and_true, Bool.true_and, String.reduceBEq, Bool.false_eq_true, Bool.true_eq_false]
      refine ⟨.str s, atI_zero, ?_⟩
      simp only [startC, qVar, qPeek, qC, qBin, qUn, qNil, qCons, qTup, qLst, qCall, asB, qTest, qAnd, qOr, qNot, qAndV, qOrV, qNotV, qIfE, deref, qNext, qSeq, qSet, qSetN, qSetP, qRet, qRetN, qDrop, qIfS, qFreeze, qApp, onOwnL, qAsg, gqName, gqNil, gqCons, gqTup, qM1, qRng1, qEnum, qAny, asI, asL, itemsD, qPart, qNoPart, qCut, cutD, qCutL, cutLD, addD, subD, mulD, modD, fdivD, eqD, neD, eqS, onB, ltD, leD, gtD, geD, isND, lenD, intD, strD, ordD, listD, tupleD, ixD, PEnds.at, wipeC, qYes,
    List.map_cons, List.map_nil, List.replicate, List.cons_append, List.nil_append, List.append_assoc, List.getElem?_cons_zero, List.getElem?_cons_succ, List.set_cons_zero, List.set_cons_succ, List.length_cons, List.length_nil, Option.map_some, if_true, if_false, Bool.not_true, Bool.not_false, decide_eq_true_eq, Bool.not_eq_true', decide_eq_false_iff_not, Nat.reduceAdd, Nat.reduceSub, List.replicate_succ, List.replicate_zero, true_and, and_true, reduceCtorEq, isStr, qPutS, putS, powD, CPow, qPut, onOwn, setD, qPutP, onPtr, qDelP, delD, qPutF, setF, qProp, qMeth, qMake, isObj, fldD, minD, maxD, qChain, revD, lrevD, isiD, tyD, qOrT, qAndT, onTru, truD, qJoined, qjCons, qjNil, fmtD, fmt5D, D.int.injEq, D.str.injEq, D.lst.injEq, D.tup.injEq, D.bl.injEq, false_implies, true_implies, ne_eq, not_false_eq_true, not_true_eq_false, forall_const, implies_true, false_and, and_false, exists_eq_left, exists_eq_left', Int.reduceEq, Int.reduceLT, Int.reduceNe, Int.reduceLE, or_false, false_or, or_true, true_or, qLc, qFor, qWhile, allD, sortAD, wipeC, isiS, List.any_cons, List.any_nil, Bool.or_false, Bool.or_true, Bool.true_or, Bool.false_or, Bool.and_self, Bool.false_and, Bool.and_false, Bool.and_true, Bool.true_and, String.reduceBEq, Bool.false_eq_true, Bool.true_eq_false]
      by_cases c : s = x
      · subst c
        simp
      · have e : (s == x) = false := beq_eq_false_iff_ne.mpr c
        rw [List.length_map] at hlen
        have e2 : List.filter (fun l => l.head? != some x) [s :: r] = [s :: r] := by
          rw [List.filter_cons_of_pos (by simp [c])]
          rfl
        simp [c, hlen, e2]
  · rintro acc h' ⟨rfl, rfl⟩
    rw [List.length_map, List.take_length]
    exact hQ
theorem c__law_without (G : GE K mg) : Cal P w K mg base "_law_without" ["_law_lines", "_law_name"] 1 sp__law_without :=
  cal_of G.f__law_without sc__law_without (fun _ _ F => F.bindsN fun _ _ _ _ _ _ us hl => match us, hl with | [_, _], _ => rfl) (fun _ _ _ _ ⟨_, _, e, _⟩ => by rw [e]; rfl) (w__law_without G ) v__law_without
end Pu.L70
set_option Elab.async false
set_option linter.all false
set_option maxRecDepth 100000
set_option maxHeartbeats 4000000
set_option autoImplicit false
namespace Pu.L70
open PySem PySem.Spec PyProof.Rows L2
theorem nodup_range_map {f : Nat → Str} : ∀ {m : Nat}, (∀ i j, i < m → j < m → f i = f j → i = j) → ((List.range m).map f).Nodup
  | 0, _ => List.nodup_nil
  | m + 1, h => by
    rw [List.range_succ, List.map_append]
    refine List.nodup_append.mpr ⟨nodup_range_map fun i j hi hj => h i j (by omega) (by omega), by simp, fun a ha b hb => ?_⟩
    obtain ⟨i, hi, rfl⟩ := List.mem_map.mp ha
    rw [List.map_singleton, List.mem_singleton] at hb
    subst hb
    intro e
    have hi := List.mem_range.mp hi
    have := h i m (by omega) (by omega) e
    omega
def al (c : Nat) : Bool := isLc c || isDc c
theorem nameB_of {l : List Nat} {c : Nat} (hc : isLc c = true) (hl : l.length ≤ 11) (ha : ∀ x ∈ l, al x = true) : nameB ⟨(c :: l).toArray⟩ = true := by
  unfold nameB
  have e : (⟨(c :: l).toArray⟩ : Str).length = l.length + 1 := by
    show (c :: l).toArray.size = _
    simp
  have e2 : (⟨(c :: l).toArray⟩ : Str).cps.toList = c :: l := rfl
  rw [e, e2, decide_eq_true (by omega), decide_eq_true (by omega)]
  simp only [List.head?_cons, Option.any_some, hc, Bool.true_and, List.all_cons, Bool.true_or, List.all_eq_true]
  exact ha
theorem perm_strs {ys : List D} {ss : List Str} (h : ys.Perm (ss.map D.str)) : ∃ ss' : List Str, ys = ss'.map D.str ∧ ss'.Perm ss := by
  have e : ∀ zs : List D, (∀ z ∈ zs, ∃ s, z = D.str s) → (zs.map fun d => match d with | .str s => s | _ => Str.empty).map D.str = zs := by
    intro zs hz
    induction zs with
    | nil => rfl
    | cons z r ih =>
      obtain ⟨s, rfl⟩ := hz z (List.mem_cons_self ..)
      rw [List.map_cons, List.map_cons, ih fun y hy => hz y (List.mem_cons_of_mem _ hy)]
  refine ⟨ys.map fun d => match d with | .str s => s | _ => Str.empty, (e ys fun z hz => ?_).symm, ?_⟩
  · obtain ⟨s, _, e⟩ := List.mem_map.mp (h.mem_iff.mp hz)
    exact ⟨s, e.symm⟩
  · have := h.map fun d => match d with | .str s => s | _ => Str.empty
    rw [List.map_map] at this
    have e2 : ss.map ((fun d => match d with | .str s => s | _ => Str.empty) ∘ D.str) = ss := by
      clear h this
      induction ss with
      | nil => rfl
      | cons s r ih => rw [List.map_cons, ih]; rfl
    rw [e2] at this
    exact this
end Pu.L70
set_option Elab.async false
set_option linter.all false
set_option maxRecDepth 100000
set_option maxHeartbeats 4000000
set_option autoImplicit false
namespace Pu.L70
open PySem PySem.Spec PyProof.Rows L2
variable {P : Program} {w : World} {K : PySem.W.Frag} {mg : Str → Option Value} {base : Heap}
def sp__law_names : Spec := fun ds h Q Ex => ∃ (m : Int), ds = [.sto, .int m] ∧ 0 ≤ m ∧ m ≤ 40 ∧ ∀ ss : List Str, ss.length = m.toNat → ss.Nodup → (∀ s ∈ ss, nameB s = true) → Q (.lst (ss.map D.str)) h
theorem sc__law_names : FnScope ["_law_store_here", "_law_many", "_law_letters", "_law_signs", "_law_style", "_law_first", "_law_names_here", "_law_sign", "_law_k", "_law_start", "_law_ahead", "_law_tail", "_law_step", "_law_code"] ["_law_store_here", "_law_many"] (defScope s__law_names) := ⟨rfl, rfl, rfl, by decide +kernel, rfl, by decide +kernel, by decide +kernel⟩
def q__law_names__7 : RS := (qSeq (qSet 10 (qVar 5))
  (qSeq (qFor (qRng1 (qCall sp__law_take (qCons (qVar 0) (qCons (qC (.int 6)) qNil)))) (gqName 8) (qSet 10 (qBin addD (qPeek 10) (qCall sp__law_pick (qCons (qVar 0) (qCons (qVar 3) qNil))))))
  (qSeq (qSet 11 (qBin mulD (qCall sp__law_pick (qCons (qVar 0) (qCons (qVar 3) qNil))) (qCall sp__law_take (qCons (qVar 0) (qCons (qC (.int 5)) qNil)))))
  (qSeq (qSet 9 (qCall sp__law_take (qCons (qVar 0) (qCons (qC (.int 1296)) qNil))))
  (qSeq (qSet 12 (qBin ixD (qLst (qCons (qC (.int 1)) (qCons (qC (.int 5)) (qCons (qC (.int 7)) (qCons (qBin addD (qC (.int 36)) (qC (.int 1))) (qCons (qBin subD (qC (.int 1296)) (qC (.int 1))) qNil)))))) (qCall sp__law_take (qCons (qVar 0) (qCons (qC (.int 5)) qNil)))))
  (qSeq (qFor (qRng1 (qVar 1)) (gqName 8) (qSeq (qSet 13 (qBin modD (qUn intD (qBin addD (qPeek 9) (qBin mulD (qPeek 8) (qPeek 12)))) (qC (.int 1296))))
  (qSeq (qIfS (qTest (qBin eqD (qPeek 4) (qC (.int 5)))) (qSet 11 (qBin mulD (qCall sp__law_pick (qCons (qVar 0) (qCons (qVar 3) qNil))) (qCall sp__law_take (qCons (qVar 0) (qCons (qC (.int 5)) qNil))))) qNext)
  (qApp 6 (qBin addD (qBin addD (qBin addD (qPeek 10) (qBin ixD (qPeek 3) (qBin fdivD (qPeek 13) (qC (.int 36))))) (qBin ixD (qPeek 3) (qBin modD (qUn intD (qPeek 13)) (qC (.int 36))))) (qPeek 11))))))
  (qFreeze 6 (qRet (qCall sp__law_shuffled (qCons (qVar 0) (qCons (qVar 6) qNil)))))))))))
def q__law_names__6 : RS := (qSeq (qIfS (qAnd (qTest (qBin ltD (qPeek 4) (qC (.int 3)))) (qTest (qBin leD (qPeek 1) (qC (.int 26))))) (qSeq (qSet 9 (qCall sp__law_take (qCons (qVar 0) (qCons (qC (.int 26)) qNil))))
  (qSeq (qFor (qRng1 (qVar 1)) (gqName 8) (qApp 6 (qBin ixD (qPeek 2) (qBin modD (qUn intD (qBin addD (qPeek 9) (qPeek 8))) (qC (.int 26))))))
  (qFreeze 6 (qRet (qCall sp__law_shuffled (qCons (qVar 0) (qCons (qVar 6) qNil))))))) qNext)
  q__law_names__7)
def q__law_names : RS := (qSeq (qSet 2 (qC (.str (Str.ofString "abcdefghijklmnopqrstuvwxyz"))))
  (qSeq (qSet 3 (qBin addD (qC (.str (Str.ofString "0123456789"))) (qPeek 2)))
  (qSeq (qSet 4 (qCall sp__law_take (qCons (qVar 0) (qCons (qC (.int 6)) qNil))))
  (qSeq (qSet 5 (qCall sp__law_pick (qCons (qVar 0) (qCons (qVar 2) qNil))))
  (qSeq (qSetN 6 (qLst qNil))
  (qSeq (qIfS (qAnd (qTest (qBin eqD (qPeek 4) (qC (.int 0)))) (qTest (qBin leD (qPeek 1) (qC (.int 12))))) (qSeq (qSet 7 (qCall sp__law_pick (qCons (qVar 0) (qCons (qVar 3) qNil))))
  (qSeq (qFor (qRng1 (qVar 1)) (gqName 8) (qApp 6 (qBin addD (qPeek 5) (qBin mulD (qPeek 7) (qPeek 8)))))
  (qFreeze 6 (qRet (qCall sp__law_shuffled (qCons (qVar 0) (qCons (qVar 6) qNil))))))) qNext)
  q__law_names__6))))))
theorem w__law_names (G : GE K mg) (C__law_shuffled : Cal P w K mg base "_law_shuffled" ["_law_store_here", "_law_items"] 2 sp__law_shuffled) (C__law_pick : Cal P w K mg base "_law_pick" ["_law_store_here", "_law_items"] 2 sp__law_pick) (C__law_take : Cal P w K mg base "_law_take" ["_law_store_here", "_law_many"] 1 sp__law_take) : WkOk P w K mg base ["_law_store_here", "_law_many", "_law_letters", "_law_signs", "_law_style", "_law_first", "_law_names_here", "_law_sign", "_law_k", "_law_start", "_law_ahead", "_law_tail", "_law_step", "_law_code"] "_law_names" s__law_names 2 q__law_names := fun f cdv A outer s H E hr tk => by
  have S := sc__law_names
  unfold q__law_names q__law_names__6 q__law_names__7
  exact (qss_cons (qs_set 2 qe_str S.nd)
    (qss_cons (qs_set 3 (qe_bin op_addAll ops_add (qe_str).k (qk_var 2)) S.nd)
    (qss_cons (qs_set 4 (qe_callC C__law_take hr tk (qa_cons (qe_var 0) (qa_cons qe_int qa_nil))) S.nd)
    (qss_cons (qs_set 5 (qe_callC C__law_pick hr tk (qa_cons (qe_var 0) (qa_cons (qe_var 2) qa_nil))) S.nd)
    (qss_cons (qs_setN 6 (qn_lst qa_nil) S.nd)
    (qss_cons (qs_if (qw_and (qt_cmp op_eq ops_eq (qk_var 4) (qe_int).k (by rfl)) (qw_and1 (qt_cmp op_leAll ops_le (qk_var 1) (qe_int).k (by rfl)))).t (qss_cons (qs_set 7 (qe_callC C__law_pick hr tk (qa_cons (qe_var 0) (qa_cons (qe_var 3) qa_nil))) S.nd)
    (qss_cons (qs_for (passes_of rfl) rfl (qi_rng1 (qe_var 1) G.n_range) (qg_name 8 S.nd) (qss_one (qs_app 6 (qe_bin op_addAll ops_add (qk_var 5) (qe_bin op_mulAll ops_mul (qk_var 7) (qk_var 8)).k))))
    (qss_freeze 6 (qss_one (qs_ret (qe_callC C__law_shuffled hr tk (qa_cons (qe_var 0) (qa_cons (qe_var 6) qa_nil)))))))) qss_nil)
    (qss_cons (qs_if (qw_and (qt_cmp op_ltAll ops_lt (qk_var 4) (qe_int).k (by rfl)) (qw_and1 (qt_cmp op_leAll ops_le (qk_var 1) (qe_int).k (by rfl)))).t (qss_cons (qs_set 9 (qe_callC C__law_take hr tk (qa_cons (qe_var 0) (qa_cons qe_int qa_nil))) S.nd)
    (qss_cons (qs_for (passes_of rfl) rfl (qi_rng1 (qe_var 1) G.n_range) (qg_name 8 S.nd) (qss_one (qs_app 6 (qe_ix (ix_all hr.u1) ops_ix (qk_var 2) (qe_bin op_modN ops_mod (qe_t1 call_intAll cs_int G.n_int (qe_bin op_addAll ops_add (qk_var 9) (qk_var 8)).k).k (qe_int).k).k))))
    (qss_freeze 6 (qss_one (qs_ret (qe_callC C__law_shuffled hr tk (qa_cons (qe_var 0) (qa_cons (qe_var 6) qa_nil)))))))) qss_nil)
    (qss_cons (qs_set 10 (qe_var 5) S.nd)
    (qss_cons (qs_for (passes_of rfl) rfl (qi_rng1 (qe_callC C__law_take hr tk (qa_cons (qe_var 0) (qa_cons qe_int qa_nil))) G.n_range) (qg_name 8 S.nd) (qss_one (qs_set 10 (qe_bin op_addAll ops_add (qk_var 10) (qe_callC C__law_pick hr tk (qa_cons (qe_var 0) (qa_cons (qe_var 3) qa_nil))).k) S.nd)))
    (qss_cons (qs_set 11 (qe_bin op_mulAll ops_mul (qe_callC C__law_pick hr tk (qa_cons (qe_var 0) (qa_cons (qe_var 3) qa_nil))).k (qe_callC C__law_take hr tk (qa_cons (qe_var 0) (qa_cons qe_int qa_nil))).k) S.nd)
    (qss_cons (qs_set 9 (qe_callC C__law_take hr tk (qa_cons (qe_var 0) (qa_cons qe_int qa_nil))) S.nd)
    (qss_cons (qs_set 12 (qe_ix (ix_all hr.u1) ops_ix ((qn_lst (qa_cons qe_int (qa_cons qe_int (qa_cons qe_int (qa_cons (qe_bin op_addAll ops_add (qe_int).k (qe_int).k) (qa_cons (qe_bin op_sub ops_sub (qe_int).k (qe_int).k) qa_nil))))))).e.k (qe_callC C__law_take hr tk (qa_cons (qe_var 0) (qa_cons qe_int qa_nil))).k) S.nd)
    (qss_cons (qs_for (passes_of rfl) rfl (qi_rng1 (qe_var 1) G.n_range) (qg_name 8 S.nd) (qss_cons (qs_set 13 (qe_bin op_modN ops_mod (qe_t1 call_intAll cs_int G.n_int (qe_bin op_addAll ops_add (qk_var 9) (qe_bin op_mulAll ops_mul (qk_var 8) (qk_var 12)).k).k).k (qe_int).k) S.nd)
    (qss_cons (qs_if (qt_cmp op_eq ops_eq (qk_var 4) (qe_int).k (by rfl)) (qss_one (qs_set 11 (qe_bin op_mulAll ops_mul (qe_callC C__law_pick hr tk (qa_cons (qe_var 0) (qa_cons (qe_var 3) qa_nil))).k (qe_callC C__law_take hr tk (qa_cons (qe_var 0) (qa_cons qe_int qa_nil))).k) S.nd)) qss_nil)
    (qss_one (qs_app 6 (qe_bin op_addAll ops_add (qe_bin op_addAll ops_add (qe_bin op_addAll ops_add (qk_var 10) (qe_ix (ix_all hr.u1) ops_ix (qk_var 3) (qe_bin op_fdivN ops_fdiv (qk_var 13) (qe_int).k).k).k).k (qe_ix (ix_all hr.u1) ops_ix (qk_var 3) (qe_bin op_modN ops_mod (qe_t1 call_intAll cs_int G.n_int (qk_var 13)).k (qe_int).k).k).k).k (qk_var 11)))))))
    (qss_freeze 6 (qss_one (qs_ret (qe_callC C__law_shuffled hr tk (qa_cons (qe_var 0) (qa_cons (qe_var 6) qa_nil)))))))))))))))))))
def sg (i : Nat) : Nat := if i < 10 then 48 + i else 87 + i
theorem pick_str {z : Str} {h : PHp} {Q : D → PHp → Prop} {Ex : XP} (h0 : 0 < (tl z).length) (h1 : (tl z).length ≤ 100) (hQ : ∀ c ∈ tl z, Q (.str ⟨#[c]⟩) h) : sp__law_pick [.sto, .str z] h Q Ex := by
  refine ⟨_, _, rfl, .inr (.inr ⟨_, rfl, rfl⟩), fun e => ?_, ?_, fun d hd => ?_⟩
  · have := congrArg List.length e
    rw [signs_len, tl_len, List.length_nil] at this
    omega
  · rw [signs_len, tl_len, sizeLine_eq]
    omega
  · obtain ⟨c, hc, rfl⟩ := signs_mem hd
    exact hQ c hc
theorem lt_al {c : Nat} (h : c ∈ (List.range 26).map (97 + ·)) : isLc c = true := by
  obtain ⟨i, hi, rfl⟩ := List.mem_map.mp h
  have := List.mem_range.mp hi
  unfold isLc
  rw [decide_eq_true (by omega), decide_eq_true (by omega)]
  rfl
theorem sg_al {c : Nat} (h : c ∈ (List.range 36).map sg) : al c = true := by
  obtain ⟨i, hi, rfl⟩ := List.mem_map.mp h
  have := List.mem_range.mp hi
  unfold al isLc isDc sg
  split
  · simp
    omega
  · simp
    omega
theorem names_end {m : Int} {h : PHp} {Qp : D → PHp → Prop} {Ex : XP} {ss : List Str} (hl : ss.length = m.toNat) (hm : m ≤ 40) (hnd : ss.Nodup) (hn : ∀ s ∈ ss, nameB s = true)
    (hQ : ∀ ss : List Str, ss.length = m.toNat → ss.Nodup → (∀ s ∈ ss, nameB s = true) → Qp (D.lst (List.map D.str ss)) h) : sp__law_shuffled [.sto, .lst (ss.map D.str)] h Qp Ex := by
  refine ⟨_, rfl, by rw [List.length_map, sizeLine_eq]; omega, fun ys hp => ?_⟩
  obtain ⟨ss', rfl, hp2⟩ := perm_strs hp
  exact hQ ss' (by rw [hp2.length_eq, hl]) (hp2.nodup_iff.mpr hnd) fun s hs => hn s (hp2.mem_iff.mp hs)
def cdn (st p : Int) (j : Nat) : Nat := ((st + (j : Int) * p) % 1296).toNat
theorem sg_inj {i j : Nat} (h1 : i < 36) (h2 : j < 36) (h : sg i = sg j) : i = j := by
  unfold sg at h
  split at h <;> split at h <;> omega
theorem rpt_one1 {x n : Nat} : rptS ⟨#[x]⟩ n = ⟨(List.replicate n x).toArray⟩ := by
  refine tl_ext ?_
  show (List.replicate n [x]).flatten = List.replicate n x
  induction n with
  | zero => rfl
  | succ n ih => rw [List.replicate_succ, List.flatten_cons, ih, List.replicate_succ]; rfl
theorem names_C {Lt Sg : Str} (tL : tl Lt = (List.range 26).map (97 + ·)) (tS : tl Sg = (List.range 36).map sg) {m r : Int} {f : Nat} (hf : isLc f = true) {a b : Cell} {h : PHp} {Qp : D → PHp → Prop} {Ep : XP} (h0 : 0 ≤ m) (h1 : m ≤ 40)
    (hQ : ∀ ss : List Str, ss.length = m.toNat → ss.Nodup → (∀ s ∈ ss, nameB s = true) → Qp (D.lst (List.map D.str ss)) h) :
    q__law_names__7 (PE0 Qp Ep) [.fro .sto, .fro (.int m), .fro (.str Lt), .fro (.str Sg), .fro (.int r), .fro (.str ⟨#[f]⟩), .own (.lst []), .no, .no, .no, .no, .no, .no, .no] h := by
  simp only [q__law_names__7, startC, qVar, qPeek, qC, qBin, qUn, qNil, qCons, qTup, qLst, qCall, asB, qTest, qAnd, qOr, qNot, qAndV, qOrV, qNotV, qIfE, deref, qNext, qSeq, qSet, qSetN, qSetP, qRet, qRetN, qDrop, qIfS, qFreeze, qApp, onOwnL, qAsg, gqName, gqNil, gqCons, gqTup, qM1, qRng1, qEnum, qAny, asI, asL, itemsD, qPart, qNoPart, qCut, cutD, qCutL, cutLD, addD, subD, mulD, modD, fdivD, eqD, neD, eqS, onB, ltD, leD, gtD, geD, isND, lenD, intD, strD, ordD, listD, tupleD, ixD, PEnds.at, wipeC, qYes,
    List.map_cons, List.map_nil, List.replicate, List.cons_append, List.nil_append, List.append_assoc, List.getElem?_cons_zero, List.getElem?_cons_succ, List.set_cons_zero, List.set_cons_succ, List.length_cons, List.length_nil, Option.map_some, if_true, if_false, Bool.not_true, Bool.not_false, decide_eq_true_eq, Bool.not_eq_true', decide_eq_false_iff_not, Nat.reduceAdd, Nat.reduceSub, List.replicate_succ, List.replicate_zero, true_and, and_true, reduceCtorEq, isStr, qPutS, putS, powD, CPow, qPut, onOwn, setD, qPutP, onPtr, qDelP, delD, qPutF, setF, qProp, qMeth, qMake, isObj, fldD, minD, maxD, qChain, revD, lrevD, isiD, tyD, qOrT, qAndT, onTru, truD, qJoined, qjCons, qjNil, fmtD, fmt5D, D.int.injEq, D.str.injEq, D.lst.injEq, D.tup.injEq, D.bl.injEq, false_implies, true_implies, ne_eq, not_false_eq_true, not_true_eq_false, forall_const, implies_true, false_and, and_false, exists_eq_left, exists_eq_left', Int.reduceEq, Int.reduceLT, Int.reduceNe, Int.reduceLE, or_false, false_or, or_true, true_or, qLc, qFor, qWhile, allD, sortAD, wipeC, isiS, List.any_cons, List.any_nil, Bool.or_false, Bool.or_true, Bool.true_or, Bool.false_or, Bool.and_self, Bool.false_and, Bool.and_false, Bool.and_true, Bool.true_and, String.reduceBEq, Bool.false_eq_true, Bool.true_eq_false]
  have sl : (tl Sg).length = 36 := by rw [tS, List.length_map, List.length_range]
  have pk : ∀ (Q : D → PHp → Prop) (Ex : XP), (∀ c, al c = true → Q (.str ⟨#[c]⟩) h) → sp__law_pick [.sto, .str Sg] h Q Ex := fun Q Ex hq => pick_str (by omega) (by omega) fun c hc => hq c (sg_al (by rw [← tS]; exact hc))
  refine ⟨_, rfl, by decide, fun n n0 n1 => ?_⟩
  simp only [startC, qVar, qPeek, qC, qBin, qUn, qNil, qCons, qTup, qLst, qCall, asB, qTest, qAnd, qOr, qNot, qAndV, qOrV, qNotV, qIfE, deref, qNext, qSeq, qSet, qSetN, qSetP, qRet, qRetN, qDrop, qIfS, qFreeze, qApp, onOwnL, qAsg, gqName, gqNil, gqCons, gqTup, qM1, qRng1, qEnum, qAny, asI, asL, itemsD, qPart, qNoPart, qCut, cutD, qCutL, cutLD, addD, subD, mulD, modD, fdivD, eqD, neD, eqS, onB, ltD, leD, gtD, geD, isND, lenD, intD, strD, ordD, listD, tupleD, ixD, PEnds.at, wipeC, qYes,
    List.map_cons, List.map_nil, List.replicate, List.cons_append, List.nil_append, List.append_assoc, List.getElem?_cons_zero, List.getElem?_cons_succ, List.set_cons_zero, List.set_cons_succ, List.length_cons, List.length_nil, Option.map_some, if_true, if_false, Bool.not_true, Bool.not_false, decide_eq_true_eq, Bool.not_eq_true', decide_eq_false_iff_not, Nat.reduceAdd, Nat.reduceSub, List.replicate_succ, List.replicate_zero, true_and, and_true, reduceCtorEq, isStr, qPutS, putS, powD, CPow, qPut, onOwn, setD, qPutP, onPtr, qDelP, delD, qPutF, setF, qProp, qMeth, qMake, isObj, fldD, minD, maxD, qChain, revD, lrevD, isiD, tyD, qOrT, qAndT, onTru, truD, qJoined, qjCons, qjNil, fmtD, fmt5D, D.int.injEq, D.str.injEq, D.lst.injEq, D.tup.injEq, D.bl.injEq, false_implies, true_implies, ne_eq, not_false_eq_true, not_true_eq_false, forall_const, implies_true, false_and, and_false, exists_eq_left, exists_eq_left', Int.reduceEq, Int.reduceLT, Int.reduceNe, Int.reduceLE, or_false, false_or, or_true, true_or, qLc, qFor, qWhile, allD, sortAD, wipeC, isiS, List.any_cons, List.any_nil, Bool.or_false, Bool.or_true, Bool.true_or, Bool.false_or, Bool.and_self, Bool.false_and, Bool.and_false, Bool.and_true, Bool.true_and, String.reduceBEq, Bool.false_eq_true, Bool.true_eq_false]
  refine ⟨by omega, by omega, forK_i (fun i ρ' h' => h' = h ∧ ∃ (ah : List Nat) (c : Cell), ah.length ≤ i ∧ (∀ x ∈ ah, al x = true) ∧
    ρ' = [.fro .sto, .fro (.int m), .fro (.str Lt), .fro (.str Sg), .fro (.int r), .fro (.str ⟨#[f]⟩), .own (.lst []), .no, c, .no, .fro (.str ⟨(f :: ah).toArray⟩), .no, .no, .no]) ⟨rfl, [], _, Nat.le_refl _, (fun _ z => by cases z), rfl⟩ ?_ ?_⟩
  · rintro i d ρ' h' hd ⟨rfl, ah, c, ha, hal, rfl⟩
    obtain ⟨rfl, hi⟩ := rng_get hd
    simp only [startC, qVar, qPeek, qC, qBin, qUn, qNil, qCons, qTup, qLst, qCall, asB, qTest, qAnd, qOr, qNot, qAndV, qOrV, qNotV, qIfE, deref, qNext, qSeq, qSet, qSetN, qSetP, qRet, qRetN, qDrop, qIfS, qFreeze, qApp, onOwnL, qAsg, gqName, gqNil, gqCons, gqTup, qM1, qRng1, qEnum, qAny, asI, asL, itemsD, qPart, qNoPart, qCut, cutD, qCutL, cutLD, addD, subD, mulD, modD, fdivD, eqD, neD, eqS, onB, ltD, leD, gtD, geD, isND, lenD, intD, strD, ordD, listD, tupleD, ixD, PEnds.at, wipeC, qYes,
    List.map_cons, List.map_nil, List.replicate, List.cons_append, List.nil_append, List.append_assoc, List.getElem?_cons_zero, List.getElem?_cons_succ, List.set_cons_zero, List.set_cons_succ, List.length_cons, List.length_nil, Option.map_some, if_true, if_false, Bool.not_true, Bool.not_false, decide_eq_true_eq, Bool.not_eq_true', decide_eq_false_iff_not, Nat.reduceAdd, Nat.reduceSub, List.replicate_succ, List.replicate_zero, true_and, and_true, reduceCtorEq, isStr, qPutS, putS, powD, CPow, qPut, onOwn, setD, qPutP, onPtr, qDelP, delD, qPutF, setF, qProp, qMeth, qMake, isObj, fldD, minD, maxD, qChain, revD, lrevD, isiD, tyD, qOrT, qAndT, onTru, truD, qJoined, qjCons, qjNil, fmtD, fmt5D, D.int.injEq, D.str.injEq, D.lst.injEq, D.tup.injEq, D.bl.injEq, false_implies, true_implies, ne_eq, not_false_eq_true, not_true_eq_false, forall_const, implies_true, false_and, and_false, exists_eq_left, exists_eq_left', Int.reduceEq, Int.reduceLT, Int.reduceNe, Int.reduceLE, or_false, false_or, or_true, true_or, qLc, qFor, qWhile, allD, sortAD, wipeC, isiS, List.any_cons, List.any_nil, Bool.or_false, Bool.or_true, Bool.true_or, Bool.false_or, Bool.and_self, Bool.false_and, Bool.and_false, Bool.and_true, Bool.true_and, String.reduceBEq, Bool.false_eq_true, Bool.true_eq_false]
    refine pk _ _ fun x hx => ?_
    simp only [startC, qVar, qPeek, qC, qBin, qUn, qNil, qCons, qTup, qLst, qCall, asB, qTest, qAnd, qOr, qNot, qAndV, qOrV, qNotV, qIfE, deref, qNext, qSeq, qSet, qSetN, qSetP, qRet, qRetN, qDrop, qIfS, qFreeze, qApp, onOwnL, qAsg, gqName, gqNil, gqCons, gqTup, qM1, qRng1, qEnum, qAny, asI, asL, itemsD, qPart, qNoPart, qCut, cutD, qCutL, cutLD, addD, subD, mulD, modD, fdivD, eqD, neD, eqS, onB, ltD, leD, gtD, geD, isND, lenD, intD, strD, ordD, listD, tupleD, ixD, PEnds.at, wipeC, qYes,
    List.map_cons, List.map_nil, List.replicate, List.cons_append, List.nil_append, List.append_assoc, List.getElem?_cons_zero, List.getElem?_cons_succ, List.set_cons_zero, List.set_cons_succ, List.length_cons, List.length_nil, Option.map_some, if_true, if_false, Bool.not_true, Bool.not_false, decide_eq_true_eq, Bool.not_eq_true', decide_eq_false_iff_not, Nat.reduceAdd, Nat.reduceSub, List.replicate_succ, List.replicate_zero, true_and, and_true, reduceCtorEq, isStr, qPutS, putS, powD, CPow, qPut, onOwn, setD, qPutP, onPtr, qDelP, delD, qPutF, setF, qProp, qMeth, qMake, isObj, fldD, minD, maxD, qChain, revD, lrevD, isiD, tyD, qOrT, qAndT, onTru, truD, qJoined, qjCons, qjNil, fmtD, fmt5D, D.int.injEq, D.str.injEq, D.lst.injEq, D.tup.injEq, D.bl.injEq, false_implies, true_implies, ne_eq, not_false_eq_true, not_true_eq_false, forall_const, implies_true, false_and, and_false, exists_eq_left, exists_eq_left', Int.reduceEq, Int.reduceLT, Int.reduceNe, Int.reduceLE, or_false, false_or, or_true, true_or, qLc, qFor, qWhile, allD, sortAD, wipeC, isiS, List.any_cons, List.any_nil, Bool.or_false, Bool.or_true, Bool.true_or, Bool.false_or, Bool.and_self, Bool.false_and, Bool.and_false, Bool.and_true, Bool.true_and, String.reduceBEq, Bool.false_eq_true, Bool.true_eq_false]
    refine ⟨?_, ah ++ [x], .fro (.int (i : Int)), by simp; omega, fun y hy => ?_, ?_⟩
    · show (f :: ah).toArray.size + 1 ≤ _
      rw [sizeLine_eq]
      simp
      omega
    · rcases List.mem_append.mp hy with hy | hy
      · exact hal y hy
      · rw [List.mem_singleton.mp hy]; exact hx
    · have : (⟨(f :: ah).toArray⟩ : Str) ++ ⟨#[x]⟩ = ⟨(f :: (ah ++ [x])).toArray⟩ := tl_ext (by rw [tl_cat]; rfl)
      rw [this]
  · rintro ρ' h' ⟨rfl, ah, c, ha, hal, rfl⟩
    rw [rng_len] at ha
    have ha : ah.length ≤ 5 := by omega
    simp only [startC, qVar, qPeek, qC, qBin, qUn, qNil, qCons, qTup, qLst, qCall, asB, qTest, qAnd, qOr, qNot, qAndV, qOrV, qNotV, qIfE, deref, qNext, qSeq, qSet, qSetN, qSetP, qRet, qRetN, qDrop, qIfS, qFreeze, qApp, onOwnL, qAsg, gqName, gqNil, gqCons, gqTup, qM1, qRng1, qEnum, qAny, asI, asL, itemsD, qPart, qNoPart, qCut, cutD, qCutL, cutLD, addD, subD, mulD, modD, fdivD, eqD, neD, eqS, onB, ltD, leD, gtD, geD, isND, lenD, intD, strD, ordD, listD, tupleD, ixD, PEnds.at, wipeC, qYes,
    List.map_cons, List.map_nil, List.replicate, List.cons_append, List.nil_append, List.append_assoc, List.getElem?_cons_zero, List.getElem?_cons_succ, List.set_cons_zero, List.set_cons_succ, List.length_cons, List.length_nil, Option.map_some, if_true, if_false, Bool.not_true, Bool.not_false, decide_eq_true_eq, Bool.not_eq_true', decide_eq_false_iff_not, Nat.reduceAdd, Nat.reduceSub, List.replicate_succ, List.replicate_zero, true_and, and_true, reduceCtorEq, isStr, qPutS, putS, powD, CPow, qPut, onOwn, setD, qPutP, onPtr, qDelP, delD, qPutF, setF, qProp, qMeth, qMake, isObj, fldD, minD, maxD, qChain, revD, lrevD, isiD, tyD, qOrT, qAndT, onTru, truD, qJoined, qjCons, qjNil, fmtD, fmt5D, D.int.injEq, D.str.injEq, D.lst.injEq, D.tup.injEq, D.bl.injEq, false_implies, true_implies, ne_eq, not_false_eq_true, not_true_eq_false, forall_const, implies_true, false_and, and_false, exists_eq_left, exists_eq_left', Int.reduceEq, Int.reduceLT, Int.reduceNe, Int.reduceLE, or_false, false_or, or_true, true_or, qLc, qFor, qWhile, allD, sortAD, wipeC, isiS, List.any_cons, List.any_nil, Bool.or_false, Bool.or_true, Bool.true_or, Bool.false_or, Bool.and_self, Bool.false_and, Bool.and_false, Bool.and_true, Bool.true_and, String.reduceBEq, Bool.false_eq_true, Bool.true_eq_false]
    refine pk _ _ fun x hx => ?_
    refine ⟨_, rfl, by decide, fun k k0 k1 => ?_⟩
    simp only [startC, qVar, qPeek, qC, qBin, qUn, qNil, qCons, qTup, qLst, qCall, asB, qTest, qAnd, qOr, qNot, qAndV, qOrV, qNotV, qIfE, deref, qNext, qSeq, qSet, qSetN, qSetP, qRet, qRetN, qDrop, qIfS, qFreeze, qApp, onOwnL, qAsg, gqName, gqNil, gqCons, gqTup, qM1, qRng1, qEnum, qAny, asI, asL, itemsD, qPart, qNoPart, qCut, cutD, qCutL, cutLD, addD, subD, mulD, modD, fdivD, eqD, neD, eqS, onB, ltD, leD, gtD, geD, isND, lenD, intD, strD, ordD, listD, tupleD, ixD, PEnds.at, wipeC, qYes,
    List.map_cons, List.map_nil, List.replicate, List.cons_append, List.nil_append, List.append_assoc, List.getElem?_cons_zero, List.getElem?_cons_succ, List.set_cons_zero, List.set_cons_succ, List.length_cons, List.length_nil, Option.map_some, if_true, if_false, Bool.not_true, Bool.not_false, decide_eq_true_eq, Bool.not_eq_true', decide_eq_false_iff_not, Nat.reduceAdd, Nat.reduceSub, List.replicate_succ, List.replicate_zero, true_and, and_true, reduceCtorEq, isStr, qPutS, putS, powD, CPow, qPut, onOwn, setD, qPutP, onPtr, qDelP, delD, qPutF, setF, qProp, qMeth, qMake, isObj, fldD, minD, maxD, qChain, revD, lrevD, isiD, tyD, qOrT, qAndT, onTru, truD, qJoined, qjCons, qjNil, fmtD, fmt5D, D.int.injEq, D.str.injEq, D.lst.injEq, D.tup.injEq, D.bl.injEq, false_implies, true_implies, ne_eq, not_false_eq_true, not_true_eq_false, forall_const, implies_true, false_and, and_false, exists_eq_left, exists_eq_left', Int.reduceEq, Int.reduceLT, Int.reduceNe, Int.reduceLE, or_false, false_or, or_true, true_or, qLc, qFor, qWhile, allD, sortAD, wipeC, isiS, List.any_cons, List.any_nil, Bool.or_false, Bool.or_true, Bool.true_or, Bool.false_or, Bool.and_self, Bool.false_and, Bool.and_false, Bool.and_true, Bool.true_and, String.reduceBEq, Bool.false_eq_true, Bool.true_eq_false]
    have hk : k.toNat ≤ 4 := by omega
    refine ⟨by omega, by omega, by show 1 * _ ≤ _; omega, by show 1 < _; decide, ?_⟩
    refine ⟨_, rfl, by decide, fun st st0 st1 => ?_⟩
    simp only [startC, qVar, qPeek, qC, qBin, qUn, qNil, qCons, qTup, qLst, qCall, asB, qTest, qAnd, qOr, qNot, qAndV, qOrV, qNotV, qIfE, deref, qNext, qSeq, qSet, qSetN, qSetP, qRet, qRetN, qDrop, qIfS, qFreeze, qApp, onOwnL, qAsg, gqName, gqNil, gqCons, gqTup, qM1, qRng1, qEnum, qAny, asI, asL, itemsD, qPart, qNoPart, qCut, cutD, qCutL, cutLD, addD, subD, mulD, modD, fdivD, eqD, neD, eqS, onB, ltD, leD, gtD, geD, isND, lenD, intD, strD, ordD, listD, tupleD, ixD, PEnds.at, wipeC, qYes,
    List.map_cons, List.map_nil, List.replicate, List.cons_append, List.nil_append, List.append_assoc, List.getElem?_cons_zero, List.getElem?_cons_succ, List.set_cons_zero, List.set_cons_succ, List.length_cons, List.length_nil, Option.map_some, if_true, if_false, Bool.not_true, Bool.not_false, decide_eq_true_eq, Bool.not_eq_true', decide_eq_false_iff_not, Nat.reduceAdd, Nat.reduceSub, List.replicate_succ, List.replicate_zero, true_and, and_true, reduceCtorEq, isStr, qPutS, putS, powD, CPow, qPut, onOwn, setD, qPutP, onPtr, qDelP, delD, qPutF, setF, qProp, qMeth, qMake, isObj, fldD, minD, maxD, qChain, revD, lrevD, isiD, tyD, qOrT, qAndT, onTru, truD, qJoined, qjCons, qjNil, fmtD, fmt5D, D.int.injEq, D.str.injEq, D.lst.injEq, D.tup.injEq, D.bl.injEq, false_implies, true_implies, ne_eq, not_false_eq_true, not_true_eq_false, forall_const, implies_true, false_and, and_false, exists_eq_left, exists_eq_left', Int.reduceEq, Int.reduceLT, Int.reduceNe, Int.reduceLE, or_false, false_or, or_true, true_or, qLc, qFor, qWhile, allD, sortAD, wipeC, isiS, List.any_cons, List.any_nil, Bool.or_false, Bool.or_true, Bool.true_or, Bool.false_or, Bool.and_self, Bool.false_and, Bool.and_false, Bool.and_true, Bool.true_and, String.reduceBEq, Bool.false_eq_true, Bool.true_eq_false]
    refine ⟨_, rfl, by decide, fun j j0 j1 => ?_⟩
    simp only [startC, qVar, qPeek, qC, qBin, qUn, qNil, qCons, qTup, qLst, qCall, asB, qTest, qAnd, qOr, qNot, qAndV, qOrV, qNotV, qIfE, deref, qNext, qSeq, qSet, qSetN, qSetP, qRet, qRetN, qDrop, qIfS, qFreeze, qApp, onOwnL, qAsg, gqName, gqNil, gqCons, gqTup, qM1, qRng1, qEnum, qAny, asI, asL, itemsD, qPart, qNoPart, qCut, cutD, qCutL, cutLD, addD, subD, mulD, modD, fdivD, eqD, neD, eqS, onB, ltD, leD, gtD, geD, isND, lenD, intD, strD, ordD, listD, tupleD, ixD, PEnds.at, wipeC, qYes,
    List.map_cons, List.map_nil, List.replicate, List.cons_append, List.nil_append, List.append_assoc, List.getElem?_cons_zero, List.getElem?_cons_succ, List.set_cons_zero, List.set_cons_succ, List.length_cons, List.length_nil, Option.map_some, if_true, if_false, Bool.not_true, Bool.not_false, decide_eq_true_eq, Bool.not_eq_true', decide_eq_false_iff_not, Nat.reduceAdd, Nat.reduceSub, List.replicate_succ, List.replicate_zero, true_and, and_true, reduceCtorEq, isStr, qPutS, putS, powD, CPow, qPut, onOwn, setD, qPutP, onPtr, qDelP, delD, qPutF, setF, qProp, qMeth, qMake, isObj, fldD, minD, maxD, qChain, revD, lrevD, isiD, tyD, qOrT, qAndT, onTru, truD, qJoined, qjCons, qjNil, fmtD, fmt5D, D.int.injEq, D.str.injEq, D.lst.injEq, D.tup.injEq, D.bl.injEq, false_implies, true_implies, ne_eq, not_false_eq_true, not_true_eq_false, forall_const, implies_true, false_and, and_false, exists_eq_left, exists_eq_left', Int.reduceEq, Int.reduceLT, Int.reduceNe, Int.reduceLE, or_false, false_or, or_true, true_or, qLc, qFor, qWhile, allD, sortAD, wipeC, isiS, List.any_cons, List.any_nil, Bool.or_false, Bool.or_true, Bool.true_or, Bool.false_or, Bool.and_self, Bool.false_and, Bool.and_false, Bool.and_true, Bool.true_and, String.reduceBEq, Bool.false_eq_true, Bool.true_eq_false]
    obtain ⟨p, hp, hat⟩ : ∃ p : Int, (p = 1 ∨ p = 5 ∨ p = 7 ∨ p = 37 ∨ p = 1295) ∧ atI [D.int 1, D.int 5, D.int 7, D.int (36 + 1), D.int (1296 - 1)] j = some (.int p) := by
      have : j = 0 ∨ j = 1 ∨ j = 2 ∨ j = 3 ∨ j = 4 := by omega
      rcases this with rfl | rfl | rfl | rfl | rfl
      · exact ⟨1, .inl rfl, rfl⟩
      · exact ⟨5, .inr (.inl rfl), rfl⟩
      · exact ⟨7, .inr (.inr (.inl rfl)), rfl⟩
      · exact ⟨37, .inr (.inr (.inr (.inl rfl))), rfl⟩
      · exact ⟨1295, .inr (.inr (.inr (.inr rfl))), rfl⟩
    refine ⟨_, hat, by omega, by omega, ?_⟩
    have sgAt : ∀ i : Int, 0 ≤ i → i < 36 → atI Sg.cps.toList i = some (sg i.toNat) := fun i hi hi2 => by
      show atI (tl Sg) i = _
      rw [atI_pos hi (by omega), tS, List.getElem?_map, List.getElem?_range (by omega)]
      rfl
    have sgl : Sg.length ≤ sizeLine := by rw [tl_len, sizeLine_eq]; omega
    refine forK_i (fun i ρ' h'' => h'' = h' ∧ ∃ (ss : List Str) (T : List Nat) (c8 c13 : Cell), ss.length = i ∧ T.length ≤ 4 ∧ (∀ x ∈ T, al x = true) ∧
      (∀ j s, ss[j]? = some s → ∃ t : List Nat, t.length ≤ 4 ∧ (∀ x ∈ t, al x = true) ∧ tl s = (f :: ah) ++ (sg (cdn st p j / 36) :: sg (cdn st p j % 36) :: t)) ∧
      ρ' = [.fro .sto, .fro (.int m), .fro (.str Lt), .fro (.str Sg), .fro (.int r), .fro (.str ⟨#[f]⟩), .own (.lst (ss.map D.str)), .no, c8, .fro (.int st), .fro (.str ⟨(f :: ah).toArray⟩), .fro (.str ⟨T.toArray⟩), .fro (.int p), c13])
      ⟨rfl, [], List.replicate k.toNat x, _, _, rfl, by rw [List.length_replicate]; exact hk, fun y hy => by rw [List.eq_of_mem_replicate hy]; exact hx, (fun _ _ z => by simp at z), by rw [rpt_one1]; rfl⟩ ?_ ?_
    · rintro i d ρ' h'' hd ⟨rfl, ss, T, c8, c13, hss, hT, hTa, hP, rfl⟩
      obtain ⟨rfl, hi⟩ := rng_get hd
      have b := fmod_pos (a := st + (i : Int) * p) (m := 1296) (by decide)
      have ecd : (st + (i : Int) * p).fmod 1296 = ((cdn st p i : Nat) : Int) := by
        unfold cdn
        rw [fmod_emod (by decide)]
        omega
      have hcd : cdn st p i < 1296 := by omega
      have g1 := sgAt ((st + (i : Int) * p).fmod 1296 / 36) (by omega) (by omega)
      have g2 := sgAt ((st + (i : Int) * p).fmod 1296 % 36) (by omega) (by omega)
      have f1 : ((st + (i : Int) * p).fmod 1296 / 36).toNat = cdn st p i / 36 := by omega
      have f2 : ((st + (i : Int) * p).fmod 1296 % 36).toNat = cdn st p i % 36 := by omega
      rw [f1] at g1
      rw [f2] at g2
      have fin : ∀ T' : List Nat, T'.length ≤ 4 → (∀ x ∈ T', al x = true) → ∀ j s, (ss ++ [(((⟨(f :: ah).toArray⟩ : Str) ++ ⟨#[sg (cdn st p i / 36)]⟩) ++ ⟨#[sg (cdn st p i % 36)]⟩) ++ ⟨T'.toArray⟩])[j]? = some s → ∃ t : List Nat, t.length ≤ 4 ∧ (∀ x ∈ t, al x = true) ∧ tl s = (f :: ah) ++ (sg (cdn st p j / 36) :: sg (cdn st p j % 36) :: t) := fun T' hT' hTa' j s hs => by
        rcases Nat.lt_or_ge j ss.length with hj | hj
        · rw [List.getElem?_append_left hj] at hs
          exact hP j s hs
        · have : j = i := by
            have := get_lt hs
            rw [List.length_append, List.length_singleton] at this
            omega
          subst this
          rw [List.getElem?_append_right hj, hss, Nat.sub_self] at hs
          cases hs
          exact ⟨T', hT', hTa', by rw [tl_cat, tl_cat, tl_cat]; simp [tl]⟩
      have l1 : ∀ T' : List Nat, T'.length ≤ 4 → (⟨(f :: ah).toArray⟩ : Str).length + (⟨#[sg (cdn st p i / 36)]⟩ : Str).length ≤ sizeLine ∧ ((⟨(f :: ah).toArray⟩ : Str) ++ ⟨#[sg (cdn st p i / 36)]⟩).length + (⟨#[sg (cdn st p i % 36)]⟩ : Str).length ≤ sizeLine ∧ (((⟨(f :: ah).toArray⟩ : Str) ++ ⟨#[sg (cdn st p i / 36)]⟩) ++ ⟨#[sg (cdn st p i % 36)]⟩).length + (⟨T'.toArray⟩ : Str).length ≤ sizeLine := fun T' hT' => by
        rw [sizeLine_eq]
        refine ⟨?_, ?_, ?_⟩ <;> simp only [tl_len, tl_cat, List.length_append] <;> simp [tl] <;> omega
      simp only [startC, qVar, qPeek, qC, qBin, qUn, qNil, qCons, qTup, qLst, qCall, asB, qTest, qAnd, qOr, qNot, qAndV, qOrV, qNotV, qIfE, deref, qNext, qSeq, qSet, qSetN, qSetP, qRet, qRetN, qDrop, qIfS, qFreeze, qApp, onOwnL, qAsg, gqName, gqNil, gqCons, gqTup, qM1, qRng1, qEnum, qAny, asI, asL, itemsD, qPart, qNoPart, qCut, cutD, qCutL, cutLD, addD, subD, mulD, modD, fdivD, eqD, neD, eqS, onB, ltD, leD, gtD, geD, isND, lenD, intD, strD, ordD, listD, tupleD, ixD, PEnds.at, wipeC, qYes,
    List.map_cons, List.map_nil, List.replicate, List.cons_append, List.nil_append, List.append_assoc, List.getElem?_cons_zero, List.getElem?_cons_succ, List.set_cons_zero, List.set_cons_succ, List.length_cons, List.length_nil, Option.map_some, if_true, if_false, Bool.not_true, Bool.not_false, decide_eq_true_eq, Bool.not_eq_true', decide_eq_false_iff_not, Nat.reduceAdd, Nat.reduceSub, List.replicate_succ, List.replicate_zero, true_and, and_true, reduceCtorEq, isStr, qPutS, putS, powD, CPow, qPut, onOwn, setD, qPutP, onPtr, qDelP, delD, qPutF, setF, qProp, qMeth, qMake, isObj, fldD, minD, maxD, qChain, revD, lrevD, isiD, tyD, qOrT, qAndT, onTru, truD, qJoined, qjCons, qjNil, fmtD, fmt5D, D.int.injEq, D.str.injEq, D.lst.injEq, D.tup.injEq, D.bl.injEq, false_implies, true_implies, ne_eq, not_false_eq_true, not_true_eq_false, forall_const, implies_true, false_and, and_false, exists_eq_left, exists_eq_left', Int.reduceEq, Int.reduceLT, Int.reduceNe, Int.reduceLE, or_false, false_or, or_true, true_or, qLc, qFor, qWhile, allD, sortAD, wipeC, isiS, List.any_cons, List.any_nil, Bool.or_false, Bool.or_true, Bool.true_or, Bool.false_or, Bool.and_self, Bool.false_and, Bool.and_false, Bool.and_true, Bool.true_and, String.reduceBEq, Bool.false_eq_true, Bool.true_eq_false]
      refine ⟨.inr ⟨by omega, by omega⟩, ?_⟩
      split
      · refine pk _ _ fun x' hx' => ⟨_, rfl, by decide, fun k' k0' k1' => ?_⟩
        simp only [startC, qVar, qPeek, qC, qBin, qUn, qNil, qCons, qTup, qLst, qCall, asB, qTest, qAnd, qOr, qNot, qAndV, qOrV, qNotV, qIfE, deref, qNext, qSeq, qSet, qSetN, qSetP, qRet, qRetN, qDrop, qIfS, qFreeze, qApp, onOwnL, qAsg, gqName, gqNil, gqCons, gqTup, qM1, qRng1, qEnum, qAny, asI, asL, itemsD, qPart, qNoPart, qCut, cutD, qCutL, cutLD, addD, subD, mulD, modD, fdivD, eqD, neD, eqS, onB, ltD, leD, gtD, geD, isND, lenD, intD, strD, ordD, listD, tupleD, ixD, PEnds.at, wipeC, qYes,
    List.map_cons, List.map_nil, List.replicate, List.cons_append, List.nil_append, List.append_assoc, List.getElem?_cons_zero, List.getElem?_cons_succ, List.set_cons_zero, List.set_cons_succ, List.length_cons, List.length_nil, Option.map_some, if_true, if_false, Bool.not_true, Bool.not_false, decide_eq_true_eq, Bool.not_eq_true', decide_eq_false_iff_not, Nat.reduceAdd, Nat.reduceSub, List.replicate_succ, List.replicate_zero, true_and, and_true, reduceCtorEq, isStr, qPutS, putS, powD, CPow, qPut, onOwn, setD, qPutP, onPtr, qDelP, delD, qPutF, setF, qProp, qMeth, qMake, isObj, fldD, minD, maxD, qChain, revD, lrevD, isiD, tyD, qOrT, qAndT, onTru, truD, qJoined, qjCons, qjNil, fmtD, fmt5D, D.int.injEq, D.str.injEq, D.lst.injEq, D.tup.injEq, D.bl.injEq, false_implies, true_implies, ne_eq, not_false_eq_true, not_true_eq_false, forall_const, implies_true, false_and, and_false, exists_eq_left, exists_eq_left', Int.reduceEq, Int.reduceLT, Int.reduceNe, Int.reduceLE, or_false, false_or, or_true, true_or, qLc, qFor, qWhile, allD, sortAD, wipeC, isiS, List.any_cons, List.any_nil, Bool.or_false, Bool.or_true, Bool.true_or, Bool.false_or, Bool.and_self, Bool.false_and, Bool.and_false, Bool.and_true, Bool.true_and, String.reduceBEq, Bool.false_eq_true, Bool.true_eq_false]
        rw [rpt_one1]
        have hk' : (List.replicate k'.toNat x').length ≤ 4 := by rw [List.length_replicate]; omega
        have hx2 : ∀ y ∈ List.replicate k'.toNat x', al y = true := fun y hy => by rw [List.eq_of_mem_replicate hy]; exact hx'
        refine ⟨by omega, by omega, by show 1 * _ ≤ _; omega, by show 1 < _; decide, ?_⟩
        refine ⟨⟨by decide, by decide⟩, sgl, _, by rw [fdiv_ediv (by decide)]; exact g1, (l1 _ hk').1, sgl, _, by rw [fmod_emod (by decide)]; exact g2, (l1 _ hk').2.1, (l1 _ hk').2.2, by rw [List.length_map, sizeLine_eq]; omega, ss ++ [(((⟨(f :: ah).toArray⟩ : Str) ++ ⟨#[sg (cdn st p i / 36)]⟩) ++ ⟨#[sg (cdn st p i % 36)]⟩) ++ ⟨(List.replicate k'.toNat x').toArray⟩], List.replicate k'.toNat x', .fro (.int (i : Int)), .fro (.int ((st + (i : Int) * p).fmod 1296)), by simp [hss], hk', hx2, fin _ (hk') (hx2), by rw [List.map_append]; rfl⟩
      · refine ⟨⟨by decide, by decide⟩, sgl, _, by rw [fdiv_ediv (by decide)]; exact g1, (l1 T hT).1, sgl, _, by rw [fmod_emod (by decide)]; exact g2, (l1 T hT).2.1, (l1 T hT).2.2, by rw [List.length_map, sizeLine_eq]; omega, ss ++ [(((⟨(f :: ah).toArray⟩ : Str) ++ ⟨#[sg (cdn st p i / 36)]⟩) ++ ⟨#[sg (cdn st p i % 36)]⟩) ++ ⟨(T).toArray⟩], T, .fro (.int (i : Int)), .fro (.int ((st + (i : Int) * p).fmod 1296)), by simp [hss], hT, hTa, fin _ (hT) (hTa), by rw [List.map_append]; rfl⟩
    · rintro ρ' h'' ⟨rfl, ss, T, c8, c13, hss, hT, hTa, hP, rfl⟩
      rw [rng_len] at hss
      simp only [startC, qVar, qPeek, qC, qBin, qUn, qNil, qCons, qTup, qLst, qCall, asB, qTest, qAnd, qOr, qNot, qAndV, qOrV, qNotV, qIfE, deref, qNext, qSeq, qSet, qSetN, qSetP, qRet, qRetN, qDrop, qIfS, qFreeze, qApp, onOwnL, qAsg, gqName, gqNil, gqCons, gqTup, qM1, qRng1, qEnum, qAny, asI, asL, itemsD, qPart, qNoPart, qCut, cutD, qCutL, cutLD, addD, subD, mulD, modD, fdivD, eqD, neD, eqS, onB, ltD, leD, gtD, geD, isND, lenD, intD, strD, ordD, listD, tupleD, ixD, PEnds.at, wipeC, qYes,
    List.map_cons, List.map_nil, List.replicate, List.cons_append, List.nil_append, List.append_assoc, List.getElem?_cons_zero, List.getElem?_cons_succ, List.set_cons_zero, List.set_cons_succ, List.length_cons, List.length_nil, Option.map_some, if_true, if_false, Bool.not_true, Bool.not_false, decide_eq_true_eq, Bool.not_eq_true', decide_eq_false_iff_not, Nat.reduceAdd, Nat.reduceSub, List.replicate_succ, List.replicate_zero, true_and, and_true, reduceCtorEq, isStr, qPutS, putS, powD, CPow, qPut, onOwn, setD, qPutP, onPtr, qDelP, delD, qPutF, setF, qProp, qMeth, qMake, isObj, fldD, minD, maxD, qChain, revD, lrevD, isiD, tyD, qOrT, qAndT, onTru, truD, qJoined, qjCons, qjNil, fmtD, fmt5D, D.int.injEq, D.str.injEq, D.lst.injEq, D.tup.injEq, D.bl.injEq, false_implies, true_implies, ne_eq, not_false_eq_true, not_true_eq_false, forall_const, implies_true, false_and, and_false, exists_eq_left, exists_eq_left', Int.reduceEq, Int.reduceLT, Int.reduceNe, Int.reduceLE, or_false, false_or, or_true, true_or, qLc, qFor, qWhile, allD, sortAD, wipeC, isiS, List.any_cons, List.any_nil, Bool.or_false, Bool.or_true, Bool.true_or, Bool.false_or, Bool.and_self, Bool.false_and, Bool.and_false, Bool.and_true, Bool.true_and, String.reduceBEq, Bool.false_eq_true, Bool.true_eq_false]
      refine names_end hss h1 ?_ ?_ hQ
      · rw [List.nodup_iff_pairwise_ne, List.pairwise_iff_getElem]
        intro i j hi hj hij e
        obtain ⟨t1, _, _, e1⟩ := hP i _ (List.getElem?_eq_getElem hi)
        obtain ⟨t2, _, _, e2⟩ := hP j _ (List.getElem?_eq_getElem hj)
        rw [e, e2] at e1
        have e3 := List.append_cancel_left e1
        simp only [List.cons.injEq] at e3
        have b1 : cdn st p i < 1296 := by unfold cdn; omega
        have b2 : cdn st p j < 1296 := by unfold cdn; omega
        have e4 := sg_inj (by omega) (by omega) e3.1
        have e5 := sg_inj (by omega) (by omega) e3.2.1
        have e6 : cdn st p i = cdn st p j := by omega
        unfold cdn at e6
        rcases hp with rfl | rfl | rfl | rfl | rfl <;> omega
      · intro s hs
        obtain ⟨j, hj⟩ := List.getElem?_of_mem hs
        obtain ⟨t1, l1, a1, e1⟩ := hP j s hj
        have b1 : cdn st p j < 1296 := by unfold cdn; omega
        have : s = ⟨(f :: (ah ++ (sg (cdn st p j / 36) :: sg (cdn st p j % 36) :: t1))).toArray⟩ := tl_ext (by rw [e1]; rfl)
        rw [this]
        refine nameB_of hf (by simp; omega) fun y hy => ?_
        have sgm : ∀ i, i < 36 → al (sg i) = true := fun i hi => sg_al (List.mem_map.mpr ⟨i, List.mem_range.mpr hi, rfl⟩)
        rcases List.mem_append.mp hy with hy | hy
        · exact hal y hy
        · rcases List.mem_cons.mp hy with rfl | hy
          · exact sgm _ (by omega)
          · rcases List.mem_cons.mp hy with rfl | hy
            · exact sgm _ (by omega)
            · exact a1 y hy
theorem names_B {Lt Sg : Str} (tL : tl Lt = (List.range 26).map (97 + ·)) (tS : tl Sg = (List.range 36).map sg) {m r : Int} {f : Nat} (hf : isLc f = true) {a b : Cell} {h : PHp} {Qp : D → PHp → Prop} {Ep : XP} (h0 : 0 ≤ m) (h1 : m ≤ 40)
    (hQ : ∀ ss : List Str, ss.length = m.toNat → ss.Nodup → (∀ s ∈ ss, nameB s = true) → Qp (D.lst (List.map D.str ss)) h) :
    q__law_names__6 (PE0 Qp Ep) [.fro .sto, .fro (.int m), .fro (.str Lt), .fro (.str Sg), .fro (.int r), .fro (.str ⟨#[f]⟩), .own (.lst []), .no, .no, .no, .no, .no, .no, .no] h := by
  have C := names_C tL tS (m := m) (r := r) hf (a := .no) (b := .no) (h := h) (Qp := Qp) (Ep := Ep) h0 h1 hQ
  simp only [q__law_names__6, startC, qVar, qPeek, qC, qBin, qUn, qNil, qCons, qTup, qLst, qCall, asB, qTest, qAnd, qOr, qNot, qAndV, qOrV, qNotV, qIfE, deref, qNext, qSeq, qSet, qSetN, qSetP, qRet, qRetN, qDrop, qIfS, qFreeze, qApp, onOwnL, qAsg, gqName, gqNil, gqCons, gqTup, qM1, qRng1, qEnum, qAny, asI, asL, itemsD, qPart, qNoPart, qCut, cutD, qCutL, cutLD, addD, subD, mulD, modD, fdivD, eqD, neD, eqS, onB, ltD, leD, gtD, geD, isND, lenD, intD, strD, ordD, listD, tupleD, ixD, PEnds.at, wipeC, qYes,
    List.map_cons, List.map_nil, List.replicate, List.cons_append, List.nil_append, List.append_assoc, List.getElem?_cons_zero, List.getElem?_cons_succ, List.set_cons_zero, List.set_cons_succ, List.length_cons, List.length_nil, Option.map_some, if_true, if_false, Bool.not_true, Bool.not_false, decide_eq_true_eq, Bool.not_eq_true', decide_eq_false_iff_not, Nat.reduceAdd, Nat.reduceSub, List.replicate_succ, List.replicate_zero, true_and, and_true, reduceCtorEq, isStr, qPutS, putS, powD, CPow, qPut, onOwn, setD, qPutP, onPtr, qDelP, delD, qPutF, setF, qProp, qMeth, qMake, isObj, fldD, minD, maxD, qChain, revD, lrevD, isiD, tyD, qOrT, qAndT, onTru, truD, qJoined, qjCons, qjNil, fmtD, fmt5D, D.int.injEq, D.str.injEq, D.lst.injEq, D.tup.injEq, D.bl.injEq, false_implies, true_implies, ne_eq, not_false_eq_true, not_true_eq_false, forall_const, implies_true, false_and, and_false, exists_eq_left, exists_eq_left', Int.reduceEq, Int.reduceLT, Int.reduceNe, Int.reduceLE, or_false, false_or, or_true, true_or, qLc, qFor, qWhile, allD, sortAD, wipeC, isiS, List.any_cons, List.any_nil, Bool.or_false, Bool.or_true, Bool.true_or, Bool.false_or, Bool.and_self, Bool.false_and, Bool.and_false, Bool.and_true, Bool.true_and, String.reduceBEq, Bool.false_eq_true, Bool.true_eq_false]
  split
  · split
    · refine ⟨_, rfl, by decide, fun st st0 st1 => ?_⟩
      simp only [startC, qVar, qPeek, qC, qBin, qUn, qNil, qCons, qTup, qLst, qCall, asB, qTest, qAnd, qOr, qNot, qAndV, qOrV, qNotV, qIfE, deref, qNext, qSeq, qSet, qSetN, qSetP, qRet, qRetN, qDrop, qIfS, qFreeze, qApp, onOwnL, qAsg, gqName, gqNil, gqCons, gqTup, qM1, qRng1, qEnum, qAny, asI, asL, itemsD, qPart, qNoPart, qCut, cutD, qCutL, cutLD, addD, subD, mulD, modD, fdivD, eqD, neD, eqS, onB, ltD, leD, gtD, geD, isND, lenD, intD, strD, ordD, listD, tupleD, ixD, PEnds.at, wipeC, qYes,
    List.map_cons, List.map_nil, List.replicate, List.cons_append, List.nil_append, List.append_assoc, List.getElem?_cons_zero, List.getElem?_cons_succ, List.set_cons_zero, List.set_cons_succ, List.length_cons, List.length_nil, Option.map_some, if_true, if_false, Bool.not_true, Bool.not_false, decide_eq_true_eq, Bool.not_eq_true', decide_eq_false_iff_not, Nat.reduceAdd, Nat.reduceSub, List.replicate_succ, List.replicate_zero, true_and, and_true, reduceCtorEq, isStr, qPutS, putS, powD, CPow, qPut, onOwn, setD, qPutP, onPtr, qDelP, delD, qPutF, setF, qProp, qMeth, qMake, isObj, fldD, minD, maxD, qChain, revD, lrevD, isiD, tyD, qOrT, qAndT, onTru, truD, qJoined, qjCons, qjNil, fmtD, fmt5D, D.int.injEq, D.str.injEq, D.lst.injEq, D.tup.injEq, D.bl.injEq, false_implies, true_implies, ne_eq, not_false_eq_true, not_true_eq_false, forall_const, implies_true, false_and, and_false, exists_eq_left, exists_eq_left', Int.reduceEq, Int.reduceLT, Int.reduceNe, Int.reduceLE, or_false, false_or, or_true, true_or, qLc, qFor, qWhile, allD, sortAD, wipeC, isiS, List.any_cons, List.any_nil, Bool.or_false, Bool.or_true, Bool.true_or, Bool.false_or, Bool.and_self, Bool.false_and, Bool.and_false, Bool.and_true, Bool.true_and, String.reduceBEq, Bool.false_eq_true, Bool.true_eq_false]
      refine ⟨by omega, by omega, forK_i (fun i ρ' h' => h' = h ∧ ∃ (c : Cell), ρ' = [.fro .sto, .fro (.int m), .fro (.str Lt), .fro (.str Sg), .fro (.int r), .fro (.str ⟨#[f]⟩), .own (.lst (((List.range i).map fun (j : Nat) => (⟨#[97 + (st.toNat + j) % 26]⟩ : Str)).map D.str)), .no, c, .fro (.int st), .no, .no, .no, .no]) ⟨rfl, _, rfl⟩ ?_ ?_⟩
      · rintro i d ρ' h' hd ⟨rfl, c, rfl⟩
        obtain ⟨rfl, hi⟩ := rng_get hd
        simp only [startC, qVar, qPeek, qC, qBin, qUn, qNil, qCons, qTup, qLst, qCall, asB, qTest, qAnd, qOr, qNot, qAndV, qOrV, qNotV, qIfE, deref, qNext, qSeq, qSet, qSetN, qSetP, qRet, qRetN, qDrop, qIfS, qFreeze, qApp, onOwnL, qAsg, gqName, gqNil, gqCons, gqTup, qM1, qRng1, qEnum, qAny, asI, asL, itemsD, qPart, qNoPart, qCut, cutD, qCutL, cutLD, addD, subD, mulD, modD, fdivD, eqD, neD, eqS, onB, ltD, leD, gtD, geD, isND, lenD, intD, strD, ordD, listD, tupleD, ixD, PEnds.at, wipeC, qYes,
    List.map_cons, List.map_nil, List.replicate, List.cons_append, List.nil_append, List.append_assoc, List.getElem?_cons_zero, List.getElem?_cons_succ, List.set_cons_zero, List.set_cons_succ, List.length_cons, List.length_nil, Option.map_some, if_true, if_false, Bool.not_true, Bool.not_false, decide_eq_true_eq, Bool.not_eq_true', decide_eq_false_iff_not, Nat.reduceAdd, Nat.reduceSub, List.replicate_succ, List.replicate_zero, true_and, and_true, reduceCtorEq, isStr, qPutS, putS, powD, CPow, qPut, onOwn, setD, qPutP, onPtr, qDelP, delD, qPutF, setF, qProp, qMeth, qMake, isObj, fldD, minD, maxD, qChain, revD, lrevD, isiD, tyD, qOrT, qAndT, onTru, truD, qJoined, qjCons, qjNil, fmtD, fmt5D, D.int.injEq, D.str.injEq, D.lst.injEq, D.tup.injEq, D.bl.injEq, false_implies, true_implies, ne_eq, not_false_eq_true, not_true_eq_false, forall_const, implies_true, false_and, and_false, exists_eq_left, exists_eq_left', Int.reduceEq, Int.reduceLT, Int.reduceNe, Int.reduceLE, or_false, false_or, or_true, true_or, qLc, qFor, qWhile, allD, sortAD, wipeC, isiS, List.any_cons, List.any_nil, Bool.or_false, Bool.or_true, Bool.true_or, Bool.false_or, Bool.and_self, Bool.false_and, Bool.and_false, Bool.and_true, Bool.true_and, String.reduceBEq, Bool.false_eq_true, Bool.true_eq_false]
        have bb := fmod_pos (a := st + (i : Int)) (m := 26) (by decide)
        have e1 : atI Lt.cps.toList ((st + (i : Int)).fmod 26) = some (97 + (st.toNat + i) % 26) := by
          show atI (tl Lt) _ = _
          have hl : (tl Lt).length = 26 := by rw [tL, List.length_map, List.length_range]
          rw [atI_pos bb.1 (by omega), tL, List.getElem?_map, List.getElem?_range (by omega), fmod_emod (by decide)]
          show some (97 + _) = _
          congr 2
          omega
        refine ⟨by rw [tl_len, tL, sizeLine_eq]; simp, _, e1, ?_, .fro (.int (i : Int)), ?_⟩
        · rw [List.length_map, List.length_map, List.length_range, sizeLine_eq]; omega
        · rw [List.range_succ, List.map_append, List.map_append]; rfl
      · rintro ρ' h' ⟨rfl, c, rfl⟩
        rw [rng_len]
        simp only [startC, qVar, qPeek, qC, qBin, qUn, qNil, qCons, qTup, qLst, qCall, asB, qTest, qAnd, qOr, qNot, qAndV, qOrV, qNotV, qIfE, deref, qNext, qSeq, qSet, qSetN, qSetP, qRet, qRetN, qDrop, qIfS, qFreeze, qApp, onOwnL, qAsg, gqName, gqNil, gqCons, gqTup, qM1, qRng1, qEnum, qAny, asI, asL, itemsD, qPart, qNoPart, qCut, cutD, qCutL, cutLD, addD, subD, mulD, modD, fdivD, eqD, neD, eqS, onB, ltD, leD, gtD, geD, isND, lenD, intD, strD, ordD, listD, tupleD, ixD, PEnds.at, wipeC, qYes,
    List.map_cons, List.map_nil, List.replicate, List.cons_append, List.nil_append, List.append_assoc, List.getElem?_cons_zero, List.getElem?_cons_succ, List.set_cons_zero, List.set_cons_succ, List.length_cons, List.length_nil, Option.map_some, if_true, if_false, Bool.not_true, Bool.not_false, decide_eq_true_eq, Bool.not_eq_true', decide_eq_false_iff_not, Nat.reduceAdd, Nat.reduceSub, List.replicate_succ, List.replicate_zero, true_and, and_true, reduceCtorEq, isStr, qPutS, putS, powD, CPow, qPut, onOwn, setD, qPutP, onPtr, qDelP, delD, qPutF, setF, qProp, qMeth, qMake, isObj, fldD, minD, maxD, qChain, revD, lrevD, isiD, tyD, qOrT, qAndT, onTru, truD, qJoined, qjCons, qjNil, fmtD, fmt5D, D.int.injEq, D.str.injEq, D.lst.injEq, D.tup.injEq, D.bl.injEq, false_implies, true_implies, ne_eq, not_false_eq_true, not_true_eq_false, forall_const, implies_true, false_and, and_false, exists_eq_left, exists_eq_left', Int.reduceEq, Int.reduceLT, Int.reduceNe, Int.reduceLE, or_false, false_or, or_true, true_or, qLc, qFor, qWhile, allD, sortAD, wipeC, isiS, List.any_cons, List.any_nil, Bool.or_false, Bool.or_true, Bool.true_or, Bool.false_or, Bool.and_self, Bool.false_and, Bool.and_false, Bool.and_true, Bool.true_and, String.reduceBEq, Bool.false_eq_true, Bool.true_eq_false]
        refine names_end (by rw [List.length_map, List.length_range]) h1 (nodup_range_map fun i j hi hj e => ?_) (fun s hs => ?_) hQ
        · have e := congrArg tl e
          simp only [tl] at e
          have : 97 + (st.toNat + i) % 26 = 97 + (st.toNat + j) % 26 := by simpa using e
          omega
        · obtain ⟨i, _, rfl⟩ := List.mem_map.mp hs
          exact nameB_of (l := []) (lt_al (List.mem_map.mpr ⟨(st.toNat + i) % 26, List.mem_range.mpr (by omega), rfl⟩)) (by simp) (fun _ z => by cases z)
    · exact C
  · exact C
theorem v__law_names (ds : List D) (h : PHp) (Qp : D → PHp → Prop) (Ep : XP) : sp__law_names ds h Qp Ep → q__law_names (PE0 Qp Ep) (startC 14 ds) h := by
  rintro ⟨m, rfl, h0, h1, hQ⟩
  simp only [q__law_names, startC, qVar, qPeek, qC, qBin, qUn, qNil, qCons, qTup, qLst, qCall, asB, qTest, qAnd, qOr, qNot, qAndV, qOrV, qNotV, qIfE, deref, qNext, qSeq, qSet, qSetN, qSetP, qRet, qRetN, qDrop, qIfS, qFreeze, qApp, onOwnL, qAsg, gqName, gqNil, gqCons, gqTup, qM1, qRng1, qEnum, qAny, asI, asL, itemsD, qPart, qNoPart, qCut, cutD, qCutL, cutLD, addD, subD, mulD, modD, fdivD, eqD, neD, eqS, onB, ltD, leD, gtD, geD, isND, lenD, intD, strD, ordD, listD, tupleD, ixD, PEnds.at, wipeC, qYes,
    List.map_cons, List.map_nil, List.replicate, List.cons_append, List.nil_append, List.append_assoc, List.getElem?_cons_zero, List.getElem?_cons_succ, List.set_cons_zero, List.set_cons_succ, List.length_cons, List.length_nil, Option.map_some, if_true, if_false, Bool.not_true, Bool.not_false, decide_eq_true_eq, Bool.not_eq_true', decide_eq_false_iff_not, Nat.reduceAdd, Nat.reduceSub, List.replicate_succ, List.replicate_zero, true_and, and_true, reduceCtorEq, isStr, qPutS, putS, powD, CPow, qPut, onOwn, setD, qPutP, onPtr, qDelP, delD, qPutF, setF, qProp, qMeth, qMake, isObj, fldD, minD, maxD, qChain, revD, lrevD, isiD, tyD, qOrT, qAndT, onTru, truD, qJoined, qjCons, qjNil, fmtD, fmt5D, D.int.injEq, D.str.injEq, D.lst.injEq, D.tup.injEq, D.bl.injEq, false_implies, true_implies, ne_eq, not_false_eq_true, not_true_eq_false, forall_const, implies_true, false_and, and_false, exists_eq_left, exists_eq_left', Int.reduceEq, Int.reduceLT, Int.reduceNe, Int.reduceLE, or_false, false_or, or_true, true_or, qLc, qFor, qWhile, allD, sortAD, wipeC, isiS, List.any_cons, List.any_nil, Bool.or_false, Bool.or_true, Bool.true_or, Bool.false_or, Bool.and_self, Bool.false_and, Bool.and_false, Bool.and_true, Bool.true_and, String.reduceBEq, Bool.false_eq_true, Bool.true_eq_false]
  have tL : tl (Str.ofString "abcdefghijklmnopqrstuvwxyz") = (List.range 26).map (97 + ·) := by decide +kernel
  have tS : tl (Str.ofString "0123456789" ++ Str.ofString "abcdefghijklmnopqrstuvwxyz") = (List.range 36).map sg := by rw [tl_cat]; decide +kernel
  refine ⟨by decide +kernel, ?_⟩
  generalize Str.ofString "0123456789" ++ Str.ofString "abcdefghijklmnopqrstuvwxyz" = Sg at tS ⊢
  generalize Str.ofString "abcdefghijklmnopqrstuvwxyz" = Lt at tL ⊢
  refine ⟨_, rfl, by decide, fun r r0 r1 => ?_⟩
  have sl : (tl Sg).length = 36 := by rw [tS, List.length_map, List.length_range]
  have sL : (tl Lt).length = 26 := by rw [tL, List.length_map, List.length_range]
  refine pick_str (by omega) (by omega) fun f hf => ?_
  have hf : isLc f = true := lt_al (by rw [← tL]; exact hf)
  have B := names_B tL tS (m := m) (r := r) hf (a := .no) (b := .no) (h := h) (Qp := Qp) (Ep := Ep) h0 h1 hQ
  simp only [startC, qVar, qPeek, qC, qBin, qUn, qNil, qCons, qTup, qLst, qCall, asB, qTest, qAnd, qOr, qNot, qAndV, qOrV, qNotV, qIfE, deref, qNext, qSeq, qSet, qSetN, qSetP, qRet, qRetN, qDrop, qIfS, qFreeze, qApp, onOwnL, qAsg, gqName, gqNil, gqCons, gqTup, qM1, qRng1, qEnum, qAny, asI, asL, itemsD, qPart, qNoPart, qCut, cutD, qCutL, cutLD, addD, subD, mulD, modD, fdivD, eqD, neD, eqS, onB, ltD, leD, gtD, geD, isND, lenD, intD, strD, ordD, listD, tupleD, ixD, PEnds.at, wipeC, qYes,
    List.map_cons, List.map_nil, List.replicate, List.cons_append, List.nil_append, List.append_assoc, List.getElem?_cons_zero, List.getElem?_cons_succ, List.set_cons_zero, List.set_cons_succ, List.length_cons, List.length_nil, Option.map_some, if_true, if_false, Bool.not_true, Bool.not_false, decide_eq_true_eq, Bool.not_eq_true', decide_eq_false_iff_not, Nat.reduceAdd, Nat.reduceSub, List.replicate_succ, List.replicate_zero, true_and, and_true, reduceCtorEq, isStr, qPutS, putS, powD, CPow, qPut, onOwn, setD, qPutP, onPtr, qDelP, delD, qPutF, setF, qProp, qMeth, qMake, isObj, fldD, minD, maxD, qChain, revD, lrevD, isiD, tyD, qOrT, qAndT, onTru, truD, qJoined, qjCons, qjNil, fmtD, fmt5D, D.int.injEq, D.str.injEq, D.lst.injEq, D.tup.injEq, D.bl.injEq, false_implies, true_implies, ne_eq, not_false_eq_true, not_true_eq_false, forall_const, implies_true, false_and, and_false, exists_eq_left, exists_eq_left', Int.reduceEq, Int.reduceLT, Int.reduceNe, Int.reduceLE, or_false, false_or, or_true, true_or, qLc, qFor, qWhile, allD, sortAD, wipeC, isiS, List.any_cons, List.any_nil, Bool.or_false, Bool.or_true, Bool.true_or, Bool.false_or, Bool.and_self, Bool.false_and, Bool.and_false, Bool.and_true, Bool.true_and, String.reduceBEq, Bool.false_eq_true, Bool.true_eq_false]
  split
  · split
    · refine pick_str (by omega) (by omega) fun x hx => ?_
      have hx : al x = true := sg_al (by rw [← tS]; exact hx)
      refine ⟨by omega, by omega, forK_i (fun i ρ' h' => h' = h ∧ ∃ (c : Cell), ρ' = [.fro .sto, .fro (.int m), .fro (.str Lt), .fro (.str Sg), .fro (.int r), .fro (.str ⟨#[f]⟩), .own (.lst (((List.range i).map fun (j : Nat) => (⟨(f :: List.replicate j x).toArray⟩ : Str)).map D.str)), .fro (.str ⟨#[x]⟩), c, .no, .no, .no, .no, .no]) ⟨rfl, _, rfl⟩ ?_ ?_⟩
      · rintro i d ρ' h' hd ⟨rfl, c, rfl⟩
        obtain ⟨rfl, hi⟩ := rng_get hd
        simp only [startC, qVar, qPeek, qC, qBin, qUn, qNil, qCons, qTup, qLst, qCall, asB, qTest, qAnd, qOr, qNot, qAndV, qOrV, qNotV, qIfE, deref, qNext, qSeq, qSet, qSetN, qSetP, qRet, qRetN, qDrop, qIfS, qFreeze, qApp, onOwnL, qAsg, gqName, gqNil, gqCons, gqTup, qM1, qRng1, qEnum, qAny, asI, asL, itemsD, qPart, qNoPart, qCut, cutD, qCutL, cutLD, addD, subD, mulD, modD, fdivD, eqD, neD, eqS, onB, ltD, leD, gtD, geD, isND, lenD, intD, strD, ordD, listD, tupleD, ixD, PEnds.at, wipeC, qYes,
    List.map_cons, List.map_nil, List.replicate, List.cons_append, List.nil_append, List.append_assoc, List.getElem?_cons_zero, List.getElem?_cons_succ, List.set_cons_zero, List.set_cons_succ, List.length_cons, List.length_nil, Option.map_some, if_true, if_false, Bool.not_true, Bool.not_false, decide_eq_true_eq, Bool.not_eq_true', decide_eq_false_iff_not, Nat.reduceAdd, Nat.reduceSub, List.replicate_succ, List.replicate_zero, true_and, and_true, reduceCtorEq, isStr, qPutS, putS, powD, CPow, qPut, onOwn, setD, qPutP, onPtr, qDelP, delD, qPutF, setF, qProp, qMeth, qMake, isObj, fldD, minD, maxD, qChain, revD, lrevD, isiD, tyD, qOrT, qAndT, onTru, truD, qJoined, qjCons, qjNil, fmtD, fmt5D, D.int.injEq, D.str.injEq, D.lst.injEq, D.tup.injEq, D.bl.injEq, false_implies, true_implies, ne_eq, not_false_eq_true, not_true_eq_false, forall_const, implies_true, false_and, and_false, exists_eq_left, exists_eq_left', Int.reduceEq, Int.reduceLT, Int.reduceNe, Int.reduceLE, or_false, false_or, or_true, true_or, qLc, qFor, qWhile, allD, sortAD, wipeC, isiS, List.any_cons, List.any_nil, Bool.or_false, Bool.or_true, Bool.true_or, Bool.false_or, Bool.and_self, Bool.false_and, Bool.and_false, Bool.and_true, Bool.true_and, String.reduceBEq, Bool.false_eq_true, Bool.true_eq_false]
        rw [rpt_one1]
        rw [Int.toNat_natCast]
        have e1 : (⟨#[f]⟩ : Str) ++ ⟨(List.replicate i x).toArray⟩ = ⟨(f :: List.replicate i x).toArray⟩ := tl_ext (by rw [tl_cat]; rfl)
        rw [e1]
        refine ⟨by omega, by omega, by show 1 * _ ≤ _; omega, by show 1 < _; decide, ?_, ?_, .fro (.int (i : Int)), ?_⟩
        · rw [tl_len, tl_len, sizeLine_eq]
          simp [tl]
          omega
        · rw [List.length_map, List.length_map, List.length_range, sizeLine_eq]; omega
        · rw [List.range_succ, List.map_append, List.map_append]; rfl
      · rintro ρ' h' ⟨rfl, c, rfl⟩
        rw [rng_len]
        simp only [startC, qVar, qPeek, qC, qBin, qUn, qNil, qCons, qTup, qLst, qCall, asB, qTest, qAnd, qOr, qNot, qAndV, qOrV, qNotV, qIfE, deref, qNext, qSeq, qSet, qSetN, qSetP, qRet, qRetN, qDrop, qIfS, qFreeze, qApp, onOwnL, qAsg, gqName, gqNil, gqCons, gqTup, qM1, qRng1, qEnum, qAny, asI, asL, itemsD, qPart, qNoPart, qCut, cutD, qCutL, cutLD, addD, subD, mulD, modD, fdivD, eqD, neD, eqS, onB, ltD, leD, gtD, geD, isND, lenD, intD, strD, ordD, listD, tupleD, ixD, PEnds.at, wipeC, qYes,
    List.map_cons, List.map_nil, List.replicate, List.cons_append, List.nil_append, List.append_assoc, List.getElem?_cons_zero, List.getElem?_cons_succ, List.set_cons_zero, List.set_cons_succ, List.length_cons, List.length_nil, Option.map_some, if_true, if_false, Bool.not_true, Bool.not_false, decide_eq_true_eq, Bool.not_eq_true', decide_eq_false_iff_not, Nat.reduceAdd, Nat.reduceSub, List.replicate_succ, List.replicate_zero, true_and, and_true, reduceCtorEq, isStr, qPutS, putS, powD, CPow, qPut, onOwn, setD, qPutP, onPtr, qDelP, delD, qPutF, setF, qProp, qMeth, qMake, isObj, fldD, minD, maxD, qChain, revD, lrevD, isiD, tyD, qOrT, qAndT, onTru, truD, qJoined, qjCons, qjNil, fmtD, fmt5D, D.int.injEq, D.str.injEq, D.lst.injEq, D.tup.injEq, D.bl.injEq, false_implies, true_implies, ne_eq, not_false_eq_true, not_true_eq_false, forall_const, implies_true, false_and, and_false, exists_eq_left, exists_eq_left', Int.reduceEq, Int.reduceLT, Int.reduceNe, Int.reduceLE, or_false, false_or, or_true, true_or, qLc, qFor, qWhile, allD, sortAD, wipeC, isiS, List.any_cons, List.any_nil, Bool.or_false, Bool.or_true, Bool.true_or, Bool.false_or, Bool.and_self, Bool.false_and, Bool.and_false, Bool.and_true, Bool.true_and, String.reduceBEq, Bool.false_eq_true, Bool.true_eq_false]
        refine names_end (by rw [List.length_map, List.length_range]) h1 (nodup_range_map fun i j hi hj e => ?_) (fun s hs => ?_) hQ
        · have e := congrArg (fun z => (tl z).length) e
          simpa [tl] using e
        · obtain ⟨i, hi, rfl⟩ := List.mem_map.mp hs
          have := List.mem_range.mp hi
          exact nameB_of hf (by rw [List.length_replicate]; omega) (fun y hy => by rw [List.eq_of_mem_replicate hy]; exact hx)
    · exact B
  · exact B
theorem c__law_names (G : GE K mg) : Cal P w K mg base "_law_names" ["_law_store_here", "_law_many"] 3 sp__law_names :=
  cal_of G.f__law_names sc__law_names (fun _ _ F => F.bindsN fun _ _ _ _ _ _ us hl => match us, hl with | [_, _], _ => rfl) (fun _ _ _ _ ⟨_, e, _⟩ => by rw [e]; rfl) (w__law_names G (c__law_shuffled G) (c__law_pick G) (c__law_take G)) v__law_names
end Pu.L70
set_option Elab.async false
set_option linter.all false
set_option maxRecDepth 100000
set_option maxHeartbeats 4000000
set_option autoImplicit false
namespace Pu.L70
open PySem PySem.Spec PyProof.Rows L2
/-- a deed: a put of a line between two houses, a take -/
inductive Deed where
  | put (l a b : Str)
  | take (l : Str)
def Deed.row : Deed → List Str
  | .put l a b => [Str.ofString "put", l, a, b]
  | .take l => [Str.ofString "take", l]
def Deed.d (e : Deed) : D := .tup (e.row.map D.str)
def Deed.swap : Deed → List Str
  | .put l a b => [Str.ofString "put", l, b, a]
  | .take l => [Str.ofString "take", l]
/-- as it is handed in: a list or a tuple, the houses perhaps the other way about -/
def Deed.handed (e : Deed) (x : D) : Prop := x = .lst (e.row.map D.str) ∨ x = .tup (e.row.map D.str) ∨ x = .lst (e.swap.map D.str) ∨ x = .tup (e.swap.map D.str)
end Pu.L70
set_option Elab.async false
set_option linter.all false
set_option maxRecDepth 100000
set_option maxHeartbeats 4000000
set_option autoImplicit false
namespace Pu.L70
open PySem PySem.Spec PyProof.Rows L2
variable {P : Program} {w : World} {K : PySem.W.Frag} {mg : Str → Option Value} {base : Heap}
def sp__law_houses : Spec := fun ds h Q Ex => ∃ (m : Int), ds = [.sto, .int m] ∧ 2 ≤ m ∧ m ≤ 40 ∧ ∀ ss : List Str, ss.length ≤ m.toNat → ss.Nodup → (∀ s ∈ ss, nameB s = true) → Q (.lst (ss.map D.str)) h
theorem sc__law_houses : FnScope ["_law_store_here", "_law_most", "_law_many", "_law_style"] ["_law_store_here", "_law_most"] (defScope s__law_houses) := ⟨rfl, rfl, rfl, by decide +kernel, rfl, by decide +kernel, by decide +kernel⟩
def q__law_houses : RS := (qSeq (qSet 2 (qCall sp__law_between (qCons (qVar 0) (qCons (qC (.int 2)) (qCons (qC (.int 9)) qNil)))))
  (qSeq (qSet 3 (qCall sp__law_take (qCons (qVar 0) (qCons (qC (.int 12)) qNil))))
  (qSeq (qIfS (qTest (qBin ltD (qPeek 3) (qC (.int 2)))) (qSet 2 (qVar 3)) qNext)
  (qSeq (qIfS (qOr (qTest (qBin eqD (qPeek 3) (qC (.int 2)))) (qTest (qBin gtD (qPeek 2) (qPeek 1)))) (qSet 2 (qVar 1)) qNext)
  (qRet (qCall sp__law_names (qCons (qVar 0) (qCons (qVar 2) qNil))))))))
theorem w__law_houses (G : GE K mg) (C__law_between : Cal P w K mg base "_law_between" ["_law_store_here", "_law_least", "_law_most"] 2 sp__law_between) (C__law_take : Cal P w K mg base "_law_take" ["_law_store_here", "_law_many"] 1 sp__law_take) (C__law_names : Cal P w K mg base "_law_names" ["_law_store_here", "_law_many"] 3 sp__law_names) : WkOk P w K mg base ["_law_store_here", "_law_most", "_law_many", "_law_style"] "_law_houses" s__law_houses 3 q__law_houses := fun f cdv A outer s H E hr tk => by
  have S := sc__law_houses
  unfold q__law_houses
  exact (qss_cons (qs_set 2 (qe_callC C__law_between hr tk (qa_cons (qe_var 0) (qa_cons qe_int (qa_cons qe_int qa_nil)))) S.nd)
    (qss_cons (qs_set 3 (qe_callC C__law_take hr tk (qa_cons (qe_var 0) (qa_cons qe_int qa_nil))) S.nd)
    (qss_cons (qs_if (qt_cmp op_ltAll ops_lt (qk_var 3) (qe_int).k (by rfl)) (qss_one (qs_set 2 (qe_var 3) S.nd)) qss_nil)
    (qss_cons (qs_if (qw_or (qt_cmp op_eq ops_eq (qk_var 3) (qe_int).k (by rfl)) (qw_or1 (qt_cmp op_gtAll ops_gt (qk_var 2) (qk_var 1) (by rfl)))).t (qss_one (qs_set 2 (qe_var 1) S.nd)) qss_nil)
    (qss_one (qs_ret (qe_callC C__law_names hr tk (qa_cons (qe_var 0) (qa_cons (qe_var 2) qa_nil)))))))))
theorem v__law_houses (ds : List D) (h : PHp) (Qp : D → PHp → Prop) (Ep : XP) : sp__law_houses ds h Qp Ep → q__law_houses (PE0 Qp Ep) (startC 4 ds) h := by
  rintro ⟨m, rfl, h0, h1, hQ⟩
  simp only [q__law_houses, startC, qVar, qPeek, qC, qBin, qUn, qNil, qCons, qTup, qLst, qCall, asB, qTest, qAnd, qOr, qNot, qAndV, qOrV, qNotV, qIfE, deref, qNext, qSeq, qSet, qSetN, qSetP, qRet, qRetN, qDrop, qIfS, qFreeze, qApp, onOwnL, qAsg, gqName, gqNil, gqCons, gqTup, qM1, qRng1, qEnum, qAny, asI, asL, itemsD, qPart, qNoPart, qCut, cutD, qCutL, cutLD, addD, subD, mulD, modD, fdivD, eqD, neD, eqS, onB, ltD, leD, gtD, geD, isND, lenD, intD, strD, ordD, listD, tupleD, ixD, PEnds.at, wipeC, qYes,
    List.map_cons, List.map_nil, List.replicate, List.cons_append, List.nil_append, List.append_assoc, List.getElem?_cons_zero, List.getElem?_cons_succ, List.set_cons_zero, List.set_cons_succ, List.length_cons, List.length_nil, Option.map_some, if_true, if_false, Bool.not_true, Bool.not_false, decide_eq_true_eq, Bool.not_eq_true', decide_eq_false_iff_not, Nat.reduceAdd, Nat.reduceSub, List.replicate_succ, List.replicate_zero, true_and, and_true, reduceCtorEq, isStr, qPutS, putS, powD, CPow, qPut, onOwn, setD, qPutP, onPtr, qDelP, delD, qPutF, setF, qProp, qMeth, qMake, isObj, fldD, minD, maxD, qChain, revD, lrevD, isiD, tyD, qOrT, qAndT, onTru, truD, qJoined, qjCons, qjNil, fmtD, fmt5D, D.int.injEq, D.str.injEq, D.lst.injEq, D.tup.injEq, D.bl.injEq, false_implies, true_implies, ne_eq, not_false_eq_true, not_true_eq_false, forall_const, implies_true, false_and, and_false, exists_eq_left, exists_eq_left', Int.reduceEq, Int.reduceLT, Int.reduceNe, Int.reduceLE, or_false, false_or, or_true, true_or, qLc, qFor, qWhile, allD, sortAD, wipeC, isiS, List.any_cons, List.any_nil, Bool.or_false, Bool.or_true, Bool.true_or, Bool.false_or, Bool.and_self, Bool.false_and, Bool.and_false, Bool.and_true, Bool.true_and, String.reduceBEq, Bool.false_eq_true, Bool.true_eq_false]
  have key : ∀ (k : Int) (Ex : XP), 0 ≤ k → k ≤ m → sp__law_names [.sto, .int k] h Qp Ex := fun k Ex k0 k1 => ⟨_, rfl, k0, by omega, fun ss hl hn hb => hQ ss (by omega) hn hb⟩
  refine ⟨_, _, rfl, by omega, fun n n0 n1 => ?_⟩
  refine ⟨_, rfl, by decide, fun r r0 r1 => ?_⟩
  simp only [startC, qVar, qPeek, qC, qBin, qUn, qNil, qCons, qTup, qLst, qCall, asB, qTest, qAnd, qOr, qNot, qAndV, qOrV, qNotV, qIfE, deref, qNext, qSeq, qSet, qSetN, qSetP, qRet, qRetN, qDrop, qIfS, qFreeze, qApp, onOwnL, qAsg, gqName, gqNil, gqCons, gqTup, qM1, qRng1, qEnum, qAny, asI, asL, itemsD, qPart, qNoPart, qCut, cutD, qCutL, cutLD, addD, subD, mulD, modD, fdivD, eqD, neD, eqS, onB, ltD, leD, gtD, geD, isND, lenD, intD, strD, ordD, listD, tupleD, ixD, PEnds.at, wipeC, qYes,
    List.map_cons, List.map_nil, List.replicate, List.cons_append, List.nil_append, List.append_assoc, List.getElem?_cons_zero, List.getElem?_cons_succ, List.set_cons_zero, List.set_cons_succ, List.length_cons, List.length_nil, Option.map_some, if_true, if_false, Bool.not_true, Bool.not_false, decide_eq_true_eq, Bool.not_eq_true', decide_eq_false_iff_not, Nat.reduceAdd, Nat.reduceSub, List.replicate_succ, List.replicate_zero, true_and, and_true, reduceCtorEq, isStr, qPutS, putS, powD, CPow, qPut, onOwn, setD, qPutP, onPtr, qDelP, delD, qPutF, setF, qProp, qMeth, qMake, isObj, fldD, minD, maxD, qChain, revD, lrevD, isiD, tyD, qOrT, qAndT, onTru, truD, qJoined, qjCons, qjNil, fmtD, fmt5D, D.int.injEq, D.str.injEq, D.lst.injEq, D.tup.injEq, D.bl.injEq, false_implies, true_implies, ne_eq, not_false_eq_true, not_true_eq_false, forall_const, implies_true, false_and, and_false, exists_eq_left, exists_eq_left', Int.reduceEq, Int.reduceLT, Int.reduceNe, Int.reduceLE, or_false, false_or, or_true, true_or, qLc, qFor, qWhile, allD, sortAD, wipeC, isiS, List.any_cons, List.any_nil, Bool.or_false, Bool.or_true, Bool.true_or, Bool.false_or, Bool.and_self, Bool.false_and, Bool.and_false, Bool.and_true, Bool.true_and, String.reduceBEq, Bool.false_eq_true, Bool.true_eq_false]
  repeat' (first | exact key _ _ (by omega) (by omega) | split)
theorem c__law_houses (G : GE K mg) : Cal P w K mg base "_law_houses" ["_law_store_here", "_law_most"] 4 sp__law_houses :=
  cal_of G.f__law_houses sc__law_houses (fun _ _ F => F.bindsN fun _ _ _ _ _ _ us hl => match us, hl with | [_, _], _ => rfl) (fun _ _ _ _ ⟨_, e, _⟩ => by rw [e]; rfl) (w__law_houses G (c__law_between G) (c__law_take G) (c__law_names G)) v__law_houses
end Pu.L70
set_option Elab.async false
set_option linter.all false
set_option maxRecDepth 100000
set_option maxHeartbeats 4000000
set_option autoImplicit false
namespace Pu.L70
open PySem PySem.Spec PyProof.Rows L2
variable {P : Program} {w : World} {K : PySem.W.Frag} {mg : Str → Option Value} {base : Heap}
def sp__law_handed_deeds : Spec := fun ds h Q Ex => ∃ (es : List Deed), ds = [.sto, .lst (es.map Deed.d)] ∧ es.length ≤ 1000 ∧ ∀ hs : List D, hs.length = es.length → (∀ (i : Nat) (e : Deed) (x : D), es[i]? = some e → hs[i]? = some x → Deed.handed e x) → Q (.lst hs) h
theorem sc__law_handed_deeds : FnScope ["_law_store_here", "_law_deeds", "_law_handed", "_law_deed", "_law_row"] ["_law_store_here", "_law_deeds"] (defScope s__law_handed_deeds) := ⟨rfl, rfl, rfl, by decide +kernel, rfl, by decide +kernel, by decide +kernel⟩
def q__law_handed_deeds : RS := (qSeq (qSetN 2 (qLst qNil))
  (qSeq (qFor (qAny (qVar 1)) (gqName 3) (qSeq (qSet 4 (qUn listD (qPeek 3)))
  (qSeq (qIfS (qAnd (qTest (qBin eqD (qUn lenD (qPeek 4)) (qC (.int 4)))) (qTest (qBin eqD (qCall sp__law_take (qCons (qVar 0) (qCons (qC (.int 2)) qNil))) (qC (.int 0))))) (qSet 4 (qLst (qCons (qBin ixD (qPeek 3) (qC (.int 0))) (qCons (qBin ixD (qPeek 3) (qC (.int 1))) (qCons (qBin ixD (qPeek 3) (qC (.int 3))) (qCons (qBin ixD (qPeek 3) (qC (.int 2))) qNil)))))) qNext)
  (qIfS (qTest (qBin eqD (qCall sp__law_take (qCons (qVar 0) (qCons (qC (.int 2)) qNil))) (qC (.int 0)))) (qApp 2 (qVar 4)) (qApp 2 (qUn tupleD (qPeek 4)))))))
  (qFreeze 2 (qRet (qVar 2)))))
theorem w__law_handed_deeds (G : GE K mg) (C__law_take : Cal P w K mg base "_law_take" ["_law_store_here", "_law_many"] 1 sp__law_take) : WkOk P w K mg base ["_law_store_here", "_law_deeds", "_law_handed", "_law_deed", "_law_row"] "_law_handed_deeds" s__law_handed_deeds 1 q__law_handed_deeds := fun f cdv A outer s H E hr tk => by
  have S := sc__law_handed_deeds
  unfold q__law_handed_deeds
  exact (qss_cons (qs_setN 2 (qn_lst qa_nil) S.nd)
    (qss_cons (qs_for (passes_of rfl) rfl (qi_any (qe_var 1)) (qg_name 3 S.nd) (qss_cons (qs_set 4 ((qn_t1 call_list_of cn_list G.n_list (qk_var 3))).e S.nd)
    (qss_cons (qs_if (qw_and (qt_cmp op_eq ops_eq (qe_b1 call_lenAll cs_len G.n_len (qk_var 4)).k (qe_int).k (by rfl)) (qw_and1 (qt_cmp op_eq ops_eq (qe_callC C__law_take hr tk (qa_cons (qe_var 0) (qa_cons qe_int qa_nil))).k (qe_int).k (by rfl)))).t (qss_one (qs_set 4 ((qn_lst (qa_cons (qe_ix (ix_all hr.u1) ops_ix (qk_var 3) (qe_int).k) (qa_cons (qe_ix (ix_all hr.u1) ops_ix (qk_var 3) (qe_int).k) (qa_cons (qe_ix (ix_all hr.u1) ops_ix (qk_var 3) (qe_int).k) (qa_cons (qe_ix (ix_all hr.u1) ops_ix (qk_var 3) (qe_int).k) qa_nil)))))).e S.nd)) qss_nil)
    (qss_one (qs_if (qt_cmp op_eq ops_eq (qe_callC C__law_take hr tk (qa_cons (qe_var 0) (qa_cons qe_int qa_nil))).k (qe_int).k (by rfl)) (qss_one (qs_app 2 (qe_var 4))) (qss_one (qs_app 2 (qe_t1 call_tuple_of cs_tuple G.n_tuple (qk_var 4)))))))))
    (qss_freeze 2 (qss_one (qs_ret (qe_var 2))))))
theorem v__law_handed_deeds (ds : List D) (h : PHp) (Qp : D → PHp → Prop) (Ep : XP) : sp__law_handed_deeds ds h Qp Ep → q__law_handed_deeds (PE0 Qp Ep) (startC 5 ds) h := by
  rintro ⟨es, rfl, hl, hQ⟩
  simp only [q__law_handed_deeds, startC, qVar, qPeek, qC, qBin, qUn, qNil, qCons, qTup, qLst, qCall, asB, qTest, qAnd, qOr, qNot, qAndV, qOrV, qNotV, qIfE, deref, qNext, qSeq, qSet, qSetN, qSetP, qRet, qRetN, qDrop, qIfS, qFreeze, qApp, onOwnL, qAsg, gqName, gqNil, gqCons, gqTup, qM1, qRng1, qEnum, qAny, asI, asL, itemsD, qPart, qNoPart, qCut, cutD, qCutL, cutLD, addD, subD, mulD, modD, fdivD, eqD, neD, eqS, onB, ltD, leD, gtD, geD, isND, lenD, intD, strD, ordD, listD, tupleD, ixD, PEnds.at, wipeC, qYes,
    List.map_cons, List.map_nil, List.replicate, List.cons_append, List.nil_append, List.append_assoc, List.getElem?_cons_zero, List.getElem?_cons_succ, List.set_cons_zero, List.set_cons_succ, List.length_cons, List.length_nil, Option.map_some, if_true, if_false, Bool.not_true, Bool.not_false, decide_eq_true_eq, Bool.not_eq_true', decide_eq_false_iff_not, Nat.reduceAdd, Nat.reduceSub, List.replicate_succ, List.replicate_zero, true_and, and_true, reduceCtorEq, isStr, qPutS, putS, powD, CPow, qPut, onOwn, setD, qPutP, onPtr, qDelP, delD, qPutF, setF, qProp, qMeth, qMake, isObj, fldD, minD, maxD, qChain, revD, lrevD, isiD, tyD, qOrT, qAndT, onTru, truD, qJoined, qjCons, qjNil, fmtD, fmt5D, D.int.injEq, D.str.injEq, D.lst.injEq, D.tup.injEq, D.bl.injEq, false_implies, true_implies, ne_eq, not_false_eq_true, not_true_eq_false, forall_const, implies_true, false_and, and_false, exists_eq_left, exists_eq_left', Int.reduceEq, Int.reduceLT, Int.reduceNe, Int.reduceLE, or_false, false_or, or_true, true_or, qLc, qFor, qWhile, allD, sortAD, wipeC, isiS, List.any_cons, List.any_nil, Bool.or_false, Bool.or_true, Bool.true_or, Bool.false_or, Bool.and_self, Bool.false_and, Bool.and_false, Bool.and_true, Bool.true_and, String.reduceBEq, Bool.false_eq_true, Bool.true_eq_false]
  refine forK_i (fun i ρ' h' => h' = h ∧ ∃ hs a b, hs.length = i ∧ (∀ (i : Nat) (e : Deed) (x : D), es[i]? = some e → hs[i]? = some x → Deed.handed e x) ∧ ρ' = [.fro .sto, .fro (.lst (es.map Deed.d)), .own (.lst hs), a, b]) ⟨rfl, [], _, _, rfl, (fun _ _ _ _ z => by simp at z), rfl⟩ ?_ ?_
  · rintro i d ρ' h' hd ⟨rfl, hs, a, b, hlen, hh, rfl⟩
    obtain ⟨e, he, rfl⟩ := map_get hd
    have hi := get_lt he
    have fin : ∀ x, Deed.handed e x → ∀ (i : Nat) (e : Deed) (x' : D), es[i]? = some e → (hs ++ [x])[i]? = some x' → e.handed x' := fun x hx j e' x' h1 h2 => by
      rcases Nat.lt_or_ge j hs.length with hj | hj
      · rw [List.getElem?_append_left hj] at h2
        exact hh j e' x' h1 h2
      · have := get_lt h2
        rw [List.length_append, List.length_singleton] at this
        have : j = i := by omega
        subst this
        rw [List.getElem?_append_right hj, hlen, Nat.sub_self] at h2
        cases h2
        rw [he] at h1
        cases h1
        exact hx
    have hlt : hs.length < sizeLine := by rw [sizeLine_eq]; omega
    have lst : ∀ x, Deed.handed e x → ∀ y z, ∃ hs_1 a b, hs_1.length = i + 1 ∧ (∀ (i : Nat) (e : Deed) (x : D), es[i]? = some e → hs_1[i]? = some x → e.handed x) ∧ [Cell.fro .sto, .fro (.lst (es.map Deed.d)), .own (.lst (hs ++ [x])), .fro y, .fro z] = [.fro .sto, .fro (.lst (es.map Deed.d)), .own (.lst hs_1), a, b] := fun x hx y z => ⟨_, _, _, by simp [hlen], fin x hx, rfl⟩
    cases e with
    | take l =>
      simp only [Deed.d, Deed.row, startC, qVar, qPeek, qC, qBin, qUn, qNil, qCons, qTup, qLst, qCall, asB, qTest, qAnd, qOr, qNot, qAndV, qOrV, qNotV, qIfE, deref, qNext, qSeq, qSet, qSetN, qSetP, qRet, qRetN, qDrop, qIfS, qFreeze, qApp, onOwnL, qAsg, gqName, gqNil, gqCons, gqTup, qM1, qRng1, qEnum, qAny, asI, asL, itemsD, qPart, qNoPart, qCut, cutD, qCutL, cutLD, addD, subD, mulD, modD, fdivD, eqD, neD, eqS, onB, ltD, leD, gtD, geD, isND, lenD, intD, strD, ordD, listD, tupleD, ixD, PEnds.at, wipeC, qYes,
    List.map_cons, List.map_nil, List.replicate, List.cons_append, List.nil_append, List.append_assoc, List.getElem?_cons_zero, List.getElem?_cons_succ, List.set_cons_zero, List.set_cons_succ, List.length_cons, List.length_nil, Option.map_some, if_true, if_false, Bool.not_true, Bool.not_false, decide_eq_true_eq, Bool.not_eq_true', decide_eq_false_iff_not, Nat.reduceAdd, Nat.reduceSub, List.replicate_succ, List.replicate_zero, true_and, and_true, reduceCtorEq, isStr, qPutS, putS, powD, CPow, qPut, onOwn, setD, qPutP, onPtr, qDelP, delD, qPutF, setF, qProp, qMeth, qMake, isObj, fldD, minD, maxD, qChain, revD, lrevD, isiD, tyD, qOrT, qAndT, onTru, truD, qJoined, qjCons, qjNil, fmtD, fmt5D, D.int.injEq, D.str.injEq, D.lst.injEq, D.tup.injEq, D.bl.injEq, false_implies, true_implies, ne_eq, not_false_eq_true, not_true_eq_false, forall_const, implies_true, false_and, and_false, exists_eq_left, exists_eq_left', Int.reduceEq, Int.reduceLT, Int.reduceNe, Int.reduceLE, or_false, false_or, or_true, true_or, qLc, qFor, qWhile, allD, sortAD, wipeC, isiS, List.any_cons, List.any_nil, Bool.or_false, Bool.or_true, Bool.true_or, Bool.false_or, Bool.and_self, Bool.false_and, Bool.and_false, Bool.and_true, Bool.true_and, String.reduceBEq, Bool.false_eq_true, Bool.true_eq_false]
      rw [if_neg (by decide)]
      refine ⟨_, rfl, by decide, fun r r0 r1 => ?_⟩
      simp only [startC, qVar, qPeek, qC, qBin, qUn, qNil, qCons, qTup, qLst, qCall, asB, qTest, qAnd, qOr, qNot, qAndV, qOrV, qNotV, qIfE, deref, qNext, qSeq, qSet, qSetN, qSetP, qRet, qRetN, qDrop, qIfS, qFreeze, qApp, onOwnL, qAsg, gqName, gqNil, gqCons, gqTup, qM1, qRng1, qEnum, qAny, asI, asL, itemsD, qPart, qNoPart, qCut, cutD, qCutL, cutLD, addD, subD, mulD, modD, fdivD, eqD, neD, eqS, onB, ltD, leD, gtD, geD, isND, lenD, intD, strD, ordD, listD, tupleD, ixD, PEnds.at, wipeC, qYes,
    List.map_cons, List.map_nil, List.replicate, List.cons_append, List.nil_append, List.append_assoc, List.getElem?_cons_zero, List.getElem?_cons_succ, List.set_cons_zero, List.set_cons_succ, List.length_cons, List.length_nil, Option.map_some, if_true, if_false, Bool.not_true, Bool.not_false, decide_eq_true_eq, Bool.not_eq_true', decide_eq_false_iff_not, Nat.reduceAdd, Nat.reduceSub, List.replicate_succ, List.replicate_zero, true_and, and_true, reduceCtorEq, isStr, qPutS, putS, powD, CPow, qPut, onOwn, setD, qPutP, onPtr, qDelP, delD, qPutF, setF, qProp, qMeth, qMake, isObj, fldD, minD, maxD, qChain, revD, lrevD, isiD, tyD, qOrT, qAndT, onTru, truD, qJoined, qjCons, qjNil, fmtD, fmt5D, D.int.injEq, D.str.injEq, D.lst.injEq, D.tup.injEq, D.bl.injEq, false_implies, true_implies, ne_eq, not_false_eq_true, not_true_eq_false, forall_const, implies_true, false_and, and_false, exists_eq_left, exists_eq_left', Int.reduceEq, Int.reduceLT, Int.reduceNe, Int.reduceLE, or_false, false_or, or_true, true_or, qLc, qFor, qWhile, allD, sortAD, wipeC, isiS, List.any_cons, List.any_nil, Bool.or_false, Bool.or_true, Bool.true_or, Bool.false_or, Bool.and_self, Bool.false_and, Bool.and_false, Bool.and_true, Bool.true_and, String.reduceBEq, Bool.false_eq_true, Bool.true_eq_false]
      split
      · exact ⟨hlt, lst _ (.inl rfl) _ _⟩
      · exact ⟨hlt, lst _ (.inr (.inl rfl)) _ _⟩
    | put l a b =>
      simp only [Deed.d, Deed.row, startC, qVar, qPeek, qC, qBin, qUn, qNil, qCons, qTup, qLst, qCall, asB, qTest, qAnd, qOr, qNot, qAndV, qOrV, qNotV, qIfE, deref, qNext, qSeq, qSet, qSetN, qSetP, qRet, qRetN, qDrop, qIfS, qFreeze, qApp, onOwnL, qAsg, gqName, gqNil, gqCons, gqTup, qM1, qRng1, qEnum, qAny, asI, asL, itemsD, qPart, qNoPart, qCut, cutD, qCutL, cutLD, addD, subD, mulD, modD, fdivD, eqD, neD, eqS, onB, ltD, leD, gtD, geD, isND, lenD, intD, strD, ordD, listD, tupleD, ixD, PEnds.at, wipeC, qYes,
    List.map_cons, List.map_nil, List.replicate, List.cons_append, List.nil_append, List.append_assoc, List.getElem?_cons_zero, List.getElem?_cons_succ, List.set_cons_zero, List.set_cons_succ, List.length_cons, List.length_nil, Option.map_some, if_true, if_false, Bool.not_true, Bool.not_false, decide_eq_true_eq, Bool.not_eq_true', decide_eq_false_iff_not, Nat.reduceAdd, Nat.reduceSub, List.replicate_succ, List.replicate_zero, true_and, and_true, reduceCtorEq, isStr, qPutS, putS, powD, CPow, qPut, onOwn, setD, qPutP, onPtr, qDelP, delD, qPutF, setF, qProp, qMeth, qMake, isObj, fldD, minD, maxD, qChain, revD, lrevD, isiD, tyD, qOrT, qAndT, onTru, truD, qJoined, qjCons, qjNil, fmtD, fmt5D, D.int.injEq, D.str.injEq, D.lst.injEq, D.tup.injEq, D.bl.injEq, false_implies, true_implies, ne_eq, not_false_eq_true, not_true_eq_false, forall_const, implies_true, false_and, and_false, exists_eq_left, exists_eq_left', Int.reduceEq, Int.reduceLT, Int.reduceNe, Int.reduceLE, or_false, false_or, or_true, true_or, qLc, qFor, qWhile, allD, sortAD, wipeC, isiS, List.any_cons, List.any_nil, Bool.or_false, Bool.or_true, Bool.true_or, Bool.false_or, Bool.and_self, Bool.false_and, Bool.and_false, Bool.and_true, Bool.true_and, String.reduceBEq, Bool.false_eq_true, Bool.true_eq_false]
      rw [if_pos (by decide)]
      refine ⟨_, rfl, by decide, fun r r0 r1 => ?_⟩
      simp only [startC, qVar, qPeek, qC, qBin, qUn, qNil, qCons, qTup, qLst, qCall, asB, qTest, qAnd, qOr, qNot, qAndV, qOrV, qNotV, qIfE, deref, qNext, qSeq, qSet, qSetN, qSetP, qRet, qRetN, qDrop, qIfS, qFreeze, qApp, onOwnL, qAsg, gqName, gqNil, gqCons, gqTup, qM1, qRng1, qEnum, qAny, asI, asL, itemsD, qPart, qNoPart, qCut, cutD, qCutL, cutLD, addD, subD, mulD, modD, fdivD, eqD, neD, eqS, onB, ltD, leD, gtD, geD, isND, lenD, intD, strD, ordD, listD, tupleD, ixD, PEnds.at, wipeC, qYes,
    List.map_cons, List.map_nil, List.replicate, List.cons_append, List.nil_append, List.append_assoc, List.getElem?_cons_zero, List.getElem?_cons_succ, List.set_cons_zero, List.set_cons_succ, List.length_cons, List.length_nil, Option.map_some, if_true, if_false, Bool.not_true, Bool.not_false, decide_eq_true_eq, Bool.not_eq_true', decide_eq_false_iff_not, Nat.reduceAdd, Nat.reduceSub, List.replicate_succ, List.replicate_zero, true_and, and_true, reduceCtorEq, isStr, qPutS, putS, powD, CPow, qPut, onOwn, setD, qPutP, onPtr, qDelP, delD, qPutF, setF, qProp, qMeth, qMake, isObj, fldD, minD, maxD, qChain, revD, lrevD, isiD, tyD, qOrT, qAndT, onTru, truD, qJoined, qjCons, qjNil, fmtD, fmt5D, D.int.injEq, D.str.injEq, D.lst.injEq, D.tup.injEq, D.bl.injEq, false_implies, true_implies, ne_eq, not_false_eq_true, not_true_eq_false, forall_const, implies_true, false_and, and_false, exists_eq_left, exists_eq_left', Int.reduceEq, Int.reduceLT, Int.reduceNe, Int.reduceLE, or_false, false_or, or_true, true_or, qLc, qFor, qWhile, allD, sortAD, wipeC, isiS, List.any_cons, List.any_nil, Bool.or_false, Bool.or_true, Bool.true_or, Bool.false_or, Bool.and_self, Bool.false_and, Bool.and_false, Bool.and_true, Bool.true_and, String.reduceBEq, Bool.false_eq_true, Bool.true_eq_false]
      split
      · refine ⟨_, rfl, _, rfl, _, rfl, _, rfl, ?_⟩
        refine ⟨_, rfl, by decide, fun r r0 r1 => ?_⟩
        simp only [startC, qVar, qPeek, qC, qBin, qUn, qNil, qCons, qTup, qLst, qCall, asB, qTest, qAnd, qOr, qNot, qAndV, qOrV, qNotV, qIfE, deref, qNext, qSeq, qSet, qSetN, qSetP, qRet, qRetN, qDrop, qIfS, qFreeze, qApp, onOwnL, qAsg, gqName, gqNil, gqCons, gqTup, qM1, qRng1, qEnum, qAny, asI, asL, itemsD, qPart, qNoPart, qCut, cutD, qCutL, cutLD, addD, subD, mulD, modD, fdivD, eqD, neD, eqS, onB, ltD, leD, gtD, geD, isND, lenD, intD, strD, ordD, listD, tupleD, ixD, PEnds.at, wipeC, qYes,
    List.map_cons, List.map_nil, List.replicate, List.cons_append, List.nil_append, List.append_assoc, List.getElem?_cons_zero, List.getElem?_cons_succ, List.set_cons_zero, List.set_cons_succ, List.length_cons, List.length_nil, Option.map_some, if_true, if_false, Bool.not_true, Bool.not_false, decide_eq_true_eq, Bool.not_eq_true', decide_eq_false_iff_not, Nat.reduceAdd, Nat.reduceSub, List.replicate_succ, List.replicate_zero, true_and, and_true, reduceCtorEq, isStr, qPutS, putS, powD, CPow, qPut, onOwn, setD, qPutP, onPtr, qDelP, delD, qPutF, setF, qProp, qMeth, qMake, isObj, fldD, minD, maxD, qChain, revD, lrevD, isiD, tyD, qOrT, qAndT, onTru, truD, qJoined, qjCons, qjNil, fmtD, fmt5D, D.int.injEq, D.str.injEq, D.lst.injEq, D.tup.injEq, D.bl.injEq, false_implies, true_implies, ne_eq, not_false_eq_true, not_true_eq_false, forall_const, implies_true, false_and, and_false, exists_eq_left, exists_eq_left', Int.reduceEq, Int.reduceLT, Int.reduceNe, Int.reduceLE, or_false, false_or, or_true, true_or, qLc, qFor, qWhile, allD, sortAD, wipeC, isiS, List.any_cons, List.any_nil, Bool.or_false, Bool.or_true, Bool.true_or, Bool.false_or, Bool.and_self, Bool.false_and, Bool.and_false, Bool.and_true, Bool.true_and, String.reduceBEq, Bool.false_eq_true, Bool.true_eq_false]
        split
        · exact ⟨hlt, lst _ (.inr (.inr (.inl rfl))) _ _⟩
        · exact ⟨hlt, lst _ (.inr (.inr (.inr rfl))) _ _⟩
      · refine ⟨_, rfl, by decide, fun r r0 r1 => ?_⟩
        simp only [startC, qVar, qPeek, qC, qBin, qUn, qNil, qCons, qTup, qLst, qCall, asB, qTest, qAnd, qOr, qNot, qAndV, qOrV, qNotV, qIfE, deref, qNext, qSeq, qSet, qSetN, qSetP, qRet, qRetN, qDrop, qIfS, qFreeze, qApp, onOwnL, qAsg, gqName, gqNil, gqCons, gqTup, qM1, qRng1, qEnum, qAny, asI, asL, itemsD, qPart, qNoPart, qCut, cutD, qCutL, cutLD, addD, subD, mulD, modD, fdivD, eqD, neD, eqS, onB, ltD, leD, gtD, geD, isND, lenD, intD, strD, ordD, listD, tupleD, ixD, PEnds.at, wipeC, qYes,
    List.map_cons, List.map_nil, List.replicate, List.cons_append, List.nil_append, List.append_assoc, List.getElem?_cons_zero, List.getElem?_cons_succ, List.set_cons_zero, List.set_cons_succ, List.length_cons, List.length_nil, Option.map_some, if_true, if_false, Bool.not_true, Bool.not_false, decide_eq_true_eq, Bool.not_eq_true', decide_eq_false_iff_not, Nat.reduceAdd, Nat.reduceSub, List.replicate_succ, List.replicate_zero, true_and, and_true, reduceCtorEq, isStr, qPutS, putS, powD, CPow, qPut, onOwn, setD, qPutP, onPtr, qDelP, delD, qPutF, setF, qProp, qMeth, qMake, isObj, fldD, minD, maxD, qChain, revD, lrevD, isiD, tyD, qOrT, qAndT, onTru, truD, qJoined, qjCons, qjNil, fmtD, fmt5D, D.int.injEq, D.str.injEq, D.lst.injEq, D.tup.injEq, D.bl.injEq, false_implies, true_implies, ne_eq, not_false_eq_true, not_true_eq_false, forall_const, implies_true, false_and, and_false, exists_eq_left, exists_eq_left', Int.reduceEq, Int.reduceLT, Int.reduceNe, Int.reduceLE, or_false, false_or, or_true, true_or, qLc, qFor, qWhile, allD, sortAD, wipeC, isiS, List.any_cons, List.any_nil, Bool.or_false, Bool.or_true, Bool.true_or, Bool.false_or, Bool.and_self, Bool.false_and, Bool.and_false, Bool.and_true, Bool.true_and, String.reduceBEq, Bool.false_eq_true, Bool.true_eq_false]
        split
        · exact ⟨hlt, lst _ (.inl rfl) _ _⟩
        · exact ⟨hlt, lst _ (.inr (.inl rfl)) _ _⟩
  · rintro ρ' h' ⟨rfl, hs, a, b, hlen, hh, rfl⟩
    rw [List.length_map] at hlen
    simp only [startC, qVar, qPeek, qC, qBin, qUn, qNil, qCons, qTup, qLst, qCall, asB, qTest, qAnd, qOr, qNot, qAndV, qOrV, qNotV, qIfE, deref, qNext, qSeq, qSet, qSetN, qSetP, qRet, qRetN, qDrop, qIfS, qFreeze, qApp, onOwnL, qAsg, gqName, gqNil, gqCons, gqTup, qM1, qRng1, qEnum, qAny, asI, asL, itemsD, qPart, qNoPart, qCut, cutD, qCutL, cutLD, addD, subD, mulD, modD, fdivD, eqD, neD, eqS, onB, ltD, leD, gtD, geD, isND, lenD, intD, strD, ordD, listD, tupleD, ixD, PEnds.at, wipeC, qYes,
    List.map_cons, List.map_nil, List.replicate, List.cons_append, List.nil_append, List.append_assoc, List.getElem?_cons_zero, List.getElem?_cons_succ, List.set_cons_zero, List.set_cons_succ, List.length_cons, List.length_nil, Option.map_some, if_true, if_false, Bool.not_true, Bool.not_false, decide_eq_true_eq, Bool.not_eq_true', decide_eq_false_iff_not, Nat.reduceAdd, Nat.reduceSub, List.replicate_succ, List.replicate_zero, true_and, and_true, reduceCtorEq, isStr, qPutS, putS, powD, CPow, qPut, onOwn, setD, qPutP, onPtr, qDelP, delD, qPutF, setF, qProp, qMeth, qMake, isObj, fldD, minD, maxD, qChain, revD, lrevD, isiD, tyD, qOrT, qAndT, onTru, truD, qJoined, qjCons, qjNil, fmtD, fmt5D, D.int.injEq, D.str.injEq, D.lst.injEq, D.tup.injEq, D.bl.injEq, false_implies, true_implies, ne_eq, not_false_eq_true, not_true_eq_false, forall_const, implies_true, false_and, and_false, exists_eq_left, exists_eq_left', Int.reduceEq, Int.reduceLT, Int.reduceNe, Int.reduceLE, or_false, false_or, or_true, true_or, qLc, qFor, qWhile, allD, sortAD, wipeC, isiS, List.any_cons, List.any_nil, Bool.or_false, Bool.or_true, Bool.true_or, Bool.false_or, Bool.and_self, Bool.false_and, Bool.and_false, Bool.and_true, Bool.true_and, String.reduceBEq, Bool.false_eq_true, Bool.true_eq_false]
    exact hQ hs hlen hh
theorem c__law_handed_deeds (G : GE K mg) : Cal P w K mg base "_law_handed_deeds" ["_law_store_here", "_law_deeds"] 2 sp__law_handed_deeds :=
  cal_of G.f__law_handed_deeds sc__law_handed_deeds (fun _ _ F => F.bindsN fun _ _ _ _ _ _ us hl => match us, hl with | [_, _], _ => rfl) (fun _ _ _ _ ⟨_, e, _⟩ => by rw [e]; rfl) (w__law_handed_deeds G (c__law_take G)) v__law_handed_deeds
end Pu.L70
set_option Elab.async false
set_option linter.all false
set_option maxRecDepth 100000
set_option maxHeartbeats 4000000
set_option autoImplicit false
namespace Pu.L70
open PySem PySem.Spec PyProof.Rows L2
variable {P : Program} {w : World} {K : PySem.W.Frag} {mg : Str → Option Value} {base : Heap}
def sp_has_deed_form : Spec := fun ds h Q Ex => ∃ (x : D) (e : Deed), ds = [x] ∧ Deed.handed e x ∧ Q (.bl true) h
theorem sc_has_deed_form : FnScope ["deed", "word"] ["deed"] (defScope s_has_deed_form) := ⟨rfl, rfl, rfl, by decide +kernel, rfl, by decide +kernel, by decide +kernel⟩
def q_has_deed_form : RS := (qSeq (qIfS (qOr (qNot (qTest (qUn (isiD ["tuple", "list"]) (qPeek 0)))) (qTest (qBin eqD (qUn lenD (qPeek 0)) (qC (.int 0))))) (qRet (qC (.bl false))) qNext)
  (qSeq (qSet 1 (qBin ixD (qPeek 0) (qC (.int 0))))
  (qSeq (qIfS (qNot (qTest (qUn (isiD ["str"]) (qPeek 1)))) (qRet (qC (.bl false))) qNext)
  (qRet (qOrV (qAndV (qBin eqD (qPeek 1) (qC (.str (Str.ofString "put")))) (qBin eqD (qUn lenD (qPeek 0)) (qC (.int 4)))) (qAndV (qBin eqD (qPeek 1) (qC (.str (Str.ofString "take")))) (qBin eqD (qUn lenD (qPeek 0)) (qC (.int 2)))))))))
theorem w_has_deed_form (G : GE K mg)  : WkOk P w K mg base ["deed", "word"] "has_deed_form" s_has_deed_form 0 q_has_deed_form := fun f cdv A outer s H E hr tk => by
  have S := sc_has_deed_form
  unfold q_has_deed_form
  exact (qss_cons (qs_if (qw_or (qt_not (qt_val (qe_isi2 "tuple" "list" G.n_isinstance G.n_tuple G.n_list (qk_var 0)).k)) (qw_or1 (qt_cmp op_eq ops_eq (qe_b1 call_lenAll cs_len G.n_len (qk_var 0)).k (qe_int).k (by rfl)))).t (qss_one (qs_ret qe_bl)) qss_nil)
    (qss_cons (qs_set 1 (qe_ix (ix_all hr.u1) ops_ix (qk_var 0) (qe_int).k) S.nd)
    (qss_cons (qs_if (qt_not (qt_val (qe_isi1 "str" G.n_isinstance G.n_str (qk_var 1)).k)) (qss_one (qs_ret qe_bl)) qss_nil)
    (qss_one (qs_ret (qe_or (qe_and (qe_cmp op_eq ops_eq (qk_var 1) (qe_str).k (by rfl)) (qe_one (qe_cmp op_eq ops_eq (qe_b1 call_lenAll cs_len G.n_len (qk_var 0)).k (qe_int).k (by rfl)))) (qe_one (qe_and (qe_cmp op_eq ops_eq (qk_var 1) (qe_str).k (by rfl)) (qe_one (qe_cmp op_eq ops_eq (qe_b1 call_lenAll cs_len G.n_len (qk_var 0)).k (qe_int).k (by rfl)))))))))))
theorem v_has_deed_form (ds : List D) (h : PHp) (Qp : D → PHp → Prop) (Ep : XP) : sp_has_deed_form ds h Qp Ep → q_has_deed_form (PE0 Qp Ep) (startC 2 ds) h := by
  rintro ⟨x, e, rfl, hx, hQ⟩
  have hp : ¬ Str.ofString "take" = Str.ofString "put" := by decide
  cases e with
  | put l a b =>
    rcases hx with rfl | rfl | rfl | rfl <;> simp only [q_has_deed_form, Deed.d, Deed.row, Deed.swap, startC, qVar, qPeek, qC, qBin, qUn, qNil, qCons, qTup, qLst, qCall, asB, qTest, qAnd, qOr, qNot, qAndV, qOrV, qNotV, qIfE, deref, qNext, qSeq, qSet, qSetN, qSetP, qRet, qRetN, qDrop, qIfS, qFreeze, qApp, onOwnL, qAsg, gqName, gqNil, gqCons, gqTup, qM1, qRng1, qEnum, qAny, asI, asL, itemsD, qPart, qNoPart, qCut, cutD, qCutL, cutLD, addD, subD, mulD, modD, fdivD, eqD, neD, eqS, onB, ltD, leD, gtD, geD, isND, lenD, intD, strD, ordD, listD, tupleD, ixD, PEnds.at, wipeC, qYes,
    List.map_cons, List.map_nil, List.replicate, List.cons_append, List.nil_append, List.append_assoc, List.getElem?_cons_zero, List.getElem?_cons_succ, List.set_cons_zero, List.set_cons_succ, List.length_cons, List.length_nil, Option.map_some, if_true, if_false, Bool.not_true, Bool.not_false, decide_eq_true_eq, Bool.not_eq_true', decide_eq_false_iff_not, Nat.reduceAdd, Nat.reduceSub, List.replicate_succ, List.replicate_zero, true_and, and_true, reduceCtorEq, isStr, qPutS, putS, powD, CPow, qPut, onOwn, setD, qPutP, onPtr, qDelP, delD, qPutF, setF, qProp, qMeth, qMake, isObj, fldD, minD, maxD, qChain, revD, lrevD, isiD, tyD, qOrT, qAndT, onTru, truD, qJoined, qjCons, qjNil, fmtD, fmt5D, D.int.injEq, D.str.injEq, D.lst.injEq, D.tup.injEq, D.bl.injEq, false_implies, true_implies, ne_eq, not_false_eq_true, not_true_eq_false, forall_const, implies_true, false_and, and_false, exists_eq_left, exists_eq_left', Int.reduceEq, Int.reduceLT, Int.reduceNe, Int.reduceLE, or_false, false_or, or_true, true_or, qLc, qFor, qWhile, allD, sortAD, wipeC, isiS, List.any_cons, List.any_nil, Bool.or_false, Bool.or_true, Bool.true_or, Bool.false_or, Bool.and_self, Bool.false_and, Bool.and_false, Bool.and_true, Bool.true_and, String.reduceBEq, Bool.false_eq_true, Bool.true_eq_false]
    all_goals rw [if_neg (by decide)]
    all_goals refine ⟨_, rfl, ?_⟩
    all_goals simp only [startC, qVar, qPeek, qC, qBin, qUn, qNil, qCons, qTup, qLst, qCall, asB, qTest, qAnd, qOr, qNot, qAndV, qOrV, qNotV, qIfE, deref, qNext, qSeq, qSet, qSetN, qSetP, qRet, qRetN, qDrop, qIfS, qFreeze, qApp, onOwnL, qAsg, gqName, gqNil, gqCons, gqTup, qM1, qRng1, qEnum, qAny, asI, asL, itemsD, qPart, qNoPart, qCut, cutD, qCutL, cutLD, addD, subD, mulD, modD, fdivD, eqD, neD, eqS, onB, ltD, leD, gtD, geD, isND, lenD, intD, strD, ordD, listD, tupleD, ixD, PEnds.at, wipeC, qYes,
    List.map_cons, List.map_nil, List.replicate, List.cons_append, List.nil_append, List.append_assoc, List.getElem?_cons_zero, List.getElem?_cons_succ, List.set_cons_zero, List.set_cons_succ, List.length_cons, List.length_nil, Option.map_some, if_true, if_false, Bool.not_true, Bool.not_false, decide_eq_true_eq, Bool.not_eq_true', decide_eq_false_iff_not, Nat.reduceAdd, Nat.reduceSub, List.replicate_succ, List.replicate_zero, true_and, and_true, reduceCtorEq, isStr, qPutS, putS, powD, CPow, qPut, onOwn, setD, qPutP, onPtr, qDelP, delD, qPutF, setF, qProp, qMeth, qMake, isObj, fldD, minD, maxD, qChain, revD, lrevD, isiD, tyD, qOrT, qAndT, onTru, truD, qJoined, qjCons, qjNil, fmtD, fmt5D, D.int.injEq, D.str.injEq, D.lst.injEq, D.tup.injEq, D.bl.injEq, false_implies, true_implies, ne_eq, not_false_eq_true, not_true_eq_false, forall_const, implies_true, false_and, and_false, exists_eq_left, exists_eq_left', Int.reduceEq, Int.reduceLT, Int.reduceNe, Int.reduceLE, or_false, false_or, or_true, true_or, qLc, qFor, qWhile, allD, sortAD, wipeC, isiS, List.any_cons, List.any_nil, Bool.or_false, Bool.or_true, Bool.true_or, Bool.false_or, Bool.and_self, Bool.false_and, Bool.and_false, Bool.and_true, Bool.true_and, String.reduceBEq, Bool.false_eq_true, Bool.true_eq_false]
    all_goals rw [if_pos (by decide)]
    all_goals exact hQ
  | take l =>
    rcases hx with rfl | rfl | rfl | rfl <;> simp only [q_has_deed_form, Deed.d, Deed.row, Deed.swap, startC, qVar, qPeek, qC, qBin, qUn, qNil, qCons, qTup, qLst, qCall, asB, qTest, qAnd, qOr, qNot, qAndV, qOrV, qNotV, qIfE, deref, qNext, qSeq, qSet, qSetN, qSetP, qRet, qRetN, qDrop, qIfS, qFreeze, qApp, onOwnL, qAsg, gqName, gqNil, gqCons, gqTup, qM1, qRng1, qEnum, qAny, asI, asL, itemsD, qPart, qNoPart, qCut, cutD, qCutL, cutLD, addD, subD, mulD, modD, fdivD, eqD, neD, eqS, onB, ltD, leD, gtD, geD, isND, lenD, intD, strD, ordD, listD, tupleD, ixD, PEnds.at, wipeC, qYes,
    List.map_cons, List.map_nil, List.replicate, List.cons_append, List.nil_append, List.append_assoc, List.getElem?_cons_zero, List.getElem?_cons_succ, List.set_cons_zero, List.set_cons_succ, List.length_cons, List.length_nil, Option.map_some, if_true, if_false, Bool.not_true, Bool.not_false, decide_eq_true_eq, Bool.not_eq_true', decide_eq_false_iff_not, Nat.reduceAdd, Nat.reduceSub, List.replicate_succ, List.replicate_zero, true_and, and_true, reduceCtorEq, isStr, qPutS, putS, powD, CPow, qPut, onOwn, setD, qPutP, onPtr, qDelP, delD, qPutF, setF, qProp, qMeth, qMake, isObj, fldD, minD, maxD, qChain, revD, lrevD, isiD, tyD, qOrT, qAndT, onTru, truD, qJoined, qjCons, qjNil, fmtD, fmt5D, D.int.injEq, D.str.injEq, D.lst.injEq, D.tup.injEq, D.bl.injEq, false_implies, true_implies, ne_eq, not_false_eq_true, not_true_eq_false, forall_const, implies_true, false_and, and_false, exists_eq_left, exists_eq_left', Int.reduceEq, Int.reduceLT, Int.reduceNe, Int.reduceLE, or_false, false_or, or_true, true_or, qLc, qFor, qWhile, allD, sortAD, wipeC, isiS, List.any_cons, List.any_nil, Bool.or_false, Bool.or_true, Bool.true_or, Bool.false_or, Bool.and_self, Bool.false_and, Bool.and_false, Bool.and_true, Bool.true_and, String.reduceBEq, Bool.false_eq_true, Bool.true_eq_false]
    all_goals rw [if_neg (by decide)]
    all_goals refine ⟨_, rfl, ?_⟩
    all_goals simp only [startC, qVar, qPeek, qC, qBin, qUn, qNil, qCons, qTup, qLst, qCall, asB, qTest, qAnd, qOr, qNot, qAndV, qOrV, qNotV, qIfE, deref, qNext, qSeq, qSet, qSetN, qSetP, qRet, qRetN, qDrop, qIfS, qFreeze, qApp, onOwnL, qAsg, gqName, gqNil, gqCons, gqTup, qM1, qRng1, qEnum, qAny, asI, asL, itemsD, qPart, qNoPart, qCut, cutD, qCutL, cutLD, addD, subD, mulD, modD, fdivD, eqD, neD, eqS, onB, ltD, leD, gtD, geD, isND, lenD, intD, strD, ordD, listD, tupleD, ixD, PEnds.at, wipeC, qYes,
    List.map_cons, List.map_nil, List.replicate, List.cons_append, List.nil_append, List.append_assoc, List.getElem?_cons_zero, List.getElem?_cons_succ, List.set_cons_zero, List.set_cons_succ, List.length_cons, List.length_nil, Option.map_some, if_true, if_false, Bool.not_true, Bool.not_false, decide_eq_true_eq, Bool.not_eq_true', decide_eq_false_iff_not, Nat.reduceAdd, Nat.reduceSub, List.replicate_succ, List.replicate_zero, true_and, and_true, reduceCtorEq, isStr, qPutS, putS, powD, CPow, qPut, onOwn, setD, qPutP, onPtr, qDelP, delD, qPutF, setF, qProp, qMeth, qMake, isObj, fldD, minD, maxD, qChain, revD, lrevD, isiD, tyD, qOrT, qAndT, onTru, truD, qJoined, qjCons, qjNil, fmtD, fmt5D, D.int.injEq, D.str.injEq, D.lst.injEq, D.tup.injEq, D.bl.injEq, false_implies, true_implies, ne_eq, not_false_eq_true, not_true_eq_false, forall_const, implies_true, false_and, and_false, exists_eq_left, exists_eq_left', Int.reduceEq, Int.reduceLT, Int.reduceNe, Int.reduceLE, or_false, false_or, or_true, true_or, qLc, qFor, qWhile, allD, sortAD, wipeC, isiS, List.any_cons, List.any_nil, Bool.or_false, Bool.or_true, Bool.true_or, Bool.false_or, Bool.and_self, Bool.false_and, Bool.and_false, Bool.and_true, Bool.true_and, String.reduceBEq, Bool.false_eq_true, Bool.true_eq_false]
    all_goals rw [if_neg hp]
    all_goals rw [show decide (((2 : Nat) : Int) = 2) = true from rfl]
    all_goals exact hQ
theorem c_has_deed_form (G : GE K mg) : Cal P w K mg base "has_deed_form" ["deed"] 1 sp_has_deed_form :=
  cal_of G.f_has_deed_form sc_has_deed_form (fun _ _ F => F.bindsN fun _ _ _ _ _ _ us hl => match us, hl with | [_], _ => rfl) (fun _ _ _ _ ⟨_, _, e, _⟩ => by rw [e]; rfl) (w_has_deed_form G ) v_has_deed_form
end Pu.L70
set_option Elab.async false
set_option linter.all false
set_option maxRecDepth 100000
set_option maxHeartbeats 4000000
set_option autoImplicit false
namespace Pu.L70
open PySem PySem.Spec PyProof.Rows L2
theorem in_strs {x : Str} {ss : List Str} : inD (.str x) (.lst (ss.map D.str)) = some (decide (x ∈ ss)) := by
  unfold inD
  have h1 : (ss.map D.str).all flatD = true := by
    rw [List.all_eq_true]
    intro y hy
    obtain ⟨s, _, rfl⟩ := List.mem_map.mp hy
    rfl
  show (if (flatD (.str x) && (ss.map D.str).all flatD) = true then some ((ss.map D.str).any fun y => eqF y (.str x)) else none) = _
  rw [h1]
  have h2 : ((ss.map D.str).any fun y => eqF y (.str x)) = decide (x ∈ ss) := by
    induction ss with
    | nil => simp
    | cons s r ih =>
      rw [List.map_cons, List.any_cons, ih]
      · by_cases c : s = x
        · subst c; simp [eqF]
        · have : ¬ x = s := fun z => c z.symm
          simp [eqF, c, this]
      · rw [List.all_eq_true]
        intro y hy
        obtain ⟨s, _, rfl⟩ := List.mem_map.mp hy
        rfl
  rw [h2]
  rfl
end Pu.L70
set_option Elab.async false
set_option linter.all false
set_option maxRecDepth 100000
set_option maxHeartbeats 4000000
set_option autoImplicit false
namespace Pu.L70
open PySem PySem.Spec PyProof.Rows L2
variable {P : Program} {w : World} {K : PySem.W.Frag} {mg : Str → Option Value} {base : Heap}
def sp_need_houses : Spec := fun ds h Q Ex => ∃ (hs : List Str) (a b : Str), ds = [.lst (hs.map D.str), .str a, .str b] ∧ a ∈ hs ∧ b ∈ hs ∧ Q .non h
theorem sc_need_houses : FnScope ["houses", "a", "b", "house"] ["houses", "a", "b"] (defScope s_need_houses) := ⟨rfl, rfl, rfl, by decide +kernel, rfl, by decide +kernel, by decide +kernel⟩
def q_need_houses : RS := (qFor (qAny (qTup (qCons (qVar 1) (qCons (qVar 2) qNil)))) (gqName 3) (qIfS (qTest (qBin (inOp true) (qPeek 3) (qPeek 0))) qNever qNext))
theorem w_need_houses (G : GE K mg)  : WkOk P w K mg base ["houses", "a", "b", "house"] "need_houses" s_need_houses 0 q_need_houses := fun f cdv A outer s H E hr tk => by
  have S := sc_need_houses
  unfold q_need_houses
  exact (qss_one (qs_for (passes_of rfl) rfl (qi_any (qe_tup (qa_cons (qe_var 1) (qa_cons (qe_var 2) qa_nil)))) (qg_name 3 S.nd) (qss_one (qs_if (qt_cmp (op_notInAll hr.u1) ops_in (qk_var 3) (qk_var 0) (by rfl)) (qss_one qs_never) qss_nil))))
theorem v_need_houses (ds : List D) (h : PHp) (Qp : D → PHp → Prop) (Ep : XP) : sp_need_houses ds h Qp Ep → q_need_houses (PE0 Qp Ep) (startC 4 ds) h := by
  rintro ⟨hs, a, b, rfl, h1, h2, hQ⟩
  simp only [q_need_houses, startC, qVar, qPeek, qC, qBin, qUn, qNil, qCons, qTup, qLst, qCall, asB, qTest, qAnd, qOr, qNot, qAndV, qOrV, qNotV, qIfE, deref, qNext, qSeq, qSet, qSetN, qSetP, qRet, qRetN, qDrop, qIfS, qFreeze, qApp, onOwnL, qAsg, gqName, gqNil, gqCons, gqTup, qM1, qRng1, qEnum, qAny, asI, asL, itemsD, qPart, qNoPart, qCut, cutD, qCutL, cutLD, addD, subD, mulD, modD, fdivD, eqD, neD, eqS, onB, ltD, leD, gtD, geD, isND, lenD, intD, strD, ordD, listD, tupleD, ixD, PEnds.at, wipeC, qYes,
    List.map_cons, List.map_nil, List.replicate, List.cons_append, List.nil_append, List.append_assoc, List.getElem?_cons_zero, List.getElem?_cons_succ, List.set_cons_zero, List.set_cons_succ, List.length_cons, List.length_nil, Option.map_some, if_true, if_false, Bool.not_true, Bool.not_false, decide_eq_true_eq, Bool.not_eq_true', decide_eq_false_iff_not, Nat.reduceAdd, Nat.reduceSub, List.replicate_succ, List.replicate_zero, true_and, and_true, reduceCtorEq, isStr, qPutS, putS, powD, CPow, qPut, onOwn, setD, qPutP, onPtr, qDelP, delD, qPutF, setF, qProp, qMeth, qMake, isObj, fldD, minD, maxD, qChain, revD, lrevD, isiD, tyD, qOrT, qAndT, onTru, truD, qJoined, qjCons, qjNil, fmtD, fmt5D, D.int.injEq, D.str.injEq, D.lst.injEq, D.tup.injEq, D.bl.injEq, false_implies, true_implies, ne_eq, not_false_eq_true, not_true_eq_false, forall_const, implies_true, false_and, and_false, exists_eq_left, exists_eq_left', Int.reduceEq, Int.reduceLT, Int.reduceNe, Int.reduceLE, or_false, false_or, or_true, true_or, qLc, qFor, qWhile, allD, sortAD, wipeC, isiS, List.any_cons, List.any_nil, Bool.or_false, Bool.or_true, Bool.true_or, Bool.false_or, Bool.and_self, Bool.false_and, Bool.and_false, Bool.and_true, Bool.true_and, String.reduceBEq, Bool.false_eq_true, Bool.true_eq_false]
  refine forK_i (fun i ρ' h' => h' = h ∧ ∃ c, ρ' = [.fro (.lst (hs.map D.str)), .fro (.str a), .fro (.str b), c]) ⟨rfl, _, rfl⟩ ?_ ?_
  · rintro i d ρ' h' hd ⟨rfl, c, rfl⟩
    have hm : d ∈ [D.str a, D.str b] := List.mem_of_getElem? hd
    have : ∃ s, d = .str s ∧ s ∈ hs := by
      rcases List.mem_cons.mp hm with rfl | hm
      · exact ⟨a, rfl, h1⟩
      · rw [List.mem_singleton.mp hm]
        exact ⟨b, rfl, h2⟩
    obtain ⟨s, rfl, hs'⟩ := this
    simp only [startC, qVar, qPeek, qC, qBin, qUn, qNil, qCons, qTup, qLst, qCall, asB, qTest, qAnd, qOr, qNot, qAndV, qOrV, qNotV, qIfE, deref, qNext, qSeq, qSet, qSetN, qSetP, qRet, qRetN, qDrop, qIfS, qFreeze, qApp, onOwnL, qAsg, gqName, gqNil, gqCons, gqTup, qM1, qRng1, qEnum, qAny, asI, asL, itemsD, qPart, qNoPart, qCut, cutD, qCutL, cutLD, addD, subD, mulD, modD, fdivD, eqD, neD, eqS, onB, ltD, leD, gtD, geD, isND, lenD, intD, strD, ordD, listD, tupleD, ixD, PEnds.at, wipeC, qYes,
    List.map_cons, List.map_nil, List.replicate, List.cons_append, List.nil_append, List.append_assoc, List.getElem?_cons_zero, List.getElem?_cons_succ, List.set_cons_zero, List.set_cons_succ, List.length_cons, List.length_nil, Option.map_some, if_true, if_false, Bool.not_true, Bool.not_false, decide_eq_true_eq, Bool.not_eq_true', decide_eq_false_iff_not, Nat.reduceAdd, Nat.reduceSub, List.replicate_succ, List.replicate_zero, true_and, and_true, reduceCtorEq, isStr, qPutS, putS, powD, CPow, qPut, onOwn, setD, qPutP, onPtr, qDelP, delD, qPutF, setF, qProp, qMeth, qMake, isObj, fldD, minD, maxD, qChain, revD, lrevD, isiD, tyD, qOrT, qAndT, onTru, truD, qJoined, qjCons, qjNil, fmtD, fmt5D, D.int.injEq, D.str.injEq, D.lst.injEq, D.tup.injEq, D.bl.injEq, false_implies, true_implies, ne_eq, not_false_eq_true, not_true_eq_false, forall_const, implies_true, false_and, and_false, exists_eq_left, exists_eq_left', Int.reduceEq, Int.reduceLT, Int.reduceNe, Int.reduceLE, or_false, false_or, or_true, true_or, qLc, qFor, qWhile, allD, sortAD, wipeC, isiS, List.any_cons, List.any_nil, Bool.or_false, Bool.or_true, Bool.true_or, Bool.false_or, Bool.and_self, Bool.false_and, Bool.and_false, Bool.and_true, Bool.true_and, String.reduceBEq, Bool.false_eq_true, Bool.true_eq_false, inOp, in_strs]
    rw [if_neg (fun z => z hs')]
    exact ⟨_, rfl⟩
  · rintro ρ' h' ⟨rfl, c, rfl⟩
    simp only [startC, qVar, qPeek, qC, qBin, qUn, qNil, qCons, qTup, qLst, qCall, asB, qTest, qAnd, qOr, qNot, qAndV, qOrV, qNotV, qIfE, deref, qNext, qSeq, qSet, qSetN, qSetP, qRet, qRetN, qDrop, qIfS, qFreeze, qApp, onOwnL, qAsg, gqName, gqNil, gqCons, gqTup, qM1, qRng1, qEnum, qAny, asI, asL, itemsD, qPart, qNoPart, qCut, cutD, qCutL, cutLD, addD, subD, mulD, modD, fdivD, eqD, neD, eqS, onB, ltD, leD, gtD, geD, isND, lenD, intD, strD, ordD, listD, tupleD, ixD, PEnds.at, wipeC, qYes,
    List.map_cons, List.map_nil, List.replicate, List.cons_append, List.nil_append, List.append_assoc, List.getElem?_cons_zero, List.getElem?_cons_succ, List.set_cons_zero, List.set_cons_succ, List.length_cons, List.length_nil, Option.map_some, if_true, if_false, Bool.not_true, Bool.not_false, decide_eq_true_eq, Bool.not_eq_true', decide_eq_false_iff_not, Nat.reduceAdd, Nat.reduceSub, List.replicate_succ, List.replicate_zero, true_and, and_true, reduceCtorEq, isStr, qPutS, putS, powD, CPow, qPut, onOwn, setD, qPutP, onPtr, qDelP, delD, qPutF, setF, qProp, qMeth, qMake, isObj, fldD, minD, maxD, qChain, revD, lrevD, isiD, tyD, qOrT, qAndT, onTru, truD, qJoined, qjCons, qjNil, fmtD, fmt5D, D.int.injEq, D.str.injEq, D.lst.injEq, D.tup.injEq, D.bl.injEq, false_implies, true_implies, ne_eq, not_false_eq_true, not_true_eq_false, forall_const, implies_true, false_and, and_false, exists_eq_left, exists_eq_left', Int.reduceEq, Int.reduceLT, Int.reduceNe, Int.reduceLE, or_false, false_or, or_true, true_or, qLc, qFor, qWhile, allD, sortAD, wipeC, isiS, List.any_cons, List.any_nil, Bool.or_false, Bool.or_true, Bool.true_or, Bool.false_or, Bool.and_self, Bool.false_and, Bool.and_false, Bool.and_true, Bool.true_and, String.reduceBEq, Bool.false_eq_true, Bool.true_eq_false]
    exact hQ
theorem c_need_houses (G : GE K mg) : Cal P w K mg base "need_houses" ["houses", "a", "b"] 1 sp_need_houses :=
  cal_of G.f_need_houses sc_need_houses (fun _ _ F => F.bindsN fun _ _ _ _ _ _ us hl => match us, hl with | [_, _, _], _ => rfl) (fun _ _ _ _ ⟨_, _, _, e, _⟩ => by rw [e]; rfl) (w_need_houses G ) v_need_houses
end Pu.L70
set_option Elab.async false
set_option linter.all false
set_option maxRecDepth 100000
set_option maxHeartbeats 4000000
set_option autoImplicit false
namespace Pu.L70
open PySem PySem.Spec PyProof.Rows L2
def okD (hs : List Str) (ks : List Str) : Deed → Prop
  | .put l a b => nameB l = true ∧ a ∈ hs ∧ b ∈ hs ∧ tl a < tl b ∧ l ∉ ks ∧ ks.length < 96
  | .take l => nameB l = true ∧ l ∈ ks
def stepK (ks : List Str) : Deed → List Str
  | .put l _ _ => ks ++ [l]
  | .take l => ks.filter fun y => decide (y ≠ l)
def kin (ks : List Str) : List Key := ks.map Sum.inr
theorem dlook_in {l : Str} : ∀ {ks : List Str} {vs : List D}, vs.length = ks.length → (dlook (kin ks) vs (.inr l)).isSome = decide (l ∈ ks)
  | [], [], _ => by simp [kin, dlook]
  | [], _ :: _, h => by cases h
  | _ :: _, [], h => by cases h
  | k :: ks, v :: vs, h => by
    show (dlook (Sum.inr k :: kin ks) (v :: vs) (.inr l)).isSome = _
    unfold dlook
    by_cases c : k = l
    · subst c; simp
    · rw [if_neg (fun z => c (Sum.inr.inj z)), dlook_in (by simpa using h)]
      have : ¬ l = k := fun z => c z.symm
      simp [this]
theorem in_dic {l : Str} {ks : List Str} {vs : List D} (h : vs.length = ks.length) : inD (.str l) (.dic (kin ks) vs) = some (decide (l ∈ ks)) := by
  show some (dlook (kin ks) vs (.inr l)).isSome = _
  rw [dlook_in h]
theorem kin_len {ks : List Str} : (kin ks).length = ks.length := List.length_map _
theorem dput_new {ks : List Str} {vs : List D} {l : Str} {x : D} (h : l ∉ ks) : dput (kin ks) vs (.inr l) x = .dic (kin (ks ++ [l])) (vs ++ [x]) := by
  unfold dput
  rw [if_neg]
  · unfold kin
    rw [List.map_append]
    rfl
  · rw [List.any_eq_true]
    rintro ⟨y, hy, e⟩
    obtain ⟨k, hk, rfl⟩ := List.mem_map.mp hy
    rw [decide_eq_true_eq] at e
    exact h (Sum.inr.inj e ▸ hk)
theorem ddel_old {ks : List Str} {vs : List D} {l : Str} (h : vs.length = ks.length) : ∃ vs', vs'.length = (ks.filter fun y => decide (y ≠ l)).length ∧ ddel (kin ks) vs (.inr l) = .dic (kin (ks.filter fun y => decide (y ≠ l))) vs' := by
  refine ⟨ddelV (kin ks) vs (.inr l), ?_, ?_⟩
  · induction ks generalizing vs with
    | nil =>
      cases vs with
      | nil => rfl
      | cons _ _ => cases h
    | cons k ks ih =>
      cases vs with
      | nil => cases h
      | cons v vs =>
        show (ddelV (Sum.inr k :: kin ks) (v :: vs) (.inr l)).length = _
        unfold ddelV
        by_cases c : k = l
        · rw [if_pos (congrArg Sum.inr c), ih (by simpa using h), List.filter_cons_of_neg (by simp [c])]
        · rw [if_neg (fun z => c (Sum.inr.inj z)), List.filter_cons_of_pos (by simp [c]), List.length_cons, List.length_cons, ih (by simpa using h)]
  · unfold ddel
    congr 1
    unfold kin
    rw [List.filter_map]
    congr 1
    apply List.filter_congr
    intro y _
    simp
end Pu.L70
set_option Elab.async false
set_option linter.all false
set_option maxRecDepth 100000
set_option maxHeartbeats 4000000
set_option autoImplicit false
namespace Pu.L70
open PySem PySem.Spec PyProof.Rows L2
variable {P : Program} {w : World} {K : PySem.W.Frag} {mg : Str → Option Value} {base : Heap}
def sp_ready_put : Spec := fun ds h Q Ex => ∃ (hs : List Str) (p : Addr) (l a b : Str) (ks : List Str) (vs : List D), ds = [.lst (hs.map D.str), .ptr p, .str l, .str a, .str b] ∧ h p = some (.dic (kin ks) vs) ∧ vs.length = ks.length ∧ nameB l = true ∧ nameB a = true ∧ nameB b = true ∧ a ∈ hs ∧ b ∈ hs ∧ a ≠ b ∧ l ∉ ks ∧ ks.length < 96 ∧
  Q (if tl b < tl a then Deed.d (.put l b a) else Deed.d (.put l a b)) h
theorem sc_ready_put : FnScope ["houses", "standing", "line", "a", "b", "low", "high"] ["houses", "standing", "line", "a", "b"] (defScope s_ready_put) := ⟨rfl, rfl, rfl, by decide +kernel, rfl, by decide +kernel, by decide +kernel⟩
def q_ready_put : RS := (qSeq (qDrop (qCall sp_check_name (qCons (qVar 2) qNil)))
  (qSeq (qDrop (qCall sp_check_name (qCons (qVar 3) qNil)))
  (qSeq (qDrop (qCall sp_check_name (qCons (qVar 4) qNil)))
  (qSeq (qDrop (qCall sp_need_houses (qCons (qVar 0) (qCons (qVar 3) (qCons (qVar 4) qNil)))))
  (qSeq (qIfS (qTest (qBin eqD (qPeek 3) (qPeek 4))) qNever qNext)
  (qSeq (qIfS (qTest (qBin (inOp false) (qPeek 2) (qPeek 1))) qNever qNext)
  (qSeq (qIfS (qTest (qBin geD (qUn lenD (qPeek 1)) (qC (.int 96)))) qNever qNext)
  (qSeq (qAsg (qCall sp_ordered (qCons (qVar 3) (qCons (qVar 4) qNil))) (gqTup 2 (gqCons (gqName 5) (gqCons (gqName 6) gqNil))))
  (qRet (qTup (qCons (qC (.str (Str.ofString "put"))) (qCons (qVar 2) (qCons (qVar 5) (qCons (qVar 6) qNil))))))))))))))
theorem w_ready_put (G : GE K mg) (C_check_name : Cal P w K mg base "check_name" ["word"] 3 sp_check_name) (C_need_houses : Cal P w K mg base "need_houses" ["houses", "a", "b"] 1 sp_need_houses) (C_ordered : Cal P w K mg base "ordered" ["a", "b"] 1 sp_ordered) : WkOk P w K mg base ["houses", "standing", "line", "a", "b", "low", "high"] "ready_put" s_ready_put 3 q_ready_put := fun f cdv A outer s H E hr tk => by
  have S := sc_ready_put
  unfold q_ready_put
  exact (qss_cons (qs_expr (qe_callC C_check_name hr tk (qa_cons (qe_var 2) qa_nil)))
    (qss_cons (qs_expr (qe_callC C_check_name hr tk (qa_cons (qe_var 3) qa_nil)))
    (qss_cons (qs_expr (qe_callC C_check_name hr tk (qa_cons (qe_var 4) qa_nil)))
    (qss_cons (qs_expr (qe_callC C_need_houses hr tk (qa_cons (qe_var 0) (qa_cons (qe_var 3) (qa_cons (qe_var 4) qa_nil)))))
    (qss_cons (qs_if (qt_cmp op_eq ops_eq (qk_var 3) (qk_var 4) (by rfl)) (qss_one qs_never) qss_nil)
    (qss_cons (qs_if (qt_cmp (op_inAll hr.u1) ops_in (qk_var 2) (qk_var 1) (by rfl)) (qss_one qs_never) qss_nil)
    (qss_cons (qs_if (qt_cmp op_geAll ops_ge (qe_b1 call_lenAll cs_len G.n_len (qk_var 1)).k (qe_globI (Classical.choose_spec G.c_MOST_LINES)).k (by rfl)) (qss_one qs_never) qss_nil)
    (qss_cons (qs_asg (qe_callC C_ordered hr tk (qa_cons (qe_var 3) (qa_cons (qe_var 4) qa_nil))) (qg_tup rfl (qgs_cons (qg_name 5 S.nd) (qgs_cons (qg_name 6 S.nd) qgs_nil))))
    (qss_one (qs_ret (qe_tup (qa_cons qe_str (qa_cons (qe_var 2) (qa_cons (qe_var 5) (qa_cons (qe_var 6) qa_nil)))))))))))))))
theorem v_ready_put (ds : List D) (h : PHp) (Qp : D → PHp → Prop) (Ep : XP) : sp_ready_put ds h Qp Ep → q_ready_put (PE0 Qp Ep) (startC 7 ds) h := by
  rintro ⟨hs, p, l, a, b, ks, vs, rfl, hp, hv, n1, n2, n3, m1, m2, ne, hl, hk, hQ⟩
  simp only [q_ready_put, startC, qVar, qPeek, qC, qBin, qUn, qNil, qCons, qTup, qLst, qCall, asB, qTest, qAnd, qOr, qNot, qAndV, qOrV, qNotV, qIfE, deref, qNext, qSeq, qSet, qSetN, qSetP, qRet, qRetN, qDrop, qIfS, qFreeze, qApp, onOwnL, qAsg, gqName, gqNil, gqCons, gqTup, qM1, qRng1, qEnum, qAny, asI, asL, itemsD, qPart, qNoPart, qCut, cutD, qCutL, cutLD, addD, subD, mulD, modD, fdivD, eqD, neD, eqS, onB, ltD, leD, gtD, geD, isND, lenD, intD, strD, ordD, listD, tupleD, ixD, PEnds.at, wipeC, qYes,
    List.map_cons, List.map_nil, List.replicate, List.cons_append, List.nil_append, List.append_assoc, List.getElem?_cons_zero, List.getElem?_cons_succ, List.set_cons_zero, List.set_cons_succ, List.length_cons, List.length_nil, Option.map_some, if_true, if_false, Bool.not_true, Bool.not_false, decide_eq_true_eq, Bool.not_eq_true', decide_eq_false_iff_not, Nat.reduceAdd, Nat.reduceSub, List.replicate_succ, List.replicate_zero, true_and, and_true, reduceCtorEq, isStr, qPutS, putS, powD, CPow, qPut, onOwn, setD, qPutP, onPtr, qDelP, delD, qPutF, setF, qProp, qMeth, qMake, isObj, fldD, minD, maxD, qChain, revD, lrevD, isiD, tyD, qOrT, qAndT, onTru, truD, qJoined, qjCons, qjNil, fmtD, fmt5D, D.int.injEq, D.str.injEq, D.lst.injEq, D.tup.injEq, D.bl.injEq, false_implies, true_implies, ne_eq, not_false_eq_true, not_true_eq_false, forall_const, implies_true, false_and, and_false, exists_eq_left, exists_eq_left', Int.reduceEq, Int.reduceLT, Int.reduceNe, Int.reduceLE, or_false, false_or, or_true, true_or, qLc, qFor, qWhile, allD, sortAD, wipeC, isiS, List.any_cons, List.any_nil, Bool.or_false, Bool.or_true, Bool.true_or, Bool.false_or, Bool.and_self, Bool.false_and, Bool.and_false, Bool.and_true, Bool.true_and, String.reduceBEq, Bool.false_eq_true, Bool.true_eq_false]
  refine ⟨l, rfl, n1, a, rfl, n2, b, rfl, n3, hs, a, b, rfl, m1, m2, ?_⟩
  simp only [startC, qVar, qPeek, qC, qBin, qUn, qNil, qCons, qTup, qLst, qCall, asB, qTest, qAnd, qOr, qNot, qAndV, qOrV, qNotV, qIfE, deref, qNext, qSeq, qSet, qSetN, qSetP, qRet, qRetN, qDrop, qIfS, qFreeze, qApp, onOwnL, qAsg, gqName, gqNil, gqCons, gqTup, qM1, qRng1, qEnum, qAny, asI, asL, itemsD, qPart, qNoPart, qCut, cutD, qCutL, cutLD, addD, subD, mulD, modD, fdivD, eqD, neD, eqS, onB, ltD, leD, gtD, geD, isND, lenD, intD, strD, ordD, listD, tupleD, ixD, PEnds.at, wipeC, qYes,
    List.map_cons, List.map_nil, List.replicate, List.cons_append, List.nil_append, List.append_assoc, List.getElem?_cons_zero, List.getElem?_cons_succ, List.set_cons_zero, List.set_cons_succ, List.length_cons, List.length_nil, Option.map_some, if_true, if_false, Bool.not_true, Bool.not_false, decide_eq_true_eq, Bool.not_eq_true', decide_eq_false_iff_not, Nat.reduceAdd, Nat.reduceSub, List.replicate_succ, List.replicate_zero, true_and, and_true, reduceCtorEq, isStr, qPutS, putS, powD, CPow, qPut, onOwn, setD, qPutP, onPtr, qDelP, delD, qPutF, setF, qProp, qMeth, qMake, isObj, fldD, minD, maxD, qChain, revD, lrevD, isiD, tyD, qOrT, qAndT, onTru, truD, qJoined, qjCons, qjNil, fmtD, fmt5D, D.int.injEq, D.str.injEq, D.lst.injEq, D.tup.injEq, D.bl.injEq, false_implies, true_implies, ne_eq, not_false_eq_true, not_true_eq_false, forall_const, implies_true, false_and, and_false, exists_eq_left, exists_eq_left', Int.reduceEq, Int.reduceLT, Int.reduceNe, Int.reduceLE, or_false, false_or, or_true, true_or, qLc, qFor, qWhile, allD, sortAD, wipeC, isiS, List.any_cons, List.any_nil, Bool.or_false, Bool.or_true, Bool.true_or, Bool.false_or, Bool.and_self, Bool.false_and, Bool.and_false, Bool.and_true, Bool.true_and, String.reduceBEq, Bool.false_eq_true, Bool.true_eq_false, inOp, hp, Option.getD_some, in_dic hv]
  rw [if_neg ne, if_neg hl, if_neg (by rw [kin_len]; omega)]
  refine ⟨a, b, rfl, ?_⟩
  by_cases c : tl b < tl a
  · rw [if_pos c] at hQ
    rw [if_pos (show b.cps.toList < a.cps.toList from c)]
    exact ⟨rfl, rfl, hQ⟩
  · rw [if_neg c] at hQ
    rw [if_neg (show ¬ b.cps.toList < a.cps.toList from c)]
    exact ⟨rfl, rfl, hQ⟩
theorem c_ready_put (G : GE K mg) : Cal P w K mg base "ready_put" ["houses", "standing", "line", "a", "b"] 4 sp_ready_put :=
  cal_of G.f_ready_put sc_ready_put (fun _ _ F => F.bindsN fun _ _ _ _ _ _ us hl => match us, hl with | [_, _, _, _, _], _ => rfl) (fun _ _ _ _ ⟨_, _, _, _, _, _, _, e, _⟩ => by rw [e]; rfl) (w_ready_put G (c_check_name G) (c_need_houses G) (c_ordered G)) v_ready_put
end Pu.L70
set_option Elab.async false
set_option linter.all false
set_option maxRecDepth 100000
set_option maxHeartbeats 4000000
set_option autoImplicit false
namespace Pu.L70
open PySem PySem.Spec PyProof.Rows L2
variable {P : Program} {w : World} {K : PySem.W.Frag} {mg : Str → Option Value} {base : Heap}
def sp_ready_take : Spec := fun ds h Q Ex => ∃ (p : Addr) (l : Str) (ks : List Str) (vs : List D), ds = [.ptr p, .str l] ∧ h p = some (.dic (kin ks) vs) ∧ vs.length = ks.length ∧ nameB l = true ∧ l ∈ ks ∧ Q (Deed.d (.take l)) h
theorem sc_ready_take : FnScope ["standing", "line"] ["standing", "line"] (defScope s_ready_take) := ⟨rfl, rfl, rfl, by decide +kernel, rfl, by decide +kernel, by decide +kernel⟩
def q_ready_take : RS := (qSeq (qDrop (qCall sp_check_name (qCons (qVar 1) qNil)))
  (qSeq (qIfS (qTest (qBin (inOp true) (qPeek 1) (qPeek 0))) qNever qNext)
  (qRet (qTup (qCons (qC (.str (Str.ofString "take"))) (qCons (qVar 1) qNil))))))
theorem w_ready_take (G : GE K mg) (C_check_name : Cal P w K mg base "check_name" ["word"] 3 sp_check_name) : WkOk P w K mg base ["standing", "line"] "ready_take" s_ready_take 3 q_ready_take := fun f cdv A outer s H E hr tk => by
  have S := sc_ready_take
  unfold q_ready_take
  exact (qss_cons (qs_expr (qe_callC C_check_name hr tk (qa_cons (qe_var 1) qa_nil)))
    (qss_cons (qs_if (qt_cmp (op_notInAll hr.u1) ops_in (qk_var 1) (qk_var 0) (by rfl)) (qss_one qs_never) qss_nil)
    (qss_one (qs_ret (qe_tup (qa_cons qe_str (qa_cons (qe_var 1) qa_nil)))))))
theorem v_ready_take (ds : List D) (h : PHp) (Qp : D → PHp → Prop) (Ep : XP) : sp_ready_take ds h Qp Ep → q_ready_take (PE0 Qp Ep) (startC 2 ds) h := by
  rintro ⟨p, l, ks, vs, rfl, hp, hv, n1, hl, hQ⟩
  simp only [q_ready_take, startC, qVar, qPeek, qC, qBin, qUn, qNil, qCons, qTup, qLst, qCall, asB, qTest, qAnd, qOr, qNot, qAndV, qOrV, qNotV, qIfE, deref, qNext, qSeq, qSet, qSetN, qSetP, qRet, qRetN, qDrop, qIfS, qFreeze, qApp, onOwnL, qAsg, gqName, gqNil, gqCons, gqTup, qM1, qRng1, qEnum, qAny, asI, asL, itemsD, qPart, qNoPart, qCut, cutD, qCutL, cutLD, addD, subD, mulD, modD, fdivD, eqD, neD, eqS, onB, ltD, leD, gtD, geD, isND, lenD, intD, strD, ordD, listD, tupleD, ixD, PEnds.at, wipeC, qYes,
    List.map_cons, List.map_nil, List.replicate, List.cons_append, List.nil_append, List.append_assoc, List.getElem?_cons_zero, List.getElem?_cons_succ, List.set_cons_zero, List.set_cons_succ, List.length_cons, List.length_nil, Option.map_some, if_true, if_false, Bool.not_true, Bool.not_false, decide_eq_true_eq, Bool.not_eq_true', decide_eq_false_iff_not, Nat.reduceAdd, Nat.reduceSub, List.replicate_succ, List.replicate_zero, true_and, and_true, reduceCtorEq, isStr, qPutS, putS, powD, CPow, qPut, onOwn, setD, qPutP, onPtr, qDelP, delD, qPutF, setF, qProp, qMeth, qMake, isObj, fldD, minD, maxD, qChain, revD, lrevD, isiD, tyD, qOrT, qAndT, onTru, truD, qJoined, qjCons, qjNil, fmtD, fmt5D, D.int.injEq, D.str.injEq, D.lst.injEq, D.tup.injEq, D.bl.injEq, false_implies, true_implies, ne_eq, not_false_eq_true, not_true_eq_false, forall_const, implies_true, false_and, and_false, exists_eq_left, exists_eq_left', Int.reduceEq, Int.reduceLT, Int.reduceNe, Int.reduceLE, or_false, false_or, or_true, true_or, qLc, qFor, qWhile, allD, sortAD, wipeC, isiS, List.any_cons, List.any_nil, Bool.or_false, Bool.or_true, Bool.true_or, Bool.false_or, Bool.and_self, Bool.false_and, Bool.and_false, Bool.and_true, Bool.true_and, String.reduceBEq, Bool.false_eq_true, Bool.true_eq_false]
  refine ⟨l, rfl, n1, ?_⟩
  simp only [startC, qVar, qPeek, qC, qBin, qUn, qNil, qCons, qTup, qLst, qCall, asB, qTest, qAnd, qOr, qNot, qAndV, qOrV, qNotV, qIfE, deref, qNext, qSeq, qSet, qSetN, qSetP, qRet, qRetN, qDrop, qIfS, qFreeze, qApp, onOwnL, qAsg, gqName, gqNil, gqCons, gqTup, qM1, qRng1, qEnum, qAny, asI, asL, itemsD, qPart, qNoPart, qCut, cutD, qCutL, cutLD, addD, subD, mulD, modD, fdivD, eqD, neD, eqS, onB, ltD, leD, gtD, geD, isND, lenD, intD, strD, ordD, listD, tupleD, ixD, PEnds.at, wipeC, qYes,
    List.map_cons, List.map_nil, List.replicate, List.cons_append, List.nil_append, List.append_assoc, List.getElem?_cons_zero, List.getElem?_cons_succ, List.set_cons_zero, List.set_cons_succ, List.length_cons, List.length_nil, Option.map_some, if_true, if_false, Bool.not_true, Bool.not_false, decide_eq_true_eq, Bool.not_eq_true', decide_eq_false_iff_not, Nat.reduceAdd, Nat.reduceSub, List.replicate_succ, List.replicate_zero, true_and, and_true, reduceCtorEq, isStr, qPutS, putS, powD, CPow, qPut, onOwn, setD, qPutP, onPtr, qDelP, delD, qPutF, setF, qProp, qMeth, qMake, isObj, fldD, minD, maxD, qChain, revD, lrevD, isiD, tyD, qOrT, qAndT, onTru, truD, qJoined, qjCons, qjNil, fmtD, fmt5D, D.int.injEq, D.str.injEq, D.lst.injEq, D.tup.injEq, D.bl.injEq, false_implies, true_implies, ne_eq, not_false_eq_true, not_true_eq_false, forall_const, implies_true, false_and, and_false, exists_eq_left, exists_eq_left', Int.reduceEq, Int.reduceLT, Int.reduceNe, Int.reduceLE, or_false, false_or, or_true, true_or, qLc, qFor, qWhile, allD, sortAD, wipeC, isiS, List.any_cons, List.any_nil, Bool.or_false, Bool.or_true, Bool.true_or, Bool.false_or, Bool.and_self, Bool.false_and, Bool.and_false, Bool.and_true, Bool.true_and, String.reduceBEq, Bool.false_eq_true, Bool.true_eq_false, inOp, hp, Option.getD_some, in_dic hv]
  rw [if_neg (fun z => z hl)]
  exact hQ
theorem c_ready_take (G : GE K mg) : Cal P w K mg base "ready_take" ["standing", "line"] 4 sp_ready_take :=
  cal_of G.f_ready_take sc_ready_take (fun _ _ F => F.bindsN fun _ _ _ _ _ _ us hl => match us, hl with | [_, _], _ => rfl) (fun _ _ _ _ ⟨_, _, _, _, e, _⟩ => by rw [e]; rfl) (w_ready_take G (c_check_name G)) v_ready_take
end Pu.L70
set_option Elab.async false
set_option linter.all false
set_option maxRecDepth 100000
set_option maxHeartbeats 4000000
set_option autoImplicit false
namespace Pu.L70
open PySem PySem.Spec PyProof.Rows L2
variable {P : Program} {w : World} {K : PySem.W.Frag} {mg : Str → Option Value} {base : Heap}
def sp_stand_after : Spec := fun ds h Q Ex => ∃ (p : Addr) (e : Deed) (ks : List Str) (vs : List D), ds = [.ptr p, Deed.d e] ∧ h p = some (.dic (kin ks) vs) ∧ vs.length = ks.length ∧ (match e with | .put l _ _ => l ∉ ks ∧ ks.length < 96 | .take l => l ∈ ks) ∧
  ∀ vs', vs'.length = (stepK ks e).length → Q .non (pset h p (.dic (kin (stepK ks e)) vs'))
theorem sc_stand_after : FnScope ["standing", "deed"] ["standing", "deed"] (defScope s_stand_after) := ⟨rfl, rfl, rfl, by decide +kernel, rfl, by decide +kernel, by decide +kernel⟩
def q_stand_after : RS := (qIfS (qTest (qBin eqD (qBin ixD (qPeek 1) (qC (.int 0))) (qC (.str (Str.ofString "put"))))) (qPutP (qTup (qCons (qBin ixD (qPeek 1) (qC (.int 2))) (qCons (qBin ixD (qPeek 1) (qC (.int 3))) qNil))) (qBin ixD (qPeek 1) (qC (.int 1))) (qVar 0)) (qDelP (qBin ixD (qPeek 1) (qC (.int 1))) (qVar 0)))
theorem w_stand_after (G : GE K mg)  : WkOk P w K mg base ["standing", "deed"] "stand_after" s_stand_after 0 q_stand_after := fun f cdv A outer s H E hr tk => by
  have S := sc_stand_after
  unfold q_stand_after
  exact (qss_one (qs_if (qt_cmp op_eq ops_eq (qe_ix (ix_all hr.u1) ops_ix (qk_var 1) (qe_int).k).k (qe_str).k (by rfl)) (qss_one (qs_putP hr.u1 (qe_tup (qa_cons (qe_ix (ix_all hr.u1) ops_ix (qk_var 1) (qe_int).k) (qa_cons (qe_ix (ix_all hr.u1) ops_ix (qk_var 1) (qe_int).k) qa_nil))) (qe_ix (ix_all hr.u1) ops_ix (qk_var 1) (qe_int).k) (qe_var 0))) (qss_one (qs_delP (qe_ix (ix_all hr.u1) ops_ix (qk_var 1) (qe_int).k) (qe_var 0)))))
theorem v_stand_after (ds : List D) (h : PHp) (Qp : D → PHp → Prop) (Ep : XP) : sp_stand_after ds h Qp Ep → q_stand_after (PE0 Qp Ep) (startC 2 ds) h := by
  rintro ⟨p, e, ks, vs, rfl, hp, hv, hc, hQ⟩
  cases e with
  | put l a b =>
    simp only [q_stand_after, Deed.d, Deed.row, startC, qVar, qPeek, qC, qBin, qUn, qNil, qCons, qTup, qLst, qCall, asB, qTest, qAnd, qOr, qNot, qAndV, qOrV, qNotV, qIfE, deref, qNext, qSeq, qSet, qSetN, qSetP, qRet, qRetN, qDrop, qIfS, qFreeze, qApp, onOwnL, qAsg, gqName, gqNil, gqCons, gqTup, qM1, qRng1, qEnum, qAny, asI, asL, itemsD, qPart, qNoPart, qCut, cutD, qCutL, cutLD, addD, subD, mulD, modD, fdivD, eqD, neD, eqS, onB, ltD, leD, gtD, geD, isND, lenD, intD, strD, ordD, listD, tupleD, ixD, PEnds.at, wipeC, qYes,
    List.map_cons, List.map_nil, List.replicate, List.cons_append, List.nil_append, List.append_assoc, List.getElem?_cons_zero, List.getElem?_cons_succ, List.set_cons_zero, List.set_cons_succ, List.length_cons, List.length_nil, Option.map_some, if_true, if_false, Bool.not_true, Bool.not_false, decide_eq_true_eq, Bool.not_eq_true', decide_eq_false_iff_not, Nat.reduceAdd, Nat.reduceSub, List.replicate_succ, List.replicate_zero, true_and, and_true, reduceCtorEq, isStr, qPutS, putS, powD, CPow, qPut, onOwn, setD, qPutP, onPtr, qDelP, delD, qPutF, setF, qProp, qMeth, qMake, isObj, fldD, minD, maxD, qChain, revD, lrevD, isiD, tyD, qOrT, qAndT, onTru, truD, qJoined, qjCons, qjNil, fmtD, fmt5D, D.int.injEq, D.str.injEq, D.lst.injEq, D.tup.injEq, D.bl.injEq, false_implies, true_implies, ne_eq, not_false_eq_true, not_true_eq_false, forall_const, implies_true, false_and, and_false, exists_eq_left, exists_eq_left', Int.reduceEq, Int.reduceLT, Int.reduceNe, Int.reduceLE, or_false, false_or, or_true, true_or, qLc, qFor, qWhile, allD, sortAD, wipeC, isiS, List.any_cons, List.any_nil, Bool.or_false, Bool.or_true, Bool.true_or, Bool.false_or, Bool.and_self, Bool.false_and, Bool.and_false, Bool.and_true, Bool.true_and, String.reduceBEq, Bool.false_eq_true, Bool.true_eq_false]
    refine ⟨_, rfl, ?_⟩
    simp only [startC, qVar, qPeek, qC, qBin, qUn, qNil, qCons, qTup, qLst, qCall, asB, qTest, qAnd, qOr, qNot, qAndV, qOrV, qNotV, qIfE, deref, qNext, qSeq, qSet, qSetN, qSetP, qRet, qRetN, qDrop, qIfS, qFreeze, qApp, onOwnL, qAsg, gqName, gqNil, gqCons, gqTup, qM1, qRng1, qEnum, qAny, asI, asL, itemsD, qPart, qNoPart, qCut, cutD, qCutL, cutLD, addD, subD, mulD, modD, fdivD, eqD, neD, eqS, onB, ltD, leD, gtD, geD, isND, lenD, intD, strD, ordD, listD, tupleD, ixD, PEnds.at, wipeC, qYes,
    List.map_cons, List.map_nil, List.replicate, List.cons_append, List.nil_append, List.append_assoc, List.getElem?_cons_zero, List.getElem?_cons_succ, List.set_cons_zero, List.set_cons_succ, List.length_cons, List.length_nil, Option.map_some, if_true, if_false, Bool.not_true, Bool.not_false, decide_eq_true_eq, Bool.not_eq_true', decide_eq_false_iff_not, Nat.reduceAdd, Nat.reduceSub, List.replicate_succ, List.replicate_zero, true_and, and_true, reduceCtorEq, isStr, qPutS, putS, powD, CPow, qPut, onOwn, setD, qPutP, onPtr, qDelP, delD, qPutF, setF, qProp, qMeth, qMake, isObj, fldD, minD, maxD, qChain, revD, lrevD, isiD, tyD, qOrT, qAndT, onTru, truD, qJoined, qjCons, qjNil, fmtD, fmt5D, D.int.injEq, D.str.injEq, D.lst.injEq, D.tup.injEq, D.bl.injEq, false_implies, true_implies, ne_eq, not_false_eq_true, not_true_eq_false, forall_const, implies_true, false_and, and_false, exists_eq_left, exists_eq_left', Int.reduceEq, Int.reduceLT, Int.reduceNe, Int.reduceLE, or_false, false_or, or_true, true_or, qLc, qFor, qWhile, allD, sortAD, wipeC, isiS, List.any_cons, List.any_nil, Bool.or_false, Bool.or_true, Bool.true_or, Bool.false_or, Bool.and_self, Bool.false_and, Bool.and_false, Bool.and_true, Bool.true_and, String.reduceBEq, Bool.false_eq_true, Bool.true_eq_false]
    refine ⟨_, rfl, _, rfl, _, rfl, ?_⟩
    simp only [startC, qVar, qPeek, qC, qBin, qUn, qNil, qCons, qTup, qLst, qCall, asB, qTest, qAnd, qOr, qNot, qAndV, qOrV, qNotV, qIfE, deref, qNext, qSeq, qSet, qSetN, qSetP, qRet, qRetN, qDrop, qIfS, qFreeze, qApp, onOwnL, qAsg, gqName, gqNil, gqCons, gqTup, qM1, qRng1, qEnum, qAny, asI, asL, itemsD, qPart, qNoPart, qCut, cutD, qCutL, cutLD, addD, subD, mulD, modD, fdivD, eqD, neD, eqS, onB, ltD, leD, gtD, geD, isND, lenD, intD, strD, ordD, listD, tupleD, ixD, PEnds.at, wipeC, qYes,
    List.map_cons, List.map_nil, List.replicate, List.cons_append, List.nil_append, List.append_assoc, List.getElem?_cons_zero, List.getElem?_cons_succ, List.set_cons_zero, List.set_cons_succ, List.length_cons, List.length_nil, Option.map_some, if_true, if_false, Bool.not_true, Bool.not_false, decide_eq_true_eq, Bool.not_eq_true', decide_eq_false_iff_not, Nat.reduceAdd, Nat.reduceSub, List.replicate_succ, List.replicate_zero, true_and, and_true, reduceCtorEq, isStr, qPutS, putS, powD, CPow, qPut, onOwn, setD, qPutP, onPtr, qDelP, delD, qPutF, setF, qProp, qMeth, qMake, isObj, fldD, minD, maxD, qChain, revD, lrevD, isiD, tyD, qOrT, qAndT, onTru, truD, qJoined, qjCons, qjNil, fmtD, fmt5D, D.int.injEq, D.str.injEq, D.lst.injEq, D.tup.injEq, D.bl.injEq, false_implies, true_implies, ne_eq, not_false_eq_true, not_true_eq_false, forall_const, implies_true, false_and, and_false, exists_eq_left, exists_eq_left', Int.reduceEq, Int.reduceLT, Int.reduceNe, Int.reduceLE, or_false, false_or, or_true, true_or, qLc, qFor, qWhile, allD, sortAD, wipeC, isiS, List.any_cons, List.any_nil, Bool.or_false, Bool.or_true, Bool.true_or, Bool.false_or, Bool.and_self, Bool.false_and, Bool.and_false, Bool.and_true, Bool.true_and, String.reduceBEq, Bool.false_eq_true, Bool.true_eq_false, hp, keyD, Option.some.injEq, exists_eq_left']
    rw [dput_new hc.1]
    exact ⟨by rw [kin_len, sizeLine_eq]; omega, hQ _ (by simp [stepK, hv])⟩
  | take l =>
    simp only [q_stand_after, Deed.d, Deed.row, startC, qVar, qPeek, qC, qBin, qUn, qNil, qCons, qTup, qLst, qCall, asB, qTest, qAnd, qOr, qNot, qAndV, qOrV, qNotV, qIfE, deref, qNext, qSeq, qSet, qSetN, qSetP, qRet, qRetN, qDrop, qIfS, qFreeze, qApp, onOwnL, qAsg, gqName, gqNil, gqCons, gqTup, qM1, qRng1, qEnum, qAny, asI, asL, itemsD, qPart, qNoPart, qCut, cutD, qCutL, cutLD, addD, subD, mulD, modD, fdivD, eqD, neD, eqS, onB, ltD, leD, gtD, geD, isND, lenD, intD, strD, ordD, listD, tupleD, ixD, PEnds.at, wipeC, qYes,
    List.map_cons, List.map_nil, List.replicate, List.cons_append, List.nil_append, List.append_assoc, List.getElem?_cons_zero, List.getElem?_cons_succ, List.set_cons_zero, List.set_cons_succ, List.length_cons, List.length_nil, Option.map_some, if_true, if_false, Bool.not_true, Bool.not_false, decide_eq_true_eq, Bool.not_eq_true', decide_eq_false_iff_not, Nat.reduceAdd, Nat.reduceSub, List.replicate_succ, List.replicate_zero, true_and, and_true, reduceCtorEq, isStr, qPutS, putS, powD, CPow, qPut, onOwn, setD, qPutP, onPtr, qDelP, delD, qPutF, setF, qProp, qMeth, qMake, isObj, fldD, minD, maxD, qChain, revD, lrevD, isiD, tyD, qOrT, qAndT, onTru, truD, qJoined, qjCons, qjNil, fmtD, fmt5D, D.int.injEq, D.str.injEq, D.lst.injEq, D.tup.injEq, D.bl.injEq, false_implies, true_implies, ne_eq, not_false_eq_true, not_true_eq_false, forall_const, implies_true, false_and, and_false, exists_eq_left, exists_eq_left', Int.reduceEq, Int.reduceLT, Int.reduceNe, Int.reduceLE, or_false, false_or, or_true, true_or, qLc, qFor, qWhile, allD, sortAD, wipeC, isiS, List.any_cons, List.any_nil, Bool.or_false, Bool.or_true, Bool.true_or, Bool.false_or, Bool.and_self, Bool.false_and, Bool.and_false, Bool.and_true, Bool.true_and, String.reduceBEq, Bool.false_eq_true, Bool.true_eq_false]
    refine ⟨_, rfl, ?_⟩
    have hpt : ¬ Str.ofString "take" = Str.ofString "put" := by decide
    simp only [startC, qVar, qPeek, qC, qBin, qUn, qNil, qCons, qTup, qLst, qCall, asB, qTest, qAnd, qOr, qNot, qAndV, qOrV, qNotV, qIfE, deref, qNext, qSeq, qSet, qSetN, qSetP, qRet, qRetN, qDrop, qIfS, qFreeze, qApp, onOwnL, qAsg, gqName, gqNil, gqCons, gqTup, qM1, qRng1, qEnum, qAny, asI, asL, itemsD, qPart, qNoPart, qCut, cutD, qCutL, cutLD, addD, subD, mulD, modD, fdivD, eqD, neD, eqS, onB, ltD, leD, gtD, geD, isND, lenD, intD, strD, ordD, listD, tupleD, ixD, PEnds.at, wipeC, qYes,
    List.map_cons, List.map_nil, List.replicate, List.cons_append, List.nil_append, List.append_assoc, List.getElem?_cons_zero, List.getElem?_cons_succ, List.set_cons_zero, List.set_cons_succ, List.length_cons, List.length_nil, Option.map_some, if_true, if_false, Bool.not_true, Bool.not_false, decide_eq_true_eq, Bool.not_eq_true', decide_eq_false_iff_not, Nat.reduceAdd, Nat.reduceSub, List.replicate_succ, List.replicate_zero, true_and, and_true, reduceCtorEq, isStr, qPutS, putS, powD, CPow, qPut, onOwn, setD, qPutP, onPtr, qDelP, delD, qPutF, setF, qProp, qMeth, qMake, isObj, fldD, minD, maxD, qChain, revD, lrevD, isiD, tyD, qOrT, qAndT, onTru, truD, qJoined, qjCons, qjNil, fmtD, fmt5D, D.int.injEq, D.str.injEq, D.lst.injEq, D.tup.injEq, D.bl.injEq, false_implies, true_implies, ne_eq, not_false_eq_true, not_true_eq_false, forall_const, implies_true, false_and, and_false, exists_eq_left, exists_eq_left', Int.reduceEq, Int.reduceLT, Int.reduceNe, Int.reduceLE, or_false, false_or, or_true, true_or, qLc, qFor, qWhile, allD, sortAD, wipeC, isiS, List.any_cons, List.any_nil, Bool.or_false, Bool.or_true, Bool.true_or, Bool.false_or, Bool.and_self, Bool.false_and, Bool.and_false, Bool.and_true, Bool.true_and, String.reduceBEq, Bool.false_eq_true, Bool.true_eq_false, hpt]
    refine ⟨_, rfl, ?_⟩
    simp only [startC, qVar, qPeek, qC, qBin, qUn, qNil, qCons, qTup, qLst, qCall, asB, qTest, qAnd, qOr, qNot, qAndV, qOrV, qNotV, qIfE, deref, qNext, qSeq, qSet, qSetN, qSetP, qRet, qRetN, qDrop, qIfS, qFreeze, qApp, onOwnL, qAsg, gqName, gqNil, gqCons, gqTup, qM1, qRng1, qEnum, qAny, asI, asL, itemsD, qPart, qNoPart, qCut, cutD, qCutL, cutLD, addD, subD, mulD, modD, fdivD, eqD, neD, eqS, onB, ltD, leD, gtD, geD, isND, lenD, intD, strD, ordD, listD, tupleD, ixD, PEnds.at, wipeC, qYes,
    List.map_cons, List.map_nil, List.replicate, List.cons_append, List.nil_append, List.append_assoc, List.getElem?_cons_zero, List.getElem?_cons_succ, List.set_cons_zero, List.set_cons_succ, List.length_cons, List.length_nil, Option.map_some, if_true, if_false, Bool.not_true, Bool.not_false, decide_eq_true_eq, Bool.not_eq_true', decide_eq_false_iff_not, Nat.reduceAdd, Nat.reduceSub, List.replicate_succ, List.replicate_zero, true_and, and_true, reduceCtorEq, isStr, qPutS, putS, powD, CPow, qPut, onOwn, setD, qPutP, onPtr, qDelP, delD, qPutF, setF, qProp, qMeth, qMake, isObj, fldD, minD, maxD, qChain, revD, lrevD, isiD, tyD, qOrT, qAndT, onTru, truD, qJoined, qjCons, qjNil, fmtD, fmt5D, D.int.injEq, D.str.injEq, D.lst.injEq, D.tup.injEq, D.bl.injEq, false_implies, true_implies, ne_eq, not_false_eq_true, not_true_eq_false, forall_const, implies_true, false_and, and_false, exists_eq_left, exists_eq_left', Int.reduceEq, Int.reduceLT, Int.reduceNe, Int.reduceLE, or_false, false_or, or_true, true_or, qLc, qFor, qWhile, allD, sortAD, wipeC, isiS, List.any_cons, List.any_nil, Bool.or_false, Bool.or_true, Bool.true_or, Bool.false_or, Bool.and_self, Bool.false_and, Bool.and_false, Bool.and_true, Bool.true_and, String.reduceBEq, Bool.false_eq_true, Bool.true_eq_false, hp, keyD, Option.some.injEq, exists_eq_left']
    obtain ⟨vs', h1, h2⟩ := ddel_old (l := l) hv
    rw [h2, dlook_in hv]
    exact ⟨decide_eq_true hc, hQ _ h1⟩
theorem c_stand_after (G : GE K mg) : Cal P w K mg base "stand_after" ["standing", "deed"] 1 sp_stand_after :=
  cal_of G.f_stand_after sc_stand_after (fun _ _ F => F.bindsN fun _ _ _ _ _ _ us hl => match us, hl with | [_, _], _ => rfl) (fun _ _ _ _ ⟨_, _, _, _, e, _⟩ => by rw [e]; rfl) (w_stand_after G ) v_stand_after
end Pu.L70
set_option Elab.async false
set_option linter.all false
set_option maxRecDepth 100000
set_option maxHeartbeats 4000000
set_option autoImplicit false
namespace Pu.L70
open PySem PySem.Spec PyProof.Rows L2
variable {P : Program} {w : World} {K : PySem.W.Frag} {mg : Str → Option Value} {base : Heap}
def sp_next_deed : Spec := fun ds h Q Ex => ∃ (hs : List Str) (p : Addr) (n : Int) (x : D) (e : Deed) (ks : List Str) (vs : List D), ds = [.lst (hs.map D.str), .ptr p, .int n, x] ∧ n < 240 ∧ Deed.handed e x ∧ h p = some (.dic (kin ks) vs) ∧ vs.length = ks.length ∧ (∀ s ∈ hs, nameB s = true) ∧ okD hs ks e ∧
  ∀ vs', vs'.length = (stepK ks e).length → Q (Deed.d e) (pset h p (.dic (kin (stepK ks e)) vs'))
theorem sc_next_deed : FnScope ["houses", "standing", "place", "deed", "ready"] ["houses", "standing", "place", "deed"] (defScope s_next_deed) := ⟨rfl, rfl, rfl, by decide +kernel, rfl, by decide +kernel, by decide +kernel⟩
def q_next_deed : RS := (qSeq (qIfS (qNot (qTest (qCall sp_has_deed_form (qCons (qVar 3) qNil)))) qNever qNext)
  (qSeq (qIfS (qTest (qBin eqD (qBin ixD (qPeek 3) (qC (.int 0))) (qC (.str (Str.ofString "put"))))) (qSet 4 (qCall sp_ready_put (qCons (qVar 0) (qCons (qVar 1) (qCons (qBin ixD (qPeek 3) (qC (.int 1))) (qCons (qBin ixD (qPeek 3) (qC (.int 2))) (qCons (qBin ixD (qPeek 3) (qC (.int 3))) qNil))))))) (qSet 4 (qCall sp_ready_take (qCons (qVar 1) (qCons (qBin ixD (qPeek 3) (qC (.int 1))) qNil)))))
  (qSeq (qIfS (qTest (qBin geD (qPeek 2) (qC (.int 240)))) qNever qNext)
  (qSeq (qDrop (qCall sp_stand_after (qCons (qVar 1) (qCons (qVar 4) qNil))))
  (qRet (qVar 4))))))
theorem w_next_deed (G : GE K mg) (C_has_deed_form : Cal P w K mg base "has_deed_form" ["deed"] 1 sp_has_deed_form) (C_ready_put : Cal P w K mg base "ready_put" ["houses", "standing", "line", "a", "b"] 4 sp_ready_put) (C_ready_take : Cal P w K mg base "ready_take" ["standing", "line"] 4 sp_ready_take) (C_stand_after : Cal P w K mg base "stand_after" ["standing", "deed"] 1 sp_stand_after) : WkOk P w K mg base ["houses", "standing", "place", "deed", "ready"] "next_deed" s_next_deed 4 q_next_deed := fun f cdv A outer s H E hr tk => by
  have S := sc_next_deed
  unfold q_next_deed
  exact (qss_cons (qs_if (qt_not (qt_val (qe_callC C_has_deed_form hr tk (qa_cons (qe_var 3) qa_nil)).k)) (qss_one qs_never) qss_nil)
    (qss_cons (qs_if (qt_cmp op_eq ops_eq (qe_ix (ix_all hr.u1) ops_ix (qk_var 3) (qe_int).k).k (qe_str).k (by rfl)) (qss_one (qs_set 4 (qe_callC C_ready_put hr tk (qa_cons (qe_var 0) (qa_cons (qe_var 1) (qa_cons (qe_ix (ix_all hr.u1) ops_ix (qk_var 3) (qe_int).k) (qa_cons (qe_ix (ix_all hr.u1) ops_ix (qk_var 3) (qe_int).k) (qa_cons (qe_ix (ix_all hr.u1) ops_ix (qk_var 3) (qe_int).k) qa_nil)))))) S.nd)) (qss_one (qs_set 4 (qe_callC C_ready_take hr tk (qa_cons (qe_var 1) (qa_cons (qe_ix (ix_all hr.u1) ops_ix (qk_var 3) (qe_int).k) qa_nil))) S.nd)))
    (qss_cons (qs_if (qt_cmp op_geAll ops_ge (qk_var 2) (qe_globI (Classical.choose_spec G.c_MOST_DEEDS)).k (by rfl)) (qss_one qs_never) qss_nil)
    (qss_cons (qs_expr (qe_callC C_stand_after hr tk (qa_cons (qe_var 1) (qa_cons (qe_var 4) qa_nil))))
    (qss_one (qs_ret (qe_var 4)))))))
theorem v_next_deed (ds : List D) (h : PHp) (Qp : D → PHp → Prop) (Ep : XP) : sp_next_deed ds h Qp Ep → q_next_deed (PE0 Qp Ep) (startC 5 ds) h := by
  rintro ⟨hs, p, n, x, e, ks, vs, rfl, hn, hx, hp, hv, hh, hok, hQ⟩
  simp only [q_next_deed, startC, qVar, qPeek, qC, qBin, qUn, qNil, qCons, qTup, qLst, qCall, asB, qTest, qAnd, qOr, qNot, qAndV, qOrV, qNotV, qIfE, deref, qNext, qSeq, qSet, qSetN, qSetP, qRet, qRetN, qDrop, qIfS, qFreeze, qApp, onOwnL, qAsg, gqName, gqNil, gqCons, gqTup, qM1, qRng1, qEnum, qAny, asI, asL, itemsD, qPart, qNoPart, qCut, cutD, qCutL, cutLD, addD, subD, mulD, modD, fdivD, eqD, neD, eqS, onB, ltD, leD, gtD, geD, isND, lenD, intD, strD, ordD, listD, tupleD, ixD, PEnds.at, wipeC, qYes,
    List.map_cons, List.map_nil, List.replicate, List.cons_append, List.nil_append, List.append_assoc, List.getElem?_cons_zero, List.getElem?_cons_succ, List.set_cons_zero, List.set_cons_succ, List.length_cons, List.length_nil, Option.map_some, if_true, if_false, Bool.not_true, Bool.not_false, decide_eq_true_eq, Bool.not_eq_true', decide_eq_false_iff_not, Nat.reduceAdd, Nat.reduceSub, List.replicate_succ, List.replicate_zero, true_and, and_true, reduceCtorEq, isStr, qPutS, putS, powD, CPow, qPut, onOwn, setD, qPutP, onPtr, qDelP, delD, qPutF, setF, qProp, qMeth, qMake, isObj, fldD, minD, maxD, qChain, revD, lrevD, isiD, tyD, qOrT, qAndT, onTru, truD, qJoined, qjCons, qjNil, fmtD, fmt5D, D.int.injEq, D.str.injEq, D.lst.injEq, D.tup.injEq, D.bl.injEq, false_implies, true_implies, ne_eq, not_false_eq_true, not_true_eq_false, forall_const, implies_true, false_and, and_false, exists_eq_left, exists_eq_left', Int.reduceEq, Int.reduceLT, Int.reduceNe, Int.reduceLE, or_false, false_or, or_true, true_or, qLc, qFor, qWhile, allD, sortAD, wipeC, isiS, List.any_cons, List.any_nil, Bool.or_false, Bool.or_true, Bool.true_or, Bool.false_or, Bool.and_self, Bool.false_and, Bool.and_false, Bool.and_true, Bool.true_and, String.reduceBEq, Bool.false_eq_true, Bool.true_eq_false]
  refine ⟨x, e, rfl, hx, ?_⟩
  cases e with
  | put l a b =>
    have hab : ¬ tl b < tl a := fun c => List.lt_irrefl _ (List.lt_trans hok.2.2.2.1 c)
    have hne : a ≠ b := fun z => List.lt_irrefl (tl a) (by have := hok.2.2.2.1; rw [← z] at this; exact this)
    have fin : ∀ Ex, sp_stand_after [.ptr p, Deed.d (.put l a b)] h (fun _ h1 => Qp (Deed.d (.put l a b)) h1) Ex := fun Ex => ⟨p, .put l a b, ks, vs, rfl, hp, hv, ⟨hok.2.2.2.2.1, hok.2.2.2.2.2⟩, fun vs' hl => hQ vs' hl⟩
    rcases hx with rfl | rfl | rfl | rfl <;> simp only [Deed.row, Deed.swap, startC, qVar, qPeek, qC, qBin, qUn, qNil, qCons, qTup, qLst, qCall, asB, qTest, qAnd, qOr, qNot, qAndV, qOrV, qNotV, qIfE, deref, qNext, qSeq, qSet, qSetN, qSetP, qRet, qRetN, qDrop, qIfS, qFreeze, qApp, onOwnL, qAsg, gqName, gqNil, gqCons, gqTup, qM1, qRng1, qEnum, qAny, asI, asL, itemsD, qPart, qNoPart, qCut, cutD, qCutL, cutLD, addD, subD, mulD, modD, fdivD, eqD, neD, eqS, onB, ltD, leD, gtD, geD, isND, lenD, intD, strD, ordD, listD, tupleD, ixD, PEnds.at, wipeC, qYes,
    List.map_cons, List.map_nil, List.replicate, List.cons_append, List.nil_append, List.append_assoc, List.getElem?_cons_zero, List.getElem?_cons_succ, List.set_cons_zero, List.set_cons_succ, List.length_cons, List.length_nil, Option.map_some, if_true, if_false, Bool.not_true, Bool.not_false, decide_eq_true_eq, Bool.not_eq_true', decide_eq_false_iff_not, Nat.reduceAdd, Nat.reduceSub, List.replicate_succ, List.replicate_zero, true_and, and_true, reduceCtorEq, isStr, qPutS, putS, powD, CPow, qPut, onOwn, setD, qPutP, onPtr, qDelP, delD, qPutF, setF, qProp, qMeth, qMake, isObj, fldD, minD, maxD, qChain, revD, lrevD, isiD, tyD, qOrT, qAndT, onTru, truD, qJoined, qjCons, qjNil, fmtD, fmt5D, D.int.injEq, D.str.injEq, D.lst.injEq, D.tup.injEq, D.bl.injEq, false_implies, true_implies, ne_eq, not_false_eq_true, not_true_eq_false, forall_const, implies_true, false_and, and_false, exists_eq_left, exists_eq_left', Int.reduceEq, Int.reduceLT, Int.reduceNe, Int.reduceLE, or_false, false_or, or_true, true_or, qLc, qFor, qWhile, allD, sortAD, wipeC, isiS, List.any_cons, List.any_nil, Bool.or_false, Bool.or_true, Bool.true_or, Bool.false_or, Bool.and_self, Bool.false_and, Bool.and_false, Bool.and_true, Bool.true_and, String.reduceBEq, Bool.false_eq_true, Bool.true_eq_false]
    all_goals refine ⟨_, rfl, ?_⟩
    all_goals simp only [startC, qVar, qPeek, qC, qBin, qUn, qNil, qCons, qTup, qLst, qCall, asB, qTest, qAnd, qOr, qNot, qAndV, qOrV, qNotV, qIfE, deref, qNext, qSeq, qSet, qSetN, qSetP, qRet, qRetN, qDrop, qIfS, qFreeze, qApp, onOwnL, qAsg, gqName, gqNil, gqCons, gqTup, qM1, qRng1, qEnum, qAny, asI, asL, itemsD, qPart, qNoPart, qCut, cutD, qCutL, cutLD, addD, subD, mulD, modD, fdivD, eqD, neD, eqS, onB, ltD, leD, gtD, geD, isND, lenD, intD, strD, ordD, listD, tupleD, ixD, PEnds.at, wipeC, qYes,
    List.map_cons, List.map_nil, List.replicate, List.cons_append, List.nil_append, List.append_assoc, List.getElem?_cons_zero, List.getElem?_cons_succ, List.set_cons_zero, List.set_cons_succ, List.length_cons, List.length_nil, Option.map_some, if_true, if_false, Bool.not_true, Bool.not_false, decide_eq_true_eq, Bool.not_eq_true', decide_eq_false_iff_not, Nat.reduceAdd, Nat.reduceSub, List.replicate_succ, List.replicate_zero, true_and, and_true, reduceCtorEq, isStr, qPutS, putS, powD, CPow, qPut, onOwn, setD, qPutP, onPtr, qDelP, delD, qPutF, setF, qProp, qMeth, qMake, isObj, fldD, minD, maxD, qChain, revD, lrevD, isiD, tyD, qOrT, qAndT, onTru, truD, qJoined, qjCons, qjNil, fmtD, fmt5D, D.int.injEq, D.str.injEq, D.lst.injEq, D.tup.injEq, D.bl.injEq, false_implies, true_implies, ne_eq, not_false_eq_true, not_true_eq_false, forall_const, implies_true, false_and, and_false, exists_eq_left, exists_eq_left', Int.reduceEq, Int.reduceLT, Int.reduceNe, Int.reduceLE, or_false, false_or, or_true, true_or, qLc, qFor, qWhile, allD, sortAD, wipeC, isiS, List.any_cons, List.any_nil, Bool.or_false, Bool.or_true, Bool.true_or, Bool.false_or, Bool.and_self, Bool.false_and, Bool.and_false, Bool.and_true, Bool.true_and, String.reduceBEq, Bool.false_eq_true, Bool.true_eq_false]
    · refine ⟨_, rfl, _, rfl, _, rfl, hs, p, l, a, b, ks, vs, rfl, hp, hv, hok.1, hh a hok.2.1, hh b hok.2.2.1, hok.2.1, hok.2.2.1, hne, hok.2.2.2.2.1, hok.2.2.2.2.2, ?_⟩
      rw [if_neg hab]
      dsimp only
      rw [if_neg (by omega)]
      exact fin _
    · refine ⟨_, rfl, _, rfl, _, rfl, hs, p, l, a, b, ks, vs, rfl, hp, hv, hok.1, hh a hok.2.1, hh b hok.2.2.1, hok.2.1, hok.2.2.1, hne, hok.2.2.2.2.1, hok.2.2.2.2.2, ?_⟩
      rw [if_neg hab]
      dsimp only
      rw [if_neg (by omega)]
      exact fin _
    · refine ⟨_, rfl, _, rfl, _, rfl, hs, p, l, b, a, ks, vs, rfl, hp, hv, hok.1, hh b hok.2.2.1, hh a hok.2.1, hok.2.2.1, hok.2.1, hne.symm, hok.2.2.2.2.1, hok.2.2.2.2.2, ?_⟩
      rw [if_pos hok.2.2.2.1]
      dsimp only
      rw [if_neg (by omega)]
      exact fin _
    · refine ⟨_, rfl, _, rfl, _, rfl, hs, p, l, b, a, ks, vs, rfl, hp, hv, hok.1, hh b hok.2.2.1, hh a hok.2.1, hok.2.2.1, hok.2.1, hne.symm, hok.2.2.2.2.1, hok.2.2.2.2.2, ?_⟩
      rw [if_pos hok.2.2.2.1]
      dsimp only
      rw [if_neg (by omega)]
      exact fin _
  | take l =>
    have hpt : ¬ Str.ofString "take" = Str.ofString "put" := by decide
    have fin : ∀ Ex, sp_stand_after [.ptr p, Deed.d (.take l)] h (fun _ h1 => Qp (Deed.d (.take l)) h1) Ex := fun Ex => ⟨p, .take l, ks, vs, rfl, hp, hv, hok.2, fun vs' hl => hQ vs' hl⟩
    rcases hx with rfl | rfl | rfl | rfl <;> simp only [Deed.row, Deed.swap, startC, qVar, qPeek, qC, qBin, qUn, qNil, qCons, qTup, qLst, qCall, asB, qTest, qAnd, qOr, qNot, qAndV, qOrV, qNotV, qIfE, deref, qNext, qSeq, qSet, qSetN, qSetP, qRet, qRetN, qDrop, qIfS, qFreeze, qApp, onOwnL, qAsg, gqName, gqNil, gqCons, gqTup, qM1, qRng1, qEnum, qAny, asI, asL, itemsD, qPart, qNoPart, qCut, cutD, qCutL, cutLD, addD, subD, mulD, modD, fdivD, eqD, neD, eqS, onB, ltD, leD, gtD, geD, isND, lenD, intD, strD, ordD, listD, tupleD, ixD, PEnds.at, wipeC, qYes,
    List.map_cons, List.map_nil, List.replicate, List.cons_append, List.nil_append, List.append_assoc, List.getElem?_cons_zero, List.getElem?_cons_succ, List.set_cons_zero, List.set_cons_succ, List.length_cons, List.length_nil, Option.map_some, if_true, if_false, Bool.not_true, Bool.not_false, decide_eq_true_eq, Bool.not_eq_true', decide_eq_false_iff_not, Nat.reduceAdd, Nat.reduceSub, List.replicate_succ, List.replicate_zero, true_and, and_true, reduceCtorEq, isStr, qPutS, putS, powD, CPow, qPut, onOwn, setD, qPutP, onPtr, qDelP, delD, qPutF, setF, qProp, qMeth, qMake, isObj, fldD, minD, maxD, qChain, revD, lrevD, isiD, tyD, qOrT, qAndT, onTru, truD, qJoined, qjCons, qjNil, fmtD, fmt5D, D.int.injEq, D.str.injEq, D.lst.injEq, D.tup.injEq, D.bl.injEq, false_implies, true_implies, ne_eq, not_false_eq_true, not_true_eq_false, forall_const, implies_true, false_and, and_false, exists_eq_left, exists_eq_left', Int.reduceEq, Int.reduceLT, Int.reduceNe, Int.reduceLE, or_false, false_or, or_true, true_or, qLc, qFor, qWhile, allD, sortAD, wipeC, isiS, List.any_cons, List.any_nil, Bool.or_false, Bool.or_true, Bool.true_or, Bool.false_or, Bool.and_self, Bool.false_and, Bool.and_false, Bool.and_true, Bool.true_and, String.reduceBEq, Bool.false_eq_true, Bool.true_eq_false]
    all_goals refine ⟨_, rfl, ?_⟩
    all_goals simp only [startC, qVar, qPeek, qC, qBin, qUn, qNil, qCons, qTup, qLst, qCall, asB, qTest, qAnd, qOr, qNot, qAndV, qOrV, qNotV, qIfE, deref, qNext, qSeq, qSet, qSetN, qSetP, qRet, qRetN, qDrop, qIfS, qFreeze, qApp, onOwnL, qAsg, gqName, gqNil, gqCons, gqTup, qM1, qRng1, qEnum, qAny, asI, asL, itemsD, qPart, qNoPart, qCut, cutD, qCutL, cutLD, addD, subD, mulD, modD, fdivD, eqD, neD, eqS, onB, ltD, leD, gtD, geD, isND, lenD, intD, strD, ordD, listD, tupleD, ixD, PEnds.at, wipeC, qYes,
    List.map_cons, List.map_nil, List.replicate, List.cons_append, List.nil_append, List.append_assoc, List.getElem?_cons_zero, List.getElem?_cons_succ, List.set_cons_zero, List.set_cons_succ, List.length_cons, List.length_nil, Option.map_some, if_true, if_false, Bool.not_true, Bool.not_false, decide_eq_true_eq, Bool.not_eq_true', decide_eq_false_iff_not, Nat.reduceAdd, Nat.reduceSub, List.replicate_succ, List.replicate_zero, true_and, and_true, reduceCtorEq, isStr, qPutS, putS, powD, CPow, qPut, onOwn, setD, qPutP, onPtr, qDelP, delD, qPutF, setF, qProp, qMeth, qMake, isObj, fldD, minD, maxD, qChain, revD, lrevD, isiD, tyD, qOrT, qAndT, onTru, truD, qJoined, qjCons, qjNil, fmtD, fmt5D, D.int.injEq, D.str.injEq, D.lst.injEq, D.tup.injEq, D.bl.injEq, false_implies, true_implies, ne_eq, not_false_eq_true, not_true_eq_false, forall_const, implies_true, false_and, and_false, exists_eq_left, exists_eq_left', Int.reduceEq, Int.reduceLT, Int.reduceNe, Int.reduceLE, or_false, false_or, or_true, true_or, qLc, qFor, qWhile, allD, sortAD, wipeC, isiS, List.any_cons, List.any_nil, Bool.or_false, Bool.or_true, Bool.true_or, Bool.false_or, Bool.and_self, Bool.false_and, Bool.and_false, Bool.and_true, Bool.true_and, String.reduceBEq, Bool.false_eq_true, Bool.true_eq_false, hpt]
    all_goals refine ⟨_, rfl, p, l, ks, vs, rfl, hp, hv, hok.1, hok.2, ?_⟩
    all_goals dsimp only
    all_goals rw [if_neg (by omega)]
    all_goals exact fin _
theorem c_next_deed (G : GE K mg) : Cal P w K mg base "next_deed" ["houses", "standing", "place", "deed"] 5 sp_next_deed :=
  cal_of G.f_next_deed sc_next_deed (fun _ _ F => F.bindsN fun _ _ _ _ _ _ us hl => match us, hl with | [_, _, _, _], _ => rfl) (fun _ _ _ _ ⟨_, _, _, _, _, _, _, e, _⟩ => by rw [e]; rfl) (w_next_deed G (c_has_deed_form G) (c_ready_put G) (c_ready_take G) (c_stand_after G)) v_next_deed
end Pu.L70
set_option Elab.async false
set_option linter.all false
set_option maxRecDepth 100000
set_option maxHeartbeats 4000000
set_option autoImplicit false
namespace Pu.L70
open PySem PySem.Spec PyProof.Rows L2
def okSeq (hs : List Str) : List Str → List Deed → Prop
  | _, [] => True
  | ks, e :: r => okD hs ks e ∧ okSeq hs (stepK ks e) r
def runK (ks : List Str) (es : List Deed) : List Str := es.foldl stepK ks
theorem okSeq_get {hs : List Str} : ∀ {es : List Deed} {ks : List Str} {i : Nat} {e : Deed}, okSeq hs ks es → es[i]? = some e → okD hs (runK ks (es.take i)) e
  | [], _, _, _, _, h => by simp at h
  | f :: r, ks, 0, e, h, he => by
    have : f = e := by simpa using he
    subst this
    exact h.1
  | f :: r, ks, i + 1, e, h, he => okSeq_get (ks := stepK ks f) h.2 (by simpa using he)
theorem runK_snoc {ks : List Str} {es : List Deed} {e : Deed} : runK ks (es ++ [e]) = stepK (runK ks es) e := by
  unfold runK
  rw [List.foldl_append]
  rfl
theorem enum_get {xs : List D} {i : Nat} {d : D} (h : (enumD xs)[i]? = some d) : ∃ x, xs[i]? = some x ∧ d = .tup [.int (i : Int), x] := by
  unfold enumD at h
  rw [List.getElem?_map, List.getElem?_zipIdx] at h
  cases e : xs[i]? with
  | none => rw [e] at h; cases h
  | some x => rw [e] at h; cases h; exact ⟨x, rfl, by simp⟩
theorem enum_len {xs : List D} : (enumD xs).length = xs.length := by
  unfold enumD
  simp
/-- the objects that stood stay -/
def Keeps (h h' : PHp) : Prop := ∀ a d, h a = some d → h' a = some d
theorem Keeps.set {h h' : PHp} {p : Addr} {d : D} (k : Keeps h h') (hp : h p = none) : Keeps h (pset h' p d) := fun a e he => by
  unfold pset
  split
  · rename_i c; subst c; rw [hp] at he; cases he
  · exact k a e he
end Pu.L70
set_option Elab.async false
set_option linter.all false
set_option maxRecDepth 100000
set_option maxHeartbeats 4000000
set_option autoImplicit false
namespace Pu.L70
open PySem PySem.Spec PyProof.Rows L2
variable {P : Program} {w : World} {K : PySem.W.Frag} {mg : Str → Option Value} {base : Heap}
def sp_checked_deeds : Spec := fun ds h Q Ex => ∃ (hs : List Str) (xs : List D) (es : List Deed), ds = [.lst (hs.map D.str), .lst xs] ∧ xs.length = es.length ∧ (∀ (i : Nat) (e : Deed) (x : D), es[i]? = some e → xs[i]? = some x → Deed.handed e x) ∧ (∀ s ∈ hs, nameB s = true) ∧ es.length ≤ 240 ∧ okSeq hs [] es ∧
  ∀ h', Keeps h h' → Q (.lst (es.map Deed.d)) h'
theorem sc_checked_deeds : FnScope ["houses", "deeds", "standing", "ready", "place", "deed"] ["houses", "deeds"] (defScope s_checked_deeds) := ⟨rfl, rfl, rfl, by decide +kernel, rfl, by decide +kernel, by decide +kernel⟩
def q_checked_deeds : RS := (qSeq (qSetP 2 (qC (.dic [] [])))
  (qSeq (qSetN 3 (qLst qNil))
  (qSeq (qFor (qEnum (qVar 1)) (gqTup 2 (gqCons (gqName 4) (gqCons (gqName 5) gqNil))) (qApp 3 (qCall sp_next_deed (qCons (qVar 0) (qCons (qVar 2) (qCons (qVar 4) (qCons (qVar 5) qNil)))))))
  (qFreeze 3 (qRet (qVar 3))))))
theorem w_checked_deeds (G : GE K mg) (C_next_deed : Cal P w K mg base "next_deed" ["houses", "standing", "place", "deed"] 5 sp_next_deed) : WkOk P w K mg base ["houses", "deeds", "standing", "ready", "place", "deed"] "checked_deeds" s_checked_deeds 5 q_checked_deeds := fun f cdv A outer s H E hr tk => by
  have S := sc_checked_deeds
  unfold q_checked_deeds
  exact (qss_cons (qs_setP 2 qn_dic0 S.nd)
    (qss_cons (qs_setN 3 (qn_lst qa_nil) S.nd)
    (qss_cons (qs_for (passes_of rfl) rfl (qi_enum (qe_var 1) G.n_enumerate) (qg_tup rfl (qgs_cons (qg_name 4 S.nd) (qgs_cons (qg_name 5 S.nd) qgs_nil))) (qss_one (qs_app 3 (qe_callC C_next_deed hr tk (qa_cons (qe_var 0) (qa_cons (qe_var 2) (qa_cons (qe_var 4) (qa_cons (qe_var 5) qa_nil))))))))
    (qss_freeze 3 (qss_one (qs_ret (qe_var 3)))))))
theorem v_checked_deeds (ds : List D) (h : PHp) (Qp : D → PHp → Prop) (Ep : XP) : sp_checked_deeds ds h Qp Ep → q_checked_deeds (PE0 Qp Ep) (startC 6 ds) h := by
  rintro ⟨hs, xs, es, rfl, hl, hx, hh, hn, hok, hQ⟩
  simp only [q_checked_deeds, startC, qVar, qPeek, qC, qBin, qUn, qNil, qCons, qTup, qLst, qCall, asB, qTest, qAnd, qOr, qNot, qAndV, qOrV, qNotV, qIfE, deref, qNext, qSeq, qSet, qSetN, qSetP, qRet, qRetN, qDrop, qIfS, qFreeze, qApp, onOwnL, qAsg, gqName, gqNil, gqCons, gqTup, qM1, qRng1, qEnum, qAny, asI, asL, itemsD, qPart, qNoPart, qCut, cutD, qCutL, cutLD, addD, subD, mulD, modD, fdivD, eqD, neD, eqS, onB, ltD, leD, gtD, geD, isND, lenD, intD, strD, ordD, listD, tupleD, ixD, PEnds.at, wipeC, qYes,
    List.map_cons, List.map_nil, List.replicate, List.cons_append, List.nil_append, List.append_assoc, List.getElem?_cons_zero, List.getElem?_cons_succ, List.set_cons_zero, List.set_cons_succ, List.length_cons, List.length_nil, Option.map_some, if_true, if_false, Bool.not_true, Bool.not_false, decide_eq_true_eq, Bool.not_eq_true', decide_eq_false_iff_not, Nat.reduceAdd, Nat.reduceSub, List.replicate_succ, List.replicate_zero, true_and, and_true, reduceCtorEq, isStr, qPutS, putS, powD, CPow, qPut, onOwn, setD, qPutP, onPtr, qDelP, delD, qPutF, setF, qProp, qMeth, qMake, isObj, fldD, minD, maxD, qChain, revD, lrevD, isiD, tyD, qOrT, qAndT, onTru, truD, qJoined, qjCons, qjNil, fmtD, fmt5D, D.int.injEq, D.str.injEq, D.lst.injEq, D.tup.injEq, D.bl.injEq, false_implies, true_implies, ne_eq, not_false_eq_true, not_true_eq_false, forall_const, implies_true, false_and, and_false, exists_eq_left, exists_eq_left', Int.reduceEq, Int.reduceLT, Int.reduceNe, Int.reduceLE, or_false, false_or, or_true, true_or, qLc, qFor, qWhile, allD, sortAD, wipeC, isiS, List.any_cons, List.any_nil, Bool.or_false, Bool.or_true, Bool.true_or, Bool.false_or, Bool.and_self, Bool.false_and, Bool.and_false, Bool.and_true, Bool.true_and, String.reduceBEq, Bool.false_eq_true, Bool.true_eq_false]
  intro p hp
  refine ⟨by rw [sizeLine_eq]; omega, ?_⟩
  refine forK_i (fun i ρ' h' => Keeps h h' ∧ ∃ vs a b, h' p = some (.dic (kin (runK [] (es.take i))) vs) ∧ vs.length = (runK [] (es.take i)).length ∧ ρ' = [.fro (.lst (hs.map D.str)), .fro (.lst xs), .fro (.ptr p), .own (.lst ((es.take i).map Deed.d)), a, b]) ⟨(fun a d e => ?_), [], _, _, pset_same, rfl, rfl⟩ ?_ ?_
  · exact Keeps.set (fun _ _ z => z) hp a d e
  · rintro i d ρ' h' hd ⟨hk, vs, a, b, h1, h2, rfl⟩
    obtain ⟨x, hxi, rfl⟩ := enum_get hd
    have hi : i < es.length := by rw [← hl]; exact get_lt hxi
    have he := List.getElem?_eq_getElem hi
    simp only [startC, qVar, qPeek, qC, qBin, qUn, qNil, qCons, qTup, qLst, qCall, asB, qTest, qAnd, qOr, qNot, qAndV, qOrV, qNotV, qIfE, deref, qNext, qSeq, qSet, qSetN, qSetP, qRet, qRetN, qDrop, qIfS, qFreeze, qApp, onOwnL, qAsg, gqName, gqNil, gqCons, gqTup, qM1, qRng1, qEnum, qAny, asI, asL, itemsD, qPart, qNoPart, qCut, cutD, qCutL, cutLD, addD, subD, mulD, modD, fdivD, eqD, neD, eqS, onB, ltD, leD, gtD, geD, isND, lenD, intD, strD, ordD, listD, tupleD, ixD, PEnds.at, wipeC, qYes,
    List.map_cons, List.map_nil, List.replicate, List.cons_append, List.nil_append, List.append_assoc, List.getElem?_cons_zero, List.getElem?_cons_succ, List.set_cons_zero, List.set_cons_succ, List.length_cons, List.length_nil, Option.map_some, if_true, if_false, Bool.not_true, Bool.not_false, decide_eq_true_eq, Bool.not_eq_true', decide_eq_false_iff_not, Nat.reduceAdd, Nat.reduceSub, List.replicate_succ, List.replicate_zero, true_and, and_true, reduceCtorEq, isStr, qPutS, putS, powD, CPow, qPut, onOwn, setD, qPutP, onPtr, qDelP, delD, qPutF, setF, qProp, qMeth, qMake, isObj, fldD, minD, maxD, qChain, revD, lrevD, isiD, tyD, qOrT, qAndT, onTru, truD, qJoined, qjCons, qjNil, fmtD, fmt5D, D.int.injEq, D.str.injEq, D.lst.injEq, D.tup.injEq, D.bl.injEq, false_implies, true_implies, ne_eq, not_false_eq_true, not_true_eq_false, forall_const, implies_true, false_and, and_false, exists_eq_left, exists_eq_left', Int.reduceEq, Int.reduceLT, Int.reduceNe, Int.reduceLE, or_false, false_or, or_true, true_or, qLc, qFor, qWhile, allD, sortAD, wipeC, isiS, List.any_cons, List.any_nil, Bool.or_false, Bool.or_true, Bool.true_or, Bool.false_or, Bool.and_self, Bool.false_and, Bool.and_false, Bool.and_true, Bool.true_and, String.reduceBEq, Bool.false_eq_true, Bool.true_eq_false]
    refine ⟨hs, p, i, x, es[i], runK [] (es.take i), vs, rfl, by omega, hx i _ x he hxi, h1, h2, hh, okSeq_get hok he, fun vs' hv => ?_⟩
    refine ⟨by rw [List.length_map, List.length_take, sizeLine_eq]; omega, Keeps.set hk hp, vs', .fro (.int (i : Int)), .fro x, ?_, ?_, ?_⟩
    · rw [take_snoc he, runK_snoc]; exact pset_same
    · rw [take_snoc he, runK_snoc]; exact hv
    · rw [take_snoc he, List.map_append]; rfl
  · rintro ρ' h' ⟨hk, vs, a, b, h1, h2, rfl⟩
    rw [enum_len, hl, List.take_length]
    simp only [startC, qVar, qPeek, qC, qBin, qUn, qNil, qCons, qTup, qLst, qCall, asB, qTest, qAnd, qOr, qNot, qAndV, qOrV, qNotV, qIfE, deref, qNext, qSeq, qSet, qSetN, qSetP, qRet, qRetN, qDrop, qIfS, qFreeze, qApp, onOwnL, qAsg, gqName, gqNil, gqCons, gqTup, qM1, qRng1, qEnum, qAny, asI, asL, itemsD, qPart, qNoPart, qCut, cutD, qCutL, cutLD, addD, subD, mulD, modD, fdivD, eqD, neD, eqS, onB, ltD, leD, gtD, geD, isND, lenD, intD, strD, ordD, listD, tupleD, ixD, PEnds.at, wipeC, qYes,
    List.map_cons, List.map_nil, List.replicate, List.cons_append, List.nil_append, List.append_assoc, List.getElem?_cons_zero, List.getElem?_cons_succ, List.set_cons_zero, List.set_cons_succ, List.length_cons, List.length_nil, Option.map_some, if_true, if_false, Bool.not_true, Bool.not_false, decide_eq_true_eq, Bool.not_eq_true', decide_eq_false_iff_not, Nat.reduceAdd, Nat.reduceSub, List.replicate_succ, List.replicate_zero, true_and, and_true, reduceCtorEq, isStr, qPutS, putS, powD, CPow, qPut, onOwn, setD, qPutP, onPtr, qDelP, delD, qPutF, setF, qProp, qMeth, qMake, isObj, fldD, minD, maxD, qChain, revD, lrevD, isiD, tyD, qOrT, qAndT, onTru, truD, qJoined, qjCons, qjNil, fmtD, fmt5D, D.int.injEq, D.str.injEq, D.lst.injEq, D.tup.injEq, D.bl.injEq, false_implies, true_implies, ne_eq, not_false_eq_true, not_true_eq_false, forall_const, implies_true, false_and, and_false, exists_eq_left, exists_eq_left', Int.reduceEq, Int.reduceLT, Int.reduceNe, Int.reduceLE, or_false, false_or, or_true, true_or, qLc, qFor, qWhile, allD, sortAD, wipeC, isiS, List.any_cons, List.any_nil, Bool.or_false, Bool.or_true, Bool.true_or, Bool.false_or, Bool.and_self, Bool.false_and, Bool.and_false, Bool.and_true, Bool.true_and, String.reduceBEq, Bool.false_eq_true, Bool.true_eq_false]
    exact hQ h' hk
theorem c_checked_deeds (G : GE K mg) : Cal P w K mg base "checked_deeds" ["houses", "deeds"] 6 sp_checked_deeds :=
  cal_of G.f_checked_deeds sc_checked_deeds (fun _ _ F => F.bindsN fun _ _ _ _ _ _ us hl => match us, hl with | [_, _], _ => rfl) (fun _ _ _ _ ⟨_, _, _, e, _⟩ => by rw [e]; rfl) (w_checked_deeds G (c_next_deed G)) v_checked_deeds
end Pu.L70
set_option Elab.async false
set_option linter.all false
set_option maxRecDepth 100000
set_option maxHeartbeats 4000000
set_option autoImplicit false
namespace Pu.L70
open PySem PySem.Spec PyProof.Rows L2
variable {P : Program} {w : World} {K : PySem.W.Frag} {mg : Str → Option Value} {base : Heap}
def sp_check_houses : Spec := fun ds h Q Ex => ∃ (hs : List Str), ds = [.lst (hs.map D.str)] ∧ hs.length ≤ 32 ∧ hs.Nodup ∧ (∀ s ∈ hs, nameB s = true) ∧ ∀ ys : List Str, ys.Perm hs → sortedS ys = true → Q (.lst (ys.map D.str)) h
theorem sc_check_houses : FnScope ["houses", "known", "house"] ["houses"] (defScope s_check_houses) := ⟨rfl, rfl, rfl, by decide +kernel, rfl, by decide +kernel, by decide +kernel⟩
def q_check_houses : RS := (qSeq (qSetN 1 (qC (.dic [] [])))
  (qSeq (qFor (qAny (qVar 0)) (gqName 2) (qSeq (qDrop (qCall sp_check_name (qCons (qVar 2) qNil)))
  (qSeq (qIfS (qTest (qBin (inOp false) (qPeek 2) (qPeek 1))) qNever qNext)
  (qSeq (qIfS (qTest (qBin geD (qUn lenD (qPeek 1)) (qC (.int 32)))) qNever qNext)
  (qPut 1 (qC (.bl true)) (qVar 2))))))
  (qRet (qUn sortAD (qPeek 1)))))
theorem w_check_houses (G : GE K mg) (C_check_name : Cal P w K mg base "check_name" ["word"] 3 sp_check_name) : WkOk P w K mg base ["houses", "known", "house"] "check_houses" s_check_houses 3 q_check_houses := fun f cdv A outer s H E hr tk => by
  have S := sc_check_houses
  unfold q_check_houses
  exact (qss_cons (qs_setN 1 qn_dic0 S.nd)
    (qss_cons (qs_for (passes_of rfl) rfl (qi_any (qe_var 0)) (qg_name 2 S.nd) (qss_cons (qs_expr (qe_callC C_check_name hr tk (qa_cons (qe_var 2) qa_nil)))
    (qss_cons (qs_if (qt_cmp (op_inAll hr.u1) ops_in (qk_var 2) (qk_var 1) (by rfl)) (qss_one qs_never) qss_nil)
    (qss_cons (qs_if (qt_cmp op_geAll ops_ge (qe_b1 call_lenAll cs_len G.n_len (qk_var 1)).k (qe_globI (Classical.choose_spec G.c_MOST_HOUSES)).k (by rfl)) (qss_one qs_never) qss_nil)
    (qss_one (qs_put 1 hr.u1 qe_bl (qe_var 2)))))))
    (qss_one (qs_ret ((qn_b1 (call_sortA rfl) cn_sortA G.n_sorted (qk_var 1))).e))))
theorem v_check_houses (ds : List D) (h : PHp) (Qp : D → PHp → Prop) (Ep : XP) : sp_check_houses ds h Qp Ep → q_check_houses (PE0 Qp Ep) (startC 3 ds) h := by
  rintro ⟨hs, rfl, hl, hnd, hn, hQ⟩
  simp only [q_check_houses, startC, qVar, qPeek, qC, qBin, qUn, qNil, qCons, qTup, qLst, qCall, asB, qTest, qAnd, qOr, qNot, qAndV, qOrV, qNotV, qIfE, deref, qNext, qSeq, qSet, qSetN, qSetP, qRet, qRetN, qDrop, qIfS, qFreeze, qApp, onOwnL, qAsg, gqName, gqNil, gqCons, gqTup, qM1, qRng1, qEnum, qAny, asI, asL, itemsD, qPart, qNoPart, qCut, cutD, qCutL, cutLD, addD, subD, mulD, modD, fdivD, eqD, neD, eqS, onB, ltD, leD, gtD, geD, isND, lenD, intD, strD, ordD, listD, tupleD, ixD, PEnds.at, wipeC, qYes,
    List.map_cons, List.map_nil, List.replicate, List.cons_append, List.nil_append, List.append_assoc, List.getElem?_cons_zero, List.getElem?_cons_succ, List.set_cons_zero, List.set_cons_succ, List.length_cons, List.length_nil, Option.map_some, if_true, if_false, Bool.not_true, Bool.not_false, decide_eq_true_eq, Bool.not_eq_true', decide_eq_false_iff_not, Nat.reduceAdd, Nat.reduceSub, List.replicate_succ, List.replicate_zero, true_and, and_true, reduceCtorEq, isStr, qPutS, putS, powD, CPow, qPut, onOwn, setD, qPutP, onPtr, qDelP, delD, qPutF, setF, qProp, qMeth, qMake, isObj, fldD, minD, maxD, qChain, revD, lrevD, isiD, tyD, qOrT, qAndT, onTru, truD, qJoined, qjCons, qjNil, fmtD, fmt5D, D.int.injEq, D.str.injEq, D.lst.injEq, D.tup.injEq, D.bl.injEq, false_implies, true_implies, ne_eq, not_false_eq_true, not_true_eq_false, forall_const, implies_true, false_and, and_false, exists_eq_left, exists_eq_left', Int.reduceEq, Int.reduceLT, Int.reduceNe, Int.reduceLE, or_false, false_or, or_true, true_or, qLc, qFor, qWhile, allD, sortAD, wipeC, isiS, List.any_cons, List.any_nil, Bool.or_false, Bool.or_true, Bool.true_or, Bool.false_or, Bool.and_self, Bool.false_and, Bool.and_false, Bool.and_true, Bool.true_and, String.reduceBEq, Bool.false_eq_true, Bool.true_eq_false]
  refine forK_i (fun i ρ' h' => h' = h ∧ ∃ vs a, vs.length = (hs.take i).length ∧ ρ' = [.fro (.lst (hs.map D.str)), .own (.dic (kin (hs.take i)) vs), a]) ⟨rfl, [], _, rfl, rfl⟩ ?_ ?_
  · rintro i d ρ' h' hd ⟨rfl, vs, a, hv, rfl⟩
    obtain ⟨s, hs', rfl⟩ := map_get hd
    have hi := get_lt hs'
    have hni : s ∉ hs.take i := fun z => by
      have := hnd
      rw [← List.take_append_drop i hs, List.nodup_append] at this
      refine this.2.2 s z s ?_ rfl
      rw [List.mem_iff_getElem?]
      exact ⟨0, by rw [List.getElem?_drop]; exact hs'⟩
    simp only [startC, qVar, qPeek, qC, qBin, qUn, qNil, qCons, qTup, qLst, qCall, asB, qTest, qAnd, qOr, qNot, qAndV, qOrV, qNotV, qIfE, deref, qNext, qSeq, qSet, qSetN, qSetP, qRet, qRetN, qDrop, qIfS, qFreeze, qApp, onOwnL, qAsg, gqName, gqNil, gqCons, gqTup, qM1, qRng1, qEnum, qAny, asI, asL, itemsD, qPart, qNoPart, qCut, cutD, qCutL, cutLD, addD, subD, mulD, modD, fdivD, eqD, neD, eqS, onB, ltD, leD, gtD, geD, isND, lenD, intD, strD, ordD, listD, tupleD, ixD, PEnds.at, wipeC, qYes,
    List.map_cons, List.map_nil, List.replicate, List.cons_append, List.nil_append, List.append_assoc, List.getElem?_cons_zero, List.getElem?_cons_succ, List.set_cons_zero, List.set_cons_succ, List.length_cons, List.length_nil, Option.map_some, if_true, if_false, Bool.not_true, Bool.not_false, decide_eq_true_eq, Bool.not_eq_true', decide_eq_false_iff_not, Nat.reduceAdd, Nat.reduceSub, List.replicate_succ, List.replicate_zero, true_and, and_true, reduceCtorEq, isStr, qPutS, putS, powD, CPow, qPut, onOwn, setD, qPutP, onPtr, qDelP, delD, qPutF, setF, qProp, qMeth, qMake, isObj, fldD, minD, maxD, qChain, revD, lrevD, isiD, tyD, qOrT, qAndT, onTru, truD, qJoined, qjCons, qjNil, fmtD, fmt5D, D.int.injEq, D.str.injEq, D.lst.injEq, D.tup.injEq, D.bl.injEq, false_implies, true_implies, ne_eq, not_false_eq_true, not_true_eq_false, forall_const, implies_true, false_and, and_false, exists_eq_left, exists_eq_left', Int.reduceEq, Int.reduceLT, Int.reduceNe, Int.reduceLE, or_false, false_or, or_true, true_or, qLc, qFor, qWhile, allD, sortAD, wipeC, isiS, List.any_cons, List.any_nil, Bool.or_false, Bool.or_true, Bool.true_or, Bool.false_or, Bool.and_self, Bool.false_and, Bool.and_false, Bool.and_true, Bool.true_and, String.reduceBEq, Bool.false_eq_true, Bool.true_eq_false]
    refine ⟨s, rfl, hn s (List.mem_of_getElem? hs'), ?_⟩
    simp only [startC, qVar, qPeek, qC, qBin, qUn, qNil, qCons, qTup, qLst, qCall, asB, qTest, qAnd, qOr, qNot, qAndV, qOrV, qNotV, qIfE, deref, qNext, qSeq, qSet, qSetN, qSetP, qRet, qRetN, qDrop, qIfS, qFreeze, qApp, onOwnL, qAsg, gqName, gqNil, gqCons, gqTup, qM1, qRng1, qEnum, qAny, asI, asL, itemsD, qPart, qNoPart, qCut, cutD, qCutL, cutLD, addD, subD, mulD, modD, fdivD, eqD, neD, eqS, onB, ltD, leD, gtD, geD, isND, lenD, intD, strD, ordD, listD, tupleD, ixD, PEnds.at, wipeC, qYes,
    List.map_cons, List.map_nil, List.replicate, List.cons_append, List.nil_append, List.append_assoc, List.getElem?_cons_zero, List.getElem?_cons_succ, List.set_cons_zero, List.set_cons_succ, List.length_cons, List.length_nil, Option.map_some, if_true, if_false, Bool.not_true, Bool.not_false, decide_eq_true_eq, Bool.not_eq_true', decide_eq_false_iff_not, Nat.reduceAdd, Nat.reduceSub, List.replicate_succ, List.replicate_zero, true_and, and_true, reduceCtorEq, isStr, qPutS, putS, powD, CPow, qPut, onOwn, setD, qPutP, onPtr, qDelP, delD, qPutF, setF, qProp, qMeth, qMake, isObj, fldD, minD, maxD, qChain, revD, lrevD, isiD, tyD, qOrT, qAndT, onTru, truD, qJoined, qjCons, qjNil, fmtD, fmt5D, D.int.injEq, D.str.injEq, D.lst.injEq, D.tup.injEq, D.bl.injEq, false_implies, true_implies, ne_eq, not_false_eq_true, not_true_eq_false, forall_const, implies_true, false_and, and_false, exists_eq_left, exists_eq_left', Int.reduceEq, Int.reduceLT, Int.reduceNe, Int.reduceLE, or_false, false_or, or_true, true_or, qLc, qFor, qWhile, allD, sortAD, wipeC, isiS, List.any_cons, List.any_nil, Bool.or_false, Bool.or_true, Bool.true_or, Bool.false_or, Bool.and_self, Bool.false_and, Bool.and_false, Bool.and_true, Bool.true_and, String.reduceBEq, Bool.false_eq_true, Bool.true_eq_false, inOp, in_dic hv, keyD, Option.some.injEq, exists_eq_left', kin_len]
    have hlt : (hs.take i).length ≤ i := by rw [List.length_take]; omega
    rw [if_neg hni, if_neg (by omega), dput_new hni]
    exact ⟨by rw [sizeLine_eq]; omega, vs ++ [.bl true], .fro (.str s), by rw [take_snoc hs', List.length_append, List.length_append, hv]; rfl, by rw [take_snoc hs']⟩
  · rintro ρ' h' ⟨rfl, vs, a, hv, rfl⟩
    rw [List.length_map, List.take_length]
    simp only [startC, qVar, qPeek, qC, qBin, qUn, qNil, qCons, qTup, qLst, qCall, asB, qTest, qAnd, qOr, qNot, qAndV, qOrV, qNotV, qIfE, deref, qNext, qSeq, qSet, qSetN, qSetP, qRet, qRetN, qDrop, qIfS, qFreeze, qApp, onOwnL, qAsg, gqName, gqNil, gqCons, gqTup, qM1, qRng1, qEnum, qAny, asI, asL, itemsD, qPart, qNoPart, qCut, cutD, qCutL, cutLD, addD, subD, mulD, modD, fdivD, eqD, neD, eqS, onB, ltD, leD, gtD, geD, isND, lenD, intD, strD, ordD, listD, tupleD, ixD, PEnds.at, wipeC, qYes,
    List.map_cons, List.map_nil, List.replicate, List.cons_append, List.nil_append, List.append_assoc, List.getElem?_cons_zero, List.getElem?_cons_succ, List.set_cons_zero, List.set_cons_succ, List.length_cons, List.length_nil, Option.map_some, if_true, if_false, Bool.not_true, Bool.not_false, decide_eq_true_eq, Bool.not_eq_true', decide_eq_false_iff_not, Nat.reduceAdd, Nat.reduceSub, List.replicate_succ, List.replicate_zero, true_and, and_true, reduceCtorEq, isStr, qPutS, putS, powD, CPow, qPut, onOwn, setD, qPutP, onPtr, qDelP, delD, qPutF, setF, qProp, qMeth, qMake, isObj, fldD, minD, maxD, qChain, revD, lrevD, isiD, tyD, qOrT, qAndT, onTru, truD, qJoined, qjCons, qjNil, fmtD, fmt5D, D.int.injEq, D.str.injEq, D.lst.injEq, D.tup.injEq, D.bl.injEq, false_implies, true_implies, ne_eq, not_false_eq_true, not_true_eq_false, forall_const, implies_true, false_and, and_false, exists_eq_left, exists_eq_left', Int.reduceEq, Int.reduceLT, Int.reduceNe, Int.reduceLE, or_false, false_or, or_true, true_or, qLc, qFor, qWhile, allD, sortAD, wipeC, isiS, List.any_cons, List.any_nil, Bool.or_false, Bool.or_true, Bool.true_or, Bool.false_or, Bool.and_self, Bool.false_and, Bool.and_false, Bool.and_true, Bool.true_and, String.reduceBEq, Bool.false_eq_true, Bool.true_eq_false]
    exact ⟨hs, ⟨vs, rfl⟩, by omega, hQ⟩
theorem c_check_houses (G : GE K mg) : Cal P w K mg base "check_houses" ["houses"] 4 sp_check_houses :=
  cal_of G.f_check_houses sc_check_houses (fun _ _ F => F.bindsN fun _ _ _ _ _ _ us hl => match us, hl with | [_], _ => rfl) (fun _ _ _ _ ⟨_, e, _⟩ => by rw [e]; rfl) (w_check_houses G (c_check_name G)) v_check_houses
end Pu.L70
set_option Elab.async false
set_option linter.all false
set_option maxRecDepth 100000
set_option maxHeartbeats 4000000
set_option autoImplicit false
namespace Pu.L70
open PySem PySem.Spec PyProof.Rows L2
variable {P : Program} {w : World} {K : PySem.W.Frag} {mg : Str → Option Value} {base : Heap}
def sp_Journal____init__ : Spec := fun ds h Q Ex => ∃ (p : Addr) (hs : List Str) (xs : List D) (es : List Deed), ds = [.ptr p, .lst (hs.map D.str), .lst xs] ∧ h p = some (.obj "Journal" [] []) ∧ hs.length ≤ 32 ∧ hs.Nodup ∧ (∀ s ∈ hs, nameB s = true) ∧ xs.length = es.length ∧ (∀ (i : Nat) (e : Deed) (x : D), es[i]? = some e → xs[i]? = some x → Deed.handed e x) ∧ es.length ≤ 240 ∧ (∀ ys : List Str, ys.Perm hs → okSeq ys [] es) ∧
  ∀ (ys : List Str) (h' : PHp), ys.Perm hs → sortedS ys = true → h' p = some (.obj "Journal" ["house_row", "done_deeds"] [.lst (ys.map D.str), .lst (es.map Deed.d)]) → Q .non h'
theorem sc_Journal____init__ : FnScope ["self", "houses", "deeds"] ["self", "houses", "deeds"] (defScope s_Journal____init__) := ⟨rfl, rfl, rfl, by decide +kernel, rfl, by decide +kernel, by decide +kernel⟩
def q_Journal____init__ : RS := (qSeq (qPutF "Journal" "house_row" (qVar 0) (qCall sp_check_houses (qCons (qVar 1) qNil)))
  (qPutF "Journal" "done_deeds" (qVar 0) (qCall sp_checked_deeds (qCons (qUn (fldD "Journal" "house_row") (qPeek 0)) (qCons (qVar 2) qNil)))))
theorem w_Journal____init__ (G : GE K mg) (C_check_houses : Cal P w K mg base "check_houses" ["houses"] 4 sp_check_houses) (C_checked_deeds : Cal P w K mg base "checked_deeds" ["houses", "deeds"] 6 sp_checked_deeds) : WkOk P w K mg base ["self", "houses", "deeds"] "Journal.__init__" s_Journal____init__ 6 q_Journal____init__ := fun f cdv A outer s H E hr tk => by
  have S := sc_Journal____init__
  unfold q_Journal____init__
  exact (qss_cons (qs_fld G.k_Journal G.na_Journal_house_row (qe_var 0) (qe_callC C_check_houses hr tk (qa_cons (qe_var 1) qa_nil)))
    (qss_one (qs_fld G.k_Journal G.na_Journal_done_deeds (qe_var 0) (qe_callC C_checked_deeds hr tk (qa_cons (qe_fld G.k_Journal G.na_Journal_house_row (qk_var 0)) (qa_cons (qe_var 2) qa_nil))))))
theorem v_Journal____init__ (ds : List D) (h : PHp) (Qp : D → PHp → Prop) (Ep : XP) : sp_Journal____init__ ds h Qp Ep → q_Journal____init__ (PE0 Qp Ep) (startC 3 ds) h := by
  rintro ⟨p, hs, xs, es, rfl, hp, hl, hnd, hn, hxl, hx, he, hok, hQ⟩
  simp only [q_Journal____init__, startC, qVar, qPeek, qC, qBin, qUn, qNil, qCons, qTup, qLst, qCall, asB, qTest, qAnd, qOr, qNot, qAndV, qOrV, qNotV, qIfE, deref, qNext, qSeq, qSet, qSetN, qSetP, qRet, qRetN, qDrop, qIfS, qFreeze, qApp, onOwnL, qAsg, gqName, gqNil, gqCons, gqTup, qM1, qRng1, qEnum, qAny, asI, asL, itemsD, qPart, qNoPart, qCut, cutD, qCutL, cutLD, addD, subD, mulD, modD, fdivD, eqD, neD, eqS, onB, ltD, leD, gtD, geD, isND, lenD, intD, strD, ordD, listD, tupleD, ixD, PEnds.at, wipeC, qYes,
    List.map_cons, List.map_nil, List.replicate, List.cons_append, List.nil_append, List.append_assoc, List.getElem?_cons_zero, List.getElem?_cons_succ, List.set_cons_zero, List.set_cons_succ, List.length_cons, List.length_nil, Option.map_some, if_true, if_false, Bool.not_true, Bool.not_false, decide_eq_true_eq, Bool.not_eq_true', decide_eq_false_iff_not, Nat.reduceAdd, Nat.reduceSub, List.replicate_succ, List.replicate_zero, true_and, and_true, reduceCtorEq, isStr, qPutS, putS, powD, CPow, qPut, onOwn, setD, qPutP, onPtr, qDelP, delD, qPutF, setF, qProp, qMeth, qMake, isObj, fldD, minD, maxD, qChain, revD, lrevD, isiD, tyD, qOrT, qAndT, onTru, truD, qJoined, qjCons, qjNil, fmtD, fmt5D, D.int.injEq, D.str.injEq, D.lst.injEq, D.tup.injEq, D.bl.injEq, false_implies, true_implies, ne_eq, not_false_eq_true, not_true_eq_false, forall_const, implies_true, false_and, and_false, exists_eq_left, exists_eq_left', Int.reduceEq, Int.reduceLT, Int.reduceNe, Int.reduceLE, or_false, false_or, or_true, true_or, qLc, qFor, qWhile, allD, sortAD, wipeC, isiS, List.any_cons, List.any_nil, Bool.or_false, Bool.or_true, Bool.true_or, Bool.false_or, Bool.and_self, Bool.false_and, Bool.and_false, Bool.and_true, Bool.true_and, String.reduceBEq, Bool.false_eq_true, Bool.true_eq_false]
  refine ⟨hs, rfl, hl, hnd, hn, fun ys hy hsr => ?_⟩
  simp only [startC, qVar, qPeek, qC, qBin, qUn, qNil, qCons, qTup, qLst, qCall, asB, qTest, qAnd, qOr, qNot, qAndV, qOrV, qNotV, qIfE, deref, qNext, qSeq, qSet, qSetN, qSetP, qRet, qRetN, qDrop, qIfS, qFreeze, qApp, onOwnL, qAsg, gqName, gqNil, gqCons, gqTup, qM1, qRng1, qEnum, qAny, asI, asL, itemsD, qPart, qNoPart, qCut, cutD, qCutL, cutLD, addD, subD, mulD, modD, fdivD, eqD, neD, eqS, onB, ltD, leD, gtD, geD, isND, lenD, intD, strD, ordD, listD, tupleD, ixD, PEnds.at, wipeC, qYes,
    List.map_cons, List.map_nil, List.replicate, List.cons_append, List.nil_append, List.append_assoc, List.getElem?_cons_zero, List.getElem?_cons_succ, List.set_cons_zero, List.set_cons_succ, List.length_cons, List.length_nil, Option.map_some, if_true, if_false, Bool.not_true, Bool.not_false, decide_eq_true_eq, Bool.not_eq_true', decide_eq_false_iff_not, Nat.reduceAdd, Nat.reduceSub, List.replicate_succ, List.replicate_zero, true_and, and_true, reduceCtorEq, isStr, qPutS, putS, powD, CPow, qPut, onOwn, setD, qPutP, onPtr, qDelP, delD, qPutF, setF, qProp, qMeth, qMake, isObj, fldD, minD, maxD, qChain, revD, lrevD, isiD, tyD, qOrT, qAndT, onTru, truD, qJoined, qjCons, qjNil, fmtD, fmt5D, D.int.injEq, D.str.injEq, D.lst.injEq, D.tup.injEq, D.bl.injEq, false_implies, true_implies, ne_eq, not_false_eq_true, not_true_eq_false, forall_const, implies_true, false_and, and_false, exists_eq_left, exists_eq_left', Int.reduceEq, Int.reduceLT, Int.reduceNe, Int.reduceLE, or_false, false_or, or_true, true_or, qLc, qFor, qWhile, allD, sortAD, wipeC, isiS, List.any_cons, List.any_nil, Bool.or_false, Bool.or_true, Bool.true_or, Bool.false_or, Bool.and_self, Bool.false_and, Bool.and_false, Bool.and_true, Bool.true_and, String.reduceBEq, Bool.false_eq_true, Bool.true_eq_false, hp]
  refine ⟨by decide, ?_⟩
  rw [pset_same]
  simp only [startC, qVar, qPeek, qC, qBin, qUn, qNil, qCons, qTup, qLst, qCall, asB, qTest, qAnd, qOr, qNot, qAndV, qOrV, qNotV, qIfE, deref, qNext, qSeq, qSet, qSetN, qSetP, qRet, qRetN, qDrop, qIfS, qFreeze, qApp, onOwnL, qAsg, gqName, gqNil, gqCons, gqTup, qM1, qRng1, qEnum, qAny, asI, asL, itemsD, qPart, qNoPart, qCut, cutD, qCutL, cutLD, addD, subD, mulD, modD, fdivD, eqD, neD, eqS, onB, ltD, leD, gtD, geD, isND, lenD, intD, strD, ordD, listD, tupleD, ixD, PEnds.at, wipeC, qYes,
    List.map_cons, List.map_nil, List.replicate, List.cons_append, List.nil_append, List.append_assoc, List.getElem?_cons_zero, List.getElem?_cons_succ, List.set_cons_zero, List.set_cons_succ, List.length_cons, List.length_nil, Option.map_some, if_true, if_false, Bool.not_true, Bool.not_false, decide_eq_true_eq, Bool.not_eq_true', decide_eq_false_iff_not, Nat.reduceAdd, Nat.reduceSub, List.replicate_succ, List.replicate_zero, true_and, and_true, reduceCtorEq, isStr, qPutS, putS, powD, CPow, qPut, onOwn, setD, qPutP, onPtr, qDelP, delD, qPutF, setF, qProp, qMeth, qMake, isObj, fldD, minD, maxD, qChain, revD, lrevD, isiD, tyD, qOrT, qAndT, onTru, truD, qJoined, qjCons, qjNil, fmtD, fmt5D, D.int.injEq, D.str.injEq, D.lst.injEq, D.tup.injEq, D.bl.injEq, false_implies, true_implies, ne_eq, not_false_eq_true, not_true_eq_false, forall_const, implies_true, false_and, and_false, exists_eq_left, exists_eq_left', Int.reduceEq, Int.reduceLT, Int.reduceNe, Int.reduceLE, or_false, false_or, or_true, true_or, qLc, qFor, qWhile, allD, sortAD, wipeC, isiS, List.any_cons, List.any_nil, Bool.or_false, Bool.or_true, Bool.true_or, Bool.false_or, Bool.and_self, Bool.false_and, Bool.and_false, Bool.and_true, Bool.true_and, String.reduceBEq, Bool.false_eq_true, Bool.true_eq_false, Option.getD_some, fputK, fputV, flook]
  refine ⟨_, rfl, ys, xs, es, rfl, hxl, hx, fun s hs => hn s (hy.mem_iff.mp hs), he, hok ys hy, fun h' hk => ?_⟩
  have e1 := hk p _ pset_same
  dsimp only
  rw [e1]
  refine ⟨rfl, (by decide : (1 : Nat) < 1000), hQ ys _ hy hsr ?_⟩
  rw [pset_same]
  rfl
theorem c_Journal____init__ (G : GE K mg) : CalC P w K mg base "Journal" ["self", "houses", "deeds"] 7 sp_Journal____init__ :=
  calC_of G.i_Journal____init__ sc_Journal____init__ (fun _ _ _ hl F => FunD.bindsGiven F hl (by decide) fun _ _ _ _ _ _ _ us its h1 h2 => match us, h1, its, h2 with | [_, _, _], _, [_, _], _ => ⟨_, rfl, rfl⟩) (fun _ _ _ _ ⟨_, _, _, _, e, _⟩ => by rw [e]; rfl) (w_Journal____init__ G (c_check_houses G) (c_checked_deeds G)) v_Journal____init__
end Pu.L70
set_option Elab.async false
set_option linter.all false
set_option maxRecDepth 100000
set_option maxHeartbeats 4000000
set_option autoImplicit false
namespace Pu.L70
open PySem PySem.Spec PyProof.Rows L2
def jd (ys : List Str) (es : List Deed) : D := .obj "Journal" ["house_row", "done_deeds"] [.lst (ys.map D.str), .lst (es.map Deed.d)]
theorem okD_mem {hs ys : List Str} (h : ∀ s, s ∈ hs → s ∈ ys) {ks : List Str} {e : Deed} (k : okD hs ks e) : okD ys ks e := by
  cases e with
  | put l a b => exact ⟨k.1, h _ k.2.1, h _ k.2.2.1, k.2.2.2⟩
  | take l => exact k
theorem okSeq_mem {hs ys : List Str} (h : ∀ s, s ∈ hs → s ∈ ys) : ∀ {es : List Deed} {ks : List Str}, okSeq hs ks es → okSeq ys ks es
  | [], _, _ => trivial
  | e :: r, _, k => ⟨okD_mem h k.1, okSeq_mem h k.2⟩
theorem okSeq_take {hs : List Str} : ∀ {es : List Deed} {ks : List Str} (n : Nat), okSeq hs ks es → okSeq hs ks (es.take n)
  | _, _, 0, _ => trivial
  | [], _, _ + 1, _ => trivial
  | e :: r, _, n + 1, k => ⟨k.1, okSeq_take n k.2⟩
def pad5L (s : Int) : List Nat := tl (pad5 s)
def rowL (n : Nat) (b : List Nat) : List Nat := TL.numL n ++ (32 :: (pad5L (rs 7 (TL.numL n ++ (32 :: b))) ++ (32 :: (b ++ [10]))))
def bodyH (ys : List Str) : List Nat := TL.joinL [32] (tl (Str.ofString "houses") :: ys.map tl)
def bodyD (e : Deed) : List Nat := TL.joinL [32] (e.row.map tl)
def bodies (ys : List Str) (es : List Deed) : List (List Nat) := bodyH ys :: es.map bodyD
def rowsL : Nat → List (List Nat) → List (List Nat)
  | _, [] => []
  | n, b :: r => rowL n b :: rowsL (n + 1) r
def mkS (l : List Nat) : Str := ⟨l.toArray⟩
theorem tl_mkS (l : List Nat) : tl (mkS l) = l := rfl
theorem mkS_len (l : List Nat) : (mkS l).length = l.length := by rw [tl_len]; rfl
theorem mkS_eq {x : Str} {l : List Nat} (h : tl x = l) : x = mkS l := tl_ext h
theorem rowsL_snoc : ∀ (bs : List (List Nat)) (n : Nat) (b : List Nat), rowsL n (bs ++ [b]) = rowsL n bs ++ [rowL (n + bs.length) b]
  | [], n, b => rfl
  | c :: r, n, b => by
    show rowL n c :: rowsL (n + 1) (r ++ [b]) = rowL n c :: (rowsL (n + 1) r ++ [rowL (n + (r.length + 1)) b])
    rw [rowsL_snoc r (n + 1) b, show n + 1 + r.length = n + (r.length + 1) by omega]
theorem rowsL_len : ∀ (bs : List (List Nat)) (n : Nat), (rowsL n bs).length = bs.length
  | [], n => rfl
  | c :: r, n => congrArg Nat.succ (rowsL_len r (n + 1))
theorem numL_len {n : Nat} (h : n < 100000) : (TL.numL n).length ≤ 5 := by
  unfold TL.numL
  rw [List.length_map]
  exact digits10_le (by decide) h
theorem pad5L_len {s : Int} (h0 : 0 ≤ s) (h1 : s < 100000) : (pad5L s).length = 5 := by
  unfold pad5L
  rw [← tl_len, pad5_len s h1 h0]
theorem rowL_len {n : Nat} {b : List Nat} (h : n < 100000) : (rowL n b).length ≤ 13 + b.length := by
  have h1 := rs_small (TL.numL n ++ (32 :: b)) 7 (by decide) (by decide)
  have h2 := pad5L_len h1.1 (by omega)
  have h3 := numL_len h
  unfold rowL
  simp only [List.length_append, List.length_cons, List.length_nil]
  omega
theorem nat_log {n : Nat} (h : n < 100000) : ((n : Nat) : Int).natAbs.log2 < 1920 := log_small (by omega) (by omega)
end Pu.L70
set_option Elab.async false
set_option linter.all false
set_option maxRecDepth 100000
set_option maxHeartbeats 4000000
set_option autoImplicit false
namespace Pu.L70
open PySem PySem.Spec PyProof.Rows L2
variable {P : Program} {w : World} {K : PySem.W.Frag} {mg : Str → Option Value} {base : Heap}
def sp_Journal__houses : Spec := fun ds h Q Ex => ∃ (ys : List Str) (es : List Deed), ds = [jd ys es] ∧ Q (.lst (ys.map D.str)) h
theorem sc_Journal__houses : FnScope ["self"] ["self"] (defScope s_Journal__houses) := ⟨rfl, rfl, rfl, by decide +kernel, rfl, by decide +kernel, by decide +kernel⟩
def q_Journal__houses : RS := (qRet (qUn listD (qUn (fldD "Journal" "house_row") (qPeek 0))))
theorem w_Journal__houses (G : GE K mg)  : WkOk P w K mg base ["self"] "Journal.houses" s_Journal__houses 0 q_Journal__houses := fun f cdv A outer s H E hr tk => by
  have S := sc_Journal__houses
  unfold q_Journal__houses
  exact (qss_one (qs_ret ((qn_t1 call_list_of cn_list G.n_list (qe_fld G.k_Journal G.na_Journal_house_row (qk_var 0)).k)).e))
theorem v_Journal__houses (ds : List D) (h : PHp) (Qp : D → PHp → Prop) (Ep : XP) : sp_Journal__houses ds h Qp Ep → q_Journal__houses (PE0 Qp Ep) (startC 1 ds) h := by
  rintro ⟨ys, es, rfl, hQ⟩
  simp only [q_Journal__houses, jd, startC, qVar, qPeek, qC, qBin, qUn, qNil, qCons, qTup, qLst, qCall, asB, qTest, qAnd, qOr, qNot, qAndV, qOrV, qNotV, qIfE, deref, qNext, qSeq, qSet, qSetN, qSetP, qRet, qRetN, qDrop, qIfS, qFreeze, qApp, onOwnL, qAsg, gqName, gqNil, gqCons, gqTup, qM1, qRng1, qEnum, qAny, asI, asL, itemsD, qPart, qNoPart, qCut, cutD, qCutL, cutLD, addD, subD, mulD, modD, fdivD, eqD, neD, eqS, onB, ltD, leD, gtD, geD, isND, lenD, intD, strD, ordD, listD, tupleD, ixD, PEnds.at, wipeC, qYes,
    List.map_cons, List.map_nil, List.replicate, List.cons_append, List.nil_append, List.append_assoc, List.getElem?_cons_zero, List.getElem?_cons_succ, List.set_cons_zero, List.set_cons_succ, List.length_cons, List.length_nil, Option.map_some, if_true, if_false, Bool.not_true, Bool.not_false, decide_eq_true_eq, Bool.not_eq_true', decide_eq_false_iff_not, Nat.reduceAdd, Nat.reduceSub, List.replicate_succ, List.replicate_zero, true_and, and_true, reduceCtorEq, isStr, qPutS, putS, powD, CPow, qPut, onOwn, setD, qPutP, onPtr, qDelP, delD, qPutF, setF, qProp, qMeth, qMake, isObj, fldD, minD, maxD, qChain, revD, lrevD, isiD, tyD, qOrT, qAndT, onTru, truD, qJoined, qjCons, qjNil, fmtD, fmt5D, D.int.injEq, D.str.injEq, D.lst.injEq, D.tup.injEq, D.bl.injEq, false_implies, true_implies, ne_eq, not_false_eq_true, not_true_eq_false, forall_const, implies_true, false_and, and_false, exists_eq_left, exists_eq_left', Int.reduceEq, Int.reduceLT, Int.reduceNe, Int.reduceLE, or_false, false_or, or_true, true_or, qLc, qFor, qWhile, allD, sortAD, wipeC, isiS, List.any_cons, List.any_nil, Bool.or_false, Bool.or_true, Bool.true_or, Bool.false_or, Bool.and_self, Bool.false_and, Bool.and_false, Bool.and_true, Bool.true_and, String.reduceBEq, Bool.false_eq_true, Bool.true_eq_false, flook]
  exact ⟨_, rfl, hQ⟩
theorem c_Journal__houses (G : GE K mg) : CalP P w K mg base "Journal" "houses" 1 sp_Journal__houses :=
  calP_of G.p_Journal__houses sc_Journal__houses (fun _ _ F => F.bindsN fun _ _ _ _ _ _ us hl => match us, hl with | [_], _ => rfl) (fun _ _ _ _ ⟨_, _, e, _⟩ => by rw [e]; rfl) (w_Journal__houses G ) v_Journal__houses
end Pu.L70
set_option Elab.async false
set_option linter.all false
set_option maxRecDepth 100000
set_option maxHeartbeats 4000000
set_option autoImplicit false
namespace Pu.L70
open PySem PySem.Spec PyProof.Rows L2
variable {P : Program} {w : World} {K : PySem.W.Frag} {mg : Str → Option Value} {base : Heap}
def sp_Journal__deeds : Spec := fun ds h Q Ex => ∃ (ys : List Str) (es : List Deed), ds = [jd ys es] ∧ Q (.lst (es.map Deed.d)) h
theorem sc_Journal__deeds : FnScope ["self"] ["self"] (defScope s_Journal__deeds) := ⟨rfl, rfl, rfl, by decide +kernel, rfl, by decide +kernel, by decide +kernel⟩
def q_Journal__deeds : RS := (qRet (qUn listD (qUn (fldD "Journal" "done_deeds") (qPeek 0))))
theorem w_Journal__deeds (G : GE K mg)  : WkOk P w K mg base ["self"] "Journal.deeds" s_Journal__deeds 0 q_Journal__deeds := fun f cdv A outer s H E hr tk => by
  have S := sc_Journal__deeds
  unfold q_Journal__deeds
  exact (qss_one (qs_ret ((qn_t1 call_list_of cn_list G.n_list (qe_fld G.k_Journal G.na_Journal_done_deeds (qk_var 0)).k)).e))
theorem v_Journal__deeds (ds : List D) (h : PHp) (Qp : D → PHp → Prop) (Ep : XP) : sp_Journal__deeds ds h Qp Ep → q_Journal__deeds (PE0 Qp Ep) (startC 1 ds) h := by
  rintro ⟨ys, es, rfl, hQ⟩
  simp only [q_Journal__deeds, jd, startC, qVar, qPeek, qC, qBin, qUn, qNil, qCons, qTup, qLst, qCall, asB, qTest, qAnd, qOr, qNot, qAndV, qOrV, qNotV, qIfE, deref, qNext, qSeq, qSet, qSetN, qSetP, qRet, qRetN, qDrop, qIfS, qFreeze, qApp, onOwnL, qAsg, gqName, gqNil, gqCons, gqTup, qM1, qRng1, qEnum, qAny, asI, asL, itemsD, qPart, qNoPart, qCut, cutD, qCutL, cutLD, addD, subD, mulD, modD, fdivD, eqD, neD, eqS, onB, ltD, leD, gtD, geD, isND, lenD, intD, strD, ordD, listD, tupleD, ixD, PEnds.at, wipeC, qYes,
    List.map_cons, List.map_nil, List.replicate, List.cons_append, List.nil_append, List.append_assoc, List.getElem?_cons_zero, List.getElem?_cons_succ, List.set_cons_zero, List.set_cons_succ, List.length_cons, List.length_nil, Option.map_some, if_true, if_false, Bool.not_true, Bool.not_false, decide_eq_true_eq, Bool.not_eq_true', decide_eq_false_iff_not, Nat.reduceAdd, Nat.reduceSub, List.replicate_succ, List.replicate_zero, true_and, and_true, reduceCtorEq, isStr, qPutS, putS, powD, CPow, qPut, onOwn, setD, qPutP, onPtr, qDelP, delD, qPutF, setF, qProp, qMeth, qMake, isObj, fldD, minD, maxD, qChain, revD, lrevD, isiD, tyD, qOrT, qAndT, onTru, truD, qJoined, qjCons, qjNil, fmtD, fmt5D, D.int.injEq, D.str.injEq, D.lst.injEq, D.tup.injEq, D.bl.injEq, false_implies, true_implies, ne_eq, not_false_eq_true, not_true_eq_false, forall_const, implies_true, false_and, and_false, exists_eq_left, exists_eq_left', Int.reduceEq, Int.reduceLT, Int.reduceNe, Int.reduceLE, or_false, false_or, or_true, true_or, qLc, qFor, qWhile, allD, sortAD, wipeC, isiS, List.any_cons, List.any_nil, Bool.or_false, Bool.or_true, Bool.true_or, Bool.false_or, Bool.and_self, Bool.false_and, Bool.and_false, Bool.and_true, Bool.true_and, String.reduceBEq, Bool.false_eq_true, Bool.true_eq_false, flook]
  rw [if_neg (by decide)]
  exact ⟨_, rfl, hQ⟩
theorem c_Journal__deeds (G : GE K mg) : CalP P w K mg base "Journal" "deeds" 1 sp_Journal__deeds :=
  calP_of G.p_Journal__deeds sc_Journal__deeds (fun _ _ F => F.bindsN fun _ _ _ _ _ _ us hl => match us, hl with | [_], _ => rfl) (fun _ _ _ _ ⟨_, _, e, _⟩ => by rw [e]; rfl) (w_Journal__deeds G ) v_Journal__deeds
end Pu.L70
set_option Elab.async false
set_option linter.all false
set_option maxRecDepth 100000
set_option maxHeartbeats 4000000
set_option autoImplicit false
namespace Pu.L70
open PySem PySem.Spec PyProof.Rows L2
variable {P : Program} {w : World} {K : PySem.W.Frag} {mg : Str → Option Value} {base : Heap}
def sp_Journal__prefix : Spec := fun ds h Q Ex => ∃ (ys : List Str) (es : List Deed) (n : Int), ds = [jd ys es, .int n] ∧ 0 ≤ n ∧ n ≤ es.length ∧ ys.length ≤ 32 ∧ ys.Nodup ∧ (∀ s ∈ ys, nameB s = true) ∧ es.length ≤ 240 ∧ okSeq ys [] es ∧
  ∀ (zs : List Str) h', zs.Perm ys → sortedS zs = true → Q (jd zs (es.take n.toNat)) h'
theorem sc_Journal__prefix : FnScope ["self", "count"] ["self", "count"] (defScope s_Journal__prefix) := ⟨rfl, rfl, rfl, by decide +kernel, rfl, by decide +kernel, by decide +kernel⟩
def q_Journal__prefix : RS := (qSeq (qDrop (qCall sp_check_number (qCons (qVar 1) (qCons (qC (.int 0)) (qCons (qUn lenD (qUn (fldD "Journal" "done_deeds") (qPeek 0))) qNil)))))
  (qRet (qMake "Journal" sp_Journal____init__ (qCons (qUn (fldD "Journal" "house_row") (qPeek 0)) (qCons (qCut (qUn (fldD "Journal" "done_deeds") (qPeek 0)) qNoPart (qPart (qVar 1))) qNil)))))
theorem w_Journal__prefix (G : GE K mg) (C_check_number : Cal P w K mg base "check_number" ["number", "least", "most"] 1 sp_check_number) (C_Journal____init__ : CalC P w K mg base "Journal" ["self", "houses", "deeds"] 7 sp_Journal____init__) : WkOk P w K mg base ["self", "count"] "Journal.prefix" s_Journal__prefix 8 q_Journal__prefix := fun f cdv A outer s H E hr tk => by
  have S := sc_Journal__prefix
  unfold q_Journal__prefix
  exact (qss_cons (qs_expr (qe_callC C_check_number hr tk (qa_cons (qe_var 1) (qa_cons qe_int (qa_cons (qe_b1 call_lenAll cs_len G.n_len (qe_fld G.k_Journal G.na_Journal_done_deeds (qk_var 0)).k) qa_nil)))))
    (qss_one (qs_ret (qe_make C_Journal____init__ hr (qa_cons (qe_fld G.k_Journal G.na_Journal_house_row (qk_var 0)) (qa_cons (qe_cut (qe_fld G.k_Journal G.na_Journal_done_deeds (qk_var 0)).k qo_none (qo_some (qe_var 1))) qa_nil))))))
theorem v_Journal__prefix (ds : List D) (h : PHp) (Qp : D → PHp → Prop) (Ep : XP) : sp_Journal__prefix ds h Qp Ep → q_Journal__prefix (PE0 Qp Ep) (startC 2 ds) h := by
  rintro ⟨ys, es, n, rfl, h0, h1, hl, hnd, hn, he, hok, hQ⟩
  simp only [q_Journal__prefix, jd, startC, qVar, qPeek, qC, qBin, qUn, qNil, qCons, qTup, qLst, qCall, asB, qTest, qAnd, qOr, qNot, qAndV, qOrV, qNotV, qIfE, deref, qNext, qSeq, qSet, qSetN, qSetP, qRet, qRetN, qDrop, qIfS, qFreeze, qApp, onOwnL, qAsg, gqName, gqNil, gqCons, gqTup, qM1, qRng1, qEnum, qAny, asI, asL, itemsD, qPart, qNoPart, qCut, cutD, qCutL, cutLD, addD, subD, mulD, modD, fdivD, eqD, neD, eqS, onB, ltD, leD, gtD, geD, isND, lenD, intD, strD, ordD, listD, tupleD, ixD, PEnds.at, wipeC, qYes,
    List.map_cons, List.map_nil, List.replicate, List.cons_append, List.nil_append, List.append_assoc, List.getElem?_cons_zero, List.getElem?_cons_succ, List.set_cons_zero, List.set_cons_succ, List.length_cons, List.length_nil, Option.map_some, if_true, if_false, Bool.not_true, Bool.not_false, decide_eq_true_eq, Bool.not_eq_true', decide_eq_false_iff_not, Nat.reduceAdd, Nat.reduceSub, List.replicate_succ, List.replicate_zero, true_and, and_true, reduceCtorEq, isStr, qPutS, putS, powD, CPow, qPut, onOwn, setD, qPutP, onPtr, qDelP, delD, qPutF, setF, qProp, qMeth, qMake, isObj, fldD, minD, maxD, qChain, revD, lrevD, isiD, tyD, qOrT, qAndT, onTru, truD, qJoined, qjCons, qjNil, fmtD, fmt5D, D.int.injEq, D.str.injEq, D.lst.injEq, D.tup.injEq, D.bl.injEq, false_implies, true_implies, ne_eq, not_false_eq_true, not_true_eq_false, forall_const, implies_true, false_and, and_false, exists_eq_left, exists_eq_left', Int.reduceEq, Int.reduceLT, Int.reduceNe, Int.reduceLE, or_false, false_or, or_true, true_or, qLc, qFor, qWhile, allD, sortAD, wipeC, isiS, List.any_cons, List.any_nil, Bool.or_false, Bool.or_true, Bool.true_or, Bool.false_or, Bool.and_self, Bool.false_and, Bool.and_false, Bool.and_true, Bool.true_and, String.reduceBEq, Bool.false_eq_true, Bool.true_eq_false, flook]
  have ne : ¬ Str.ofString "done_deeds" = Str.ofString "house_row" := by decide
  rw [if_neg ne]
  refine ⟨_, rfl, _, _, _, rfl, h0, by rw [List.length_map]; exact h1, ?_⟩
  refine ⟨_, rfl, _, rfl, ?_⟩
  dsimp only
  intro x hx
  have ecut : cutL (es.map Deed.d) none (some n) = (es.take n.toNat).map Deed.d := by
    unfold cutL HT.sIx
    dsimp only
    rw [if_neg (by omega), Nat.sub_zero, List.drop_zero, List.length_map, ← List.map_take]
    congr 1
    congr 1
    omega
  rw [ecut]
  refine ⟨x, ys, _, es.take n.toNat, rfl, pset_same, hl, hnd, hn, by rw [List.length_map], fun i e d h1 h2 => ?_, by rw [List.length_take]; omega, fun zs hz => okSeq_mem (fun s hs => hz.mem_iff.mpr hs) (okSeq_take _ hok), fun zs h' hz hs he => ⟨rfl, _, he, hQ zs _ hz hs⟩⟩
  rw [List.getElem?_map, h1] at h2
  cases h2
  exact .inr (.inl rfl)
theorem c_Journal__prefix (G : GE K mg) : CalM P w K mg base "Journal" "prefix" ["self", "count"] 9 sp_Journal__prefix :=
  calM_of G.m_Journal__prefix sc_Journal__prefix (fun _ _ F => F.bindsN fun _ _ _ _ _ _ us hl => match us, hl with | [_, _], _ => rfl) (fun _ _ _ _ ⟨_, _, _, e, _⟩ => by rw [e]; rfl) (w_Journal__prefix G (c_check_number G) (c_Journal____init__ G)) v_Journal__prefix
end Pu.L70
set_option Elab.async false
set_option linter.all false
set_option maxRecDepth 100000
set_option maxHeartbeats 4000000
set_option autoImplicit false
namespace Pu.L70
open PySem PySem.Spec PyProof.Rows L2
variable {P : Program} {w : World} {K : PySem.W.Frag} {mg : Str → Option Value} {base : Heap}
def sp_record_row : Spec := fun ds h Q Ex => ∃ (n : Nat) (b : List Nat), ds = [.int (n : Int), .str (mkS b)] ∧ n < 1000 ∧ b.length ≤ 2000 ∧ Q (.str (mkS (rowL n b))) h
theorem sc_record_row : FnScope ["index", "body", "total"] ["index", "body"] (defScope s_record_row) := ⟨rfl, rfl, rfl, by decide +kernel, rfl, by decide +kernel, by decide +kernel⟩
def q_record_row : RS := (qSeq (qSet 2 (qCall sp_record_sum (qCons (qJoined (qjCons (qUn fmtD (qVar 0)) (qjCons (qC (.str (Str.ofString " "))) (qjCons (qUn fmtD (qVar 1)) qjNil)))) qNil)))
  (qRet (qJoined (qjCons (qUn fmtD (qVar 0)) (qjCons (qC (.str (Str.ofString " "))) (qjCons (qUn fmt5D (qVar 2)) (qjCons (qC (.str (Str.ofString " "))) (qjCons (qUn fmtD (qVar 1)) (qjCons (qC (.str (Str.ofString "\n"))) qjNil)))))))))
theorem w_record_row (G : GE K mg) (C_record_sum : Cal P w K mg base "record_sum" ["text"] 1 sp_record_sum) : WkOk P w K mg base ["index", "body", "total"] "record_row" s_record_row 1 q_record_row := fun f cdv A outer s H E hr tk => by
  have S := sc_record_row
  unfold q_record_row
  exact (qss_cons (qs_set 2 (qe_callC C_record_sum hr tk (qa_cons (qe_joined (qj_cons (qe_fmt (qe_var 0)) (qj_cons qe_str (qj_cons (qe_fmt (qe_var 1)) qj_nil)))) qa_nil)) S.nd)
    (qss_one (qs_ret (qe_joined (qj_cons (qe_fmt (qe_var 0)) (qj_cons qe_str (qj_cons (qe_fmt5 (qe_var 2)) (qj_cons qe_str (qj_cons (qe_fmt (qe_var 1)) (qj_cons qe_str qj_nil))))))))))
theorem v_record_row (ds : List D) (h : PHp) (Qp : D → PHp → Prop) (Ep : XP) : sp_record_row ds h Qp Ep → q_record_row (PE0 Qp Ep) (startC 3 ds) h := by
  rintro ⟨n, b, rfl, hn, hb, hQ⟩
  simp only [q_record_row, startC, qVar, qPeek, qC, qBin, qUn, qNil, qCons, qTup, qLst, qCall, asB, qTest, qAnd, qOr, qNot, qAndV, qOrV, qNotV, qIfE, deref, qNext, qSeq, qSet, qSetN, qSetP, qRet, qRetN, qDrop, qIfS, qFreeze, qApp, onOwnL, qAsg, gqName, gqNil, gqCons, gqTup, qM1, qRng1, qEnum, qAny, asI, asL, itemsD, qPart, qNoPart, qCut, cutD, qCutL, cutLD, addD, subD, mulD, modD, fdivD, eqD, neD, eqS, onB, ltD, leD, gtD, geD, isND, lenD, intD, strD, ordD, listD, tupleD, ixD, PEnds.at, wipeC, qYes,
    List.map_cons, List.map_nil, List.replicate, List.cons_append, List.nil_append, List.append_assoc, List.getElem?_cons_zero, List.getElem?_cons_succ, List.set_cons_zero, List.set_cons_succ, List.length_cons, List.length_nil, Option.map_some, if_true, if_false, Bool.not_true, Bool.not_false, decide_eq_true_eq, Bool.not_eq_true', decide_eq_false_iff_not, Nat.reduceAdd, Nat.reduceSub, List.replicate_succ, List.replicate_zero, true_and, and_true, reduceCtorEq, isStr, qPutS, putS, powD, CPow, qPut, onOwn, setD, qPutP, onPtr, qDelP, delD, qPutF, setF, qProp, qMeth, qMake, isObj, fldD, minD, maxD, qChain, revD, lrevD, isiD, tyD, qOrT, qAndT, onTru, truD, qJoined, qjCons, qjNil, fmtD, fmt5D, D.int.injEq, D.str.injEq, D.lst.injEq, D.tup.injEq, D.bl.injEq, false_implies, true_implies, ne_eq, not_false_eq_true, not_true_eq_false, forall_const, implies_true, false_and, and_false, exists_eq_left, exists_eq_left', Int.reduceEq, Int.reduceLT, Int.reduceNe, Int.reduceLE, or_false, false_or, or_true, true_or, qLc, qFor, qWhile, allD, sortAD, wipeC, isiS, List.any_cons, List.any_nil, Bool.or_false, Bool.or_true, Bool.true_or, Bool.false_or, Bool.and_self, Bool.false_and, Bool.and_false, Bool.and_true, Bool.true_and, String.reduceBEq, Bool.false_eq_true, Bool.true_eq_false]
  have en : tl (Str.ofString (toString (n : Int))) = TL.numL n := TL.tl_num n
  have nl := numL_len (n := n) (by omega)
  have L : ∀ x : Str, (tl x).length ≤ 9000 → x.length ≤ sizeLine := fun x hx => by rw [tl_len, sizeLine_eq]; omega
  have sp : tl (Str.ofString " ") = [32] := rfl
  have nlc : tl (Str.ofString "\n") = [10] := rfl
  have emp : tl Str.empty = [] := rfl
  have small := rs_small (TL.numL n ++ (32 :: b)) 7 (by decide) (by decide)
  have e1 : Str.empty ++ Str.ofString (toString (n : Int)) ++ Str.ofString " " ++ mkS b = mkS (TL.numL n ++ (32 :: b)) := mkS_eq (by simp only [tl_cat, en, sp, emp, tl_mkS]; simp)
  have p5 := pad5L_len (s := rs 7 (TL.numL n ++ (32 :: b))) small.1 (by omega)
  refine ⟨nat_log (by omega), L _ ?_, L _ ?_, L _ ?_, L _ ?_, _, rfl, ?_⟩
  · simp only [tl_cat, en, emp, List.length_append, List.length_nil]; omega
  · simp only [tl_cat, en, emp, sp, List.length_append, List.length_nil, List.length_cons]; omega
  · rw [tl_mkS]; omega
  · simp only [tl_cat, en, emp, sp, tl_mkS, List.length_append, List.length_nil, List.length_cons]; omega
  · rw [e1]
    refine ⟨nat_log (by omega), L _ ?_, L _ ?_, small.1, by show rs 7 (TL.numL n ++ (32 :: b)) < 100000; omega, _, rfl, L _ ?_, L _ ?_, L _ ?_, L _ ?_, L _ ?_, ?_⟩
    · simp only [tl_cat, en, emp, List.length_append, List.length_nil]; omega
    · simp only [tl_cat, en, emp, sp, List.length_append, List.length_nil, List.length_cons]; omega
    · simp only [tl_cat, en, emp, sp, List.length_append, List.length_nil, List.length_cons]
      show _ + (pad5L (rs 7 (TL.numL n ++ (32 :: b)))).length ≤ _
      omega
    · simp only [tl_cat, en, emp, sp, List.length_append, List.length_nil, List.length_cons]
      show _ + (pad5L (rs 7 (TL.numL n ++ (32 :: b)))).length + _ ≤ _
      omega
    · rw [tl_mkS]; omega
    · simp only [tl_cat, en, emp, sp, tl_mkS, List.length_append, List.length_nil, List.length_cons]
      show _ + (pad5L (rs 7 (TL.numL n ++ (32 :: b)))).length + _ + _ ≤ _
      omega
    · simp only [tl_cat, en, emp, sp, nlc, tl_mkS, List.length_append, List.length_nil, List.length_cons]
      show _ + (pad5L (rs 7 (TL.numL n ++ (32 :: b)))).length + _ + _ + _ ≤ _
      omega
    · have e2 : ∀ y : Str, Str.empty ++ Str.ofString (toString (n : Int)) ++ Str.ofString " " ++ y ++ Str.ofString " " ++ mkS b ++ Str.ofString "\n" = mkS (TL.numL n ++ (32 :: (tl y ++ (32 :: (b ++ [10]))))) := fun y => mkS_eq (by simp only [tl_cat, en, sp, emp, nlc, tl_mkS]; simp)
      rw [e2]
      exact hQ
theorem c_record_row (G : GE K mg) : Cal P w K mg base "record_row" ["index", "body"] 2 sp_record_row :=
  cal_of G.f_record_row sc_record_row (fun _ _ F => F.bindsN fun _ _ _ _ _ _ us hl => match us, hl with | [_, _], _ => rfl) (fun _ _ _ _ ⟨_, _, e, _⟩ => by rw [e]; rfl) (w_record_row G (c_record_sum G)) v_record_row
end Pu.L70
set_option Elab.async false
set_option linter.all false
set_option maxRecDepth 100000
set_option maxHeartbeats 4000000
set_option autoImplicit false
namespace Pu.L70
open PySem PySem.Spec PyProof.Rows L2
theorem joinL_len (S : List Nat) : ∀ l : List (List Nat), (TL.joinL S l).length ≤ (l.map List.length).sum + l.length * S.length
  | [] => by simp [TL.joinL]
  | [p] => by simp [TL.joinL]
  | p :: q :: r => by
    have ih := joinL_len S (q :: r)
    show (p ++ (S ++ TL.joinL S (q :: r))).length ≤ _
    rw [List.length_append, List.length_append, List.map_cons, List.sum_cons]
    rw [List.length_cons (a := p), Nat.add_mul]
    omega
theorem sum_le {ss : List Str} {m : Nat} (h : ∀ s ∈ ss, s.length ≤ m) : (ss.map (·.length)).sum ≤ ss.length * m := by
  induction ss with
  | nil => simp
  | cons s r ih =>
    have h1 := h s (List.mem_cons_self ..)
    have h2 := ih fun z hz => h z (List.mem_cons_of_mem _ hz)
    rw [List.map_cons, List.sum_cons, List.length_cons, Nat.add_mul]
    omega
theorem join_le {a : Str} {ss : List Str} {m : Nat} (h : ∀ s ∈ ss, s.length ≤ m) : (TL.joinL (tl a) (ss.map tl)).length ≤ ss.length * m + ss.length * (tl a).length := by
  have h1 := joinL_len (tl a) (ss.map tl)
  have h2 := sum_le h
  have h3 : ((ss.map tl).map List.length).sum = (ss.map (·.length)).sum := by
    rw [List.map_map]
    rfl
  rw [List.length_map] at h1
  omega
theorem nameB_len {s : Str} (h : nameB s = true) : s.length ≤ 12 := by
  unfold nameB at h
  simp only [Bool.and_eq_true, decide_eq_true_eq] at h
  exact h.1.1.2
theorem join_mkS {a : Str} {ss : List Str} : Txt.join a ss = mkS (TL.joinL (tl a) (ss.map tl)) := mkS_eq (tl_join a ss)
theorem row_len (e : Deed) : e.row.length ≤ 4 := by
  cases e with
  | put l a b => exact (by decide : 4 ≤ 4)
  | take l => exact (by decide : 2 ≤ 4)
end Pu.L70
set_option Elab.async false
set_option linter.all false
set_option maxRecDepth 100000
set_option maxHeartbeats 4000000
set_option autoImplicit false
namespace Pu.L70
open PySem PySem.Spec PyProof.Rows L2
variable {P : Program} {w : World} {K : PySem.W.Frag} {mg : Str → Option Value} {base : Heap}
def sp_houses_row : Spec := fun ds h Q Ex => ∃ (ys : List Str), ds = [.lst (ys.map D.str)] ∧ ys.length ≤ 32 ∧ (∀ s ∈ ys, nameB s = true) ∧ Q (.str (mkS (rowL 0 (bodyH ys)))) h
theorem sc_houses_row : FnScope ["houses"] ["houses"] (defScope s_houses_row) := ⟨rfl, rfl, rfl, by decide +kernel, rfl, by decide +kernel, by decide +kernel⟩
def q_houses_row : RS := (qRet (qCall sp_record_row (qCons (qC (.int 0)) (qCons (qM1 joinD (qC (.str (Str.ofString " "))) (qBin addD (qLst (qCons (qC (.str (Str.ofString "houses"))) qNil)) (qPeek 0))) qNil))))
theorem w_houses_row (G : GE K mg) (C_record_row : Cal P w K mg base "record_row" ["index", "body"] 2 sp_record_row) : WkOk P w K mg base ["houses"] "houses_row" s_houses_row 2 q_houses_row := fun f cdv A outer s H E hr tk => by
  have S := sc_houses_row
  unfold q_houses_row
  exact (qss_one (qs_ret (qe_callC C_record_row hr tk (qa_cons qe_int (qa_cons (qe_m1 PySem.F.slot_str_join PySem.F.type_str_join mt_join ms_join (qe_str).k (qe_bin op_addAll ops_add ((qn_lst (qa_cons qe_str qa_nil))).e.k (qk_var 0)).k) qa_nil)))))
theorem v_houses_row (ds : List D) (h : PHp) (Qp : D → PHp → Prop) (Ep : XP) : sp_houses_row ds h Qp Ep → q_houses_row (PE0 Qp Ep) (startC 1 ds) h := by
  rintro ⟨ys, rfl, hl, hn, hQ⟩
  simp only [q_houses_row, startC, qVar, qPeek, qC, qBin, qUn, qNil, qCons, qTup, qLst, qCall, asB, qTest, qAnd, qOr, qNot, qAndV, qOrV, qNotV, qIfE, deref, qNext, qSeq, qSet, qSetN, qSetP, qRet, qRetN, qDrop, qIfS, qFreeze, qApp, onOwnL, qAsg, gqName, gqNil, gqCons, gqTup, qM1, qRng1, qEnum, qAny, asI, asL, itemsD, qPart, qNoPart, qCut, cutD, qCutL, cutLD, addD, subD, mulD, modD, fdivD, eqD, neD, eqS, onB, ltD, leD, gtD, geD, isND, lenD, intD, strD, ordD, listD, tupleD, ixD, PEnds.at, wipeC, qYes,
    List.map_cons, List.map_nil, List.replicate, List.cons_append, List.nil_append, List.append_assoc, List.getElem?_cons_zero, List.getElem?_cons_succ, List.set_cons_zero, List.set_cons_succ, List.length_cons, List.length_nil, Option.map_some, if_true, if_false, Bool.not_true, Bool.not_false, decide_eq_true_eq, Bool.not_eq_true', decide_eq_false_iff_not, Nat.reduceAdd, Nat.reduceSub, List.replicate_succ, List.replicate_zero, true_and, and_true, reduceCtorEq, isStr, qPutS, putS, powD, CPow, qPut, onOwn, setD, qPutP, onPtr, qDelP, delD, qPutF, setF, qProp, qMeth, qMake, isObj, fldD, minD, maxD, qChain, revD, lrevD, isiD, tyD, qOrT, qAndT, onTru, truD, qJoined, qjCons, qjNil, fmtD, fmt5D, D.int.injEq, D.str.injEq, D.lst.injEq, D.tup.injEq, D.bl.injEq, false_implies, true_implies, ne_eq, not_false_eq_true, not_true_eq_false, forall_const, implies_true, false_and, and_false, exists_eq_left, exists_eq_left', Int.reduceEq, Int.reduceLT, Int.reduceNe, Int.reduceLE, or_false, false_or, or_true, true_or, qLc, qFor, qWhile, allD, sortAD, wipeC, isiS, List.any_cons, List.any_nil, Bool.or_false, Bool.or_true, Bool.true_or, Bool.false_or, Bool.and_self, Bool.false_and, Bool.and_false, Bool.and_true, Bool.true_and, String.reduceBEq, Bool.false_eq_true, Bool.true_eq_false]
  have h12 : ∀ s ∈ Str.ofString "houses" :: ys, s.length ≤ 12 := fun s hs => by
    rcases List.mem_cons.mp hs with rfl | hs
    · decide
    · exact nameB_len (hn s hs)
  have b1 := sum_le h12
  have b2 := join_le (a := Str.ofString " ") h12
  have e1 : (tl (Str.ofString " ")).length = 1 := rfl
  rw [List.length_cons] at b1
  rw [List.length_cons, e1] at b2
  refine ⟨by rw [List.length_map, sizeLine_eq]; omega, Str.ofString " ", Str.ofString "houses" :: ys, rfl, .inl rfl, ?_, ?_⟩
  · rw [tl_len, e1, List.length_cons]
    omega
  · rw [join_mkS]
    refine ⟨0, bodyH ys, rfl, by decide, ?_, hQ⟩
    show (TL.joinL (tl (Str.ofString " ")) ((Str.ofString "houses" :: ys).map tl)).length ≤ _
    omega
theorem c_houses_row (G : GE K mg) : Cal P w K mg base "houses_row" ["houses"] 3 sp_houses_row :=
  cal_of G.f_houses_row sc_houses_row (fun _ _ F => F.bindsN fun _ _ _ _ _ _ us hl => match us, hl with | [_], _ => rfl) (fun _ _ _ _ ⟨_, e, _⟩ => by rw [e]; rfl) (w_houses_row G (c_record_row G)) v_houses_row
end Pu.L70
set_option Elab.async false
set_option linter.all false
set_option maxRecDepth 100000
set_option maxHeartbeats 4000000
set_option autoImplicit false
namespace Pu.L70
open PySem PySem.Spec PyProof.Rows L2
variable {P : Program} {w : World} {K : PySem.W.Frag} {mg : Str → Option Value} {base : Heap}
def sp_deed_row : Spec := fun ds h Q Ex => ∃ (n : Nat) (e : Deed), ds = [.int (n : Int), Deed.d e] ∧ n < 1000 ∧ (∀ s ∈ e.row, s.length ≤ 12) ∧ Q (.str (mkS (rowL n (bodyD e)))) h
theorem sc_deed_row : FnScope ["index", "deed"] ["index", "deed"] (defScope s_deed_row) := ⟨rfl, rfl, rfl, by decide +kernel, rfl, by decide +kernel, by decide +kernel⟩
def q_deed_row : RS := (qRet (qCall sp_record_row (qCons (qVar 0) (qCons (qM1 joinD (qC (.str (Str.ofString " "))) (qUn listD (qPeek 1))) qNil))))
theorem w_deed_row (G : GE K mg) (C_record_row : Cal P w K mg base "record_row" ["index", "body"] 2 sp_record_row) : WkOk P w K mg base ["index", "deed"] "deed_row" s_deed_row 2 q_deed_row := fun f cdv A outer s H E hr tk => by
  have S := sc_deed_row
  unfold q_deed_row
  exact (qss_one (qs_ret (qe_callC C_record_row hr tk (qa_cons (qe_var 0) (qa_cons (qe_m1 PySem.F.slot_str_join PySem.F.type_str_join mt_join ms_join (qe_str).k ((qn_t1 call_list_of cn_list G.n_list (qk_var 1))).e.k) qa_nil)))))
theorem v_deed_row (ds : List D) (h : PHp) (Qp : D → PHp → Prop) (Ep : XP) : sp_deed_row ds h Qp Ep → q_deed_row (PE0 Qp Ep) (startC 2 ds) h := by
  rintro ⟨n, e, rfl, hn, he, hQ⟩
  simp only [q_deed_row, Deed.d, startC, qVar, qPeek, qC, qBin, qUn, qNil, qCons, qTup, qLst, qCall, asB, qTest, qAnd, qOr, qNot, qAndV, qOrV, qNotV, qIfE, deref, qNext, qSeq, qSet, qSetN, qSetP, qRet, qRetN, qDrop, qIfS, qFreeze, qApp, onOwnL, qAsg, gqName, gqNil, gqCons, gqTup, qM1, qRng1, qEnum, qAny, asI, asL, itemsD, qPart, qNoPart, qCut, cutD, qCutL, cutLD, addD, subD, mulD, modD, fdivD, eqD, neD, eqS, onB, ltD, leD, gtD, geD, isND, lenD, intD, strD, ordD, listD, tupleD, ixD, PEnds.at, wipeC, qYes,
    List.map_cons, List.map_nil, List.replicate, List.cons_append, List.nil_append, List.append_assoc, List.getElem?_cons_zero, List.getElem?_cons_succ, List.set_cons_zero, List.set_cons_succ, List.length_cons, List.length_nil, Option.map_some, if_true, if_false, Bool.not_true, Bool.not_false, decide_eq_true_eq, Bool.not_eq_true', decide_eq_false_iff_not, Nat.reduceAdd, Nat.reduceSub, List.replicate_succ, List.replicate_zero, true_and, and_true, reduceCtorEq, isStr, qPutS, putS, powD, CPow, qPut, onOwn, setD, qPutP, onPtr, qDelP, delD, qPutF, setF, qProp, qMeth, qMake, isObj, fldD, minD, maxD, qChain, revD, lrevD, isiD, tyD, qOrT, qAndT, onTru, truD, qJoined, qjCons, qjNil, fmtD, fmt5D, D.int.injEq, D.str.injEq, D.lst.injEq, D.tup.injEq, D.bl.injEq, false_implies, true_implies, ne_eq, not_false_eq_true, not_true_eq_false, forall_const, implies_true, false_and, and_false, exists_eq_left, exists_eq_left', Int.reduceEq, Int.reduceLT, Int.reduceNe, Int.reduceLE, or_false, false_or, or_true, true_or, qLc, qFor, qWhile, allD, sortAD, wipeC, isiS, List.any_cons, List.any_nil, Bool.or_false, Bool.or_true, Bool.true_or, Bool.false_or, Bool.and_self, Bool.false_and, Bool.and_false, Bool.and_true, Bool.true_and, String.reduceBEq, Bool.false_eq_true, Bool.true_eq_false]
  have b1 := sum_le he
  have b2 := join_le (a := Str.ofString " ") he
  have e1 : (tl (Str.ofString " ")).length = 1 := rfl
  rw [e1] at b2
  have hr := row_len e
  refine ⟨Str.ofString " ", e.row, rfl, .inl rfl, ?_, ?_⟩
  · rw [tl_len, e1]
    omega
  · rw [join_mkS]
    refine ⟨n, bodyD e, rfl, hn, ?_, hQ⟩
    show (TL.joinL (tl (Str.ofString " ")) (e.row.map tl)).length ≤ _
    omega
theorem c_deed_row (G : GE K mg) : Cal P w K mg base "deed_row" ["index", "deed"] 3 sp_deed_row :=
  cal_of G.f_deed_row sc_deed_row (fun _ _ F => F.bindsN fun _ _ _ _ _ _ us hl => match us, hl with | [_, _], _ => rfl) (fun _ _ _ _ ⟨_, _, e, _⟩ => by rw [e]; rfl) (w_deed_row G (c_record_row G)) v_deed_row
end Pu.L70
set_option Elab.async false
set_option linter.all false
set_option maxRecDepth 100000
set_option maxHeartbeats 4000000
set_option autoImplicit false
namespace Pu.L70
open PySem PySem.Spec PyProof.Rows L2
theorem rowsL_mem : ∀ {bs : List (List Nat)} {n : Nat} {r : List Nat}, r ∈ rowsL n bs → ∃ k b, b ∈ bs ∧ k < n + bs.length ∧ r = rowL k b
  | [], n, r, h => by cases h
  | c :: l, n, r, h => by
    rcases List.mem_cons.mp (show r ∈ rowL n c :: rowsL (n + 1) l from h) with rfl | h
    · exact ⟨n, c, List.mem_cons_self .., by rw [List.length_cons]; omega, rfl⟩
    · obtain ⟨k, b, h1, h2, h3⟩ := rowsL_mem h
      exact ⟨k, b, List.mem_cons_of_mem _ h1, by rw [List.length_cons]; omega, h3⟩
theorem map_tl_mkS (ls : List (List Nat)) : (ls.map mkS).map tl = ls := by
  rw [List.map_map]
  exact List.map_id'' (fun _ => rfl) ls
theorem join_empty (ls : List (List Nat)) : Txt.join (Str.ofString "") (ls.map mkS) = mkS ls.flatten := by
  rw [join_mkS, map_tl_mkS, show tl (Str.ofString "") = [] from rfl, joinL_nil]
end Pu.L70
set_option Elab.async false
set_option linter.all false
set_option maxRecDepth 100000
set_option maxHeartbeats 4000000
set_option autoImplicit false
namespace Pu.L70
open PySem PySem.Spec PyProof.Rows L2
variable {P : Program} {w : World} {K : PySem.W.Frag} {mg : Str → Option Value} {base : Heap}
def sp_write_log : Spec := fun ds h Q Ex => ∃ (ys : List Str) (es : List Deed), ds = [jd ys es] ∧ ys.length ≤ 32 ∧ (∀ s ∈ ys, nameB s = true) ∧ es.length ≤ 240 ∧ (∀ e ∈ es, ∀ s ∈ e.row, s.length ≤ 12) ∧ Q (.str (mkS (rowsL 0 (bodies ys es)).flatten)) h
theorem sc_write_log : FnScope ["journal", "rows", "at", "deed"] ["journal"] (defScope s_write_log) := ⟨rfl, rfl, rfl, by decide +kernel, rfl, by decide +kernel, by decide +kernel⟩
def q_write_log : RS := (qSeq (qSetN 1 (qLst (qCons (qCall sp_houses_row (qCons (qProp "Journal" sp_Journal__houses (qVar 0)) qNil)) qNil)))
  (qSeq (qFor (qEnum (qProp "Journal" sp_Journal__deeds (qVar 0))) (gqTup 2 (gqCons (gqName 2) (gqCons (gqName 3) gqNil))) (qApp 1 (qCall sp_deed_row (qCons (qBin addD (qPeek 2) (qC (.int 1))) (qCons (qVar 3) qNil)))))
  (qRet (qM1 joinD (qC (.str (Str.ofString ""))) (qPeek 1)))))
theorem w_write_log (G : GE K mg) (C_houses_row : Cal P w K mg base "houses_row" ["houses"] 3 sp_houses_row) (C_Journal__houses : CalP P w K mg base "Journal" "houses" 1 sp_Journal__houses) (C_Journal__deeds : CalP P w K mg base "Journal" "deeds" 1 sp_Journal__deeds) (C_deed_row : Cal P w K mg base "deed_row" ["index", "deed"] 3 sp_deed_row) : WkOk P w K mg base ["journal", "rows", "at", "deed"] "write_log" s_write_log 3 q_write_log := fun f cdv A outer s H E hr tk => by
  have S := sc_write_log
  unfold q_write_log
  exact (qss_cons (qs_setN 1 (qn_lst (qa_cons (qe_callC C_houses_row hr tk (qa_cons (qe_prop C_Journal__houses G.k_Journal hr (qe_var 0)) qa_nil)) qa_nil)) S.nd)
    (qss_cons (qs_for (passes_of rfl) rfl (qi_enum (qe_prop C_Journal__deeds G.k_Journal hr (qe_var 0)) G.n_enumerate) (qg_tup rfl (qgs_cons (qg_name 2 S.nd) (qgs_cons (qg_name 3 S.nd) qgs_nil))) (qss_one (qs_app 1 (qe_callC C_deed_row hr tk (qa_cons (qe_bin op_addAll ops_add (qk_var 2) (qe_int).k) (qa_cons (qe_var 3) qa_nil))))))
    (qss_one (qs_ret (qe_m1 PySem.F.slot_str_join PySem.F.type_str_join mt_join ms_join (qe_str).k (qk_var 1))))))
theorem v_write_log (ds : List D) (h : PHp) (Qp : D → PHp → Prop) (Ep : XP) : sp_write_log ds h Qp Ep → q_write_log (PE0 Qp Ep) (startC 4 ds) h := by
  rintro ⟨ys, es, rfl, hl, hn, he, hd, hQ⟩
  simp only [q_write_log, startC, qVar, qPeek, qC, qBin, qUn, qNil, qCons, qTup, qLst, qCall, asB, qTest, qAnd, qOr, qNot, qAndV, qOrV, qNotV, qIfE, deref, qNext, qSeq, qSet, qSetN, qSetP, qRet, qRetN, qDrop, qIfS, qFreeze, qApp, onOwnL, qAsg, gqName, gqNil, gqCons, gqTup, qM1, qRng1, qEnum, qAny, asI, asL, itemsD, qPart, qNoPart, qCut, cutD, qCutL, cutLD, addD, subD, mulD, modD, fdivD, eqD, neD, eqS, onB, ltD, leD, gtD, geD, isND, lenD, intD, strD, ordD, listD, tupleD, ixD, PEnds.at, wipeC, qYes,
    List.map_cons, List.map_nil, List.replicate, List.cons_append, List.nil_append, List.append_assoc, List.getElem?_cons_zero, List.getElem?_cons_succ, List.set_cons_zero, List.set_cons_succ, List.length_cons, List.length_nil, Option.map_some, if_true, if_false, Bool.not_true, Bool.not_false, decide_eq_true_eq, Bool.not_eq_true', decide_eq_false_iff_not, Nat.reduceAdd, Nat.reduceSub, List.replicate_succ, List.replicate_zero, true_and, and_true, reduceCtorEq, isStr, qPutS, putS, powD, CPow, qPut, onOwn, setD, qPutP, onPtr, qDelP, delD, qPutF, setF, qProp, qMeth, qMake, isObj, fldD, minD, maxD, qChain, revD, lrevD, isiD, tyD, qOrT, qAndT, onTru, truD, qJoined, qjCons, qjNil, fmtD, fmt5D, D.int.injEq, D.str.injEq, D.lst.injEq, D.tup.injEq, D.bl.injEq, false_implies, true_implies, ne_eq, not_false_eq_true, not_true_eq_false, forall_const, implies_true, false_and, and_false, exists_eq_left, exists_eq_left', Int.reduceEq, Int.reduceLT, Int.reduceNe, Int.reduceLE, or_false, false_or, or_true, true_or, qLc, qFor, qWhile, allD, sortAD, wipeC, isiS, List.any_cons, List.any_nil, Bool.or_false, Bool.or_true, Bool.true_or, Bool.false_or, Bool.and_self, Bool.false_and, Bool.and_false, Bool.and_true, Bool.true_and, String.reduceBEq, Bool.false_eq_true, Bool.true_eq_false]
  have bH : (bodyH ys).length ≤ 2000 := by
    have h12 : ∀ s ∈ Str.ofString "houses" :: ys, s.length ≤ 12 := fun s hs => by
      rcases List.mem_cons.mp hs with rfl | hs
      · decide
      · exact nameB_len (hn s hs)
    have b2 := join_le (a := Str.ofString " ") h12
    have e1 : (tl (Str.ofString " ")).length = 1 := rfl
    rw [List.length_cons, e1] at b2
    show (TL.joinL (tl (Str.ofString " ")) ((Str.ofString "houses" :: ys).map tl)).length ≤ _
    omega
  refine ⟨rfl, ys, es, rfl, ys, rfl, hl, hn, rfl, ys, es, rfl, ?_⟩
  simp only [startC, qVar, qPeek, qC, qBin, qUn, qNil, qCons, qTup, qLst, qCall, asB, qTest, qAnd, qOr, qNot, qAndV, qOrV, qNotV, qIfE, deref, qNext, qSeq, qSet, qSetN, qSetP, qRet, qRetN, qDrop, qIfS, qFreeze, qApp, onOwnL, qAsg, gqName, gqNil, gqCons, gqTup, qM1, qRng1, qEnum, qAny, asI, asL, itemsD, qPart, qNoPart, qCut, cutD, qCutL, cutLD, addD, subD, mulD, modD, fdivD, eqD, neD, eqS, onB, ltD, leD, gtD, geD, isND, lenD, intD, strD, ordD, listD, tupleD, ixD, PEnds.at, wipeC, qYes,
    List.map_cons, List.map_nil, List.replicate, List.cons_append, List.nil_append, List.append_assoc, List.getElem?_cons_zero, List.getElem?_cons_succ, List.set_cons_zero, List.set_cons_succ, List.length_cons, List.length_nil, Option.map_some, if_true, if_false, Bool.not_true, Bool.not_false, decide_eq_true_eq, Bool.not_eq_true', decide_eq_false_iff_not, Nat.reduceAdd, Nat.reduceSub, List.replicate_succ, List.replicate_zero, true_and, and_true, reduceCtorEq, isStr, qPutS, putS, powD, CPow, qPut, onOwn, setD, qPutP, onPtr, qDelP, delD, qPutF, setF, qProp, qMeth, qMake, isObj, fldD, minD, maxD, qChain, revD, lrevD, isiD, tyD, qOrT, qAndT, onTru, truD, qJoined, qjCons, qjNil, fmtD, fmt5D, D.int.injEq, D.str.injEq, D.lst.injEq, D.tup.injEq, D.bl.injEq, false_implies, true_implies, ne_eq, not_false_eq_true, not_true_eq_false, forall_const, implies_true, false_and, and_false, exists_eq_left, exists_eq_left', Int.reduceEq, Int.reduceLT, Int.reduceNe, Int.reduceLE, or_false, false_or, or_true, true_or, qLc, qFor, qWhile, allD, sortAD, wipeC, isiS, List.any_cons, List.any_nil, Bool.or_false, Bool.or_true, Bool.true_or, Bool.false_or, Bool.and_self, Bool.false_and, Bool.and_false, Bool.and_true, Bool.true_and, String.reduceBEq, Bool.false_eq_true, Bool.true_eq_false]
  refine ⟨by rw [List.length_map, sizeLine_eq]; omega, ?_⟩
  refine forK_i (fun i ρ' h' => h' = h ∧ ∃ a b, ρ' = [.fro (jd ys es), .own (.lst ((rowsL 0 (bodyH ys :: (es.take i).map bodyD)).map fun l => .str (mkS l))), a, b]) ⟨rfl, _, _, rfl⟩ ?_ ?_
  · rintro i d ρ' h' hdd ⟨rfl, a, b, rfl⟩
    obtain ⟨x, hx, rfl⟩ := enum_get hdd
    obtain ⟨e, he', rfl⟩ := map_get hx
    have hi := get_lt he'
    simp only [startC, qVar, qPeek, qC, qBin, qUn, qNil, qCons, qTup, qLst, qCall, asB, qTest, qAnd, qOr, qNot, qAndV, qOrV, qNotV, qIfE, deref, qNext, qSeq, qSet, qSetN, qSetP, qRet, qRetN, qDrop, qIfS, qFreeze, qApp, onOwnL, qAsg, gqName, gqNil, gqCons, gqTup, qM1, qRng1, qEnum, qAny, asI, asL, itemsD, qPart, qNoPart, qCut, cutD, qCutL, cutLD, addD, subD, mulD, modD, fdivD, eqD, neD, eqS, onB, ltD, leD, gtD, geD, isND, lenD, intD, strD, ordD, listD, tupleD, ixD, PEnds.at, wipeC, qYes,
    List.map_cons, List.map_nil, List.replicate, List.cons_append, List.nil_append, List.append_assoc, List.getElem?_cons_zero, List.getElem?_cons_succ, List.set_cons_zero, List.set_cons_succ, List.length_cons, List.length_nil, Option.map_some, if_true, if_false, Bool.not_true, Bool.not_false, decide_eq_true_eq, Bool.not_eq_true', decide_eq_false_iff_not, Nat.reduceAdd, Nat.reduceSub, List.replicate_succ, List.replicate_zero, true_and, and_true, reduceCtorEq, isStr, qPutS, putS, powD, CPow, qPut, onOwn, setD, qPutP, onPtr, qDelP, delD, qPutF, setF, qProp, qMeth, qMake, isObj, fldD, minD, maxD, qChain, revD, lrevD, isiD, tyD, qOrT, qAndT, onTru, truD, qJoined, qjCons, qjNil, fmtD, fmt5D, D.int.injEq, D.str.injEq, D.lst.injEq, D.tup.injEq, D.bl.injEq, false_implies, true_implies, ne_eq, not_false_eq_true, not_true_eq_false, forall_const, implies_true, false_and, and_false, exists_eq_left, exists_eq_left', Int.reduceEq, Int.reduceLT, Int.reduceNe, Int.reduceLE, or_false, false_or, or_true, true_or, qLc, qFor, qWhile, allD, sortAD, wipeC, isiS, List.any_cons, List.any_nil, Bool.or_false, Bool.or_true, Bool.true_or, Bool.false_or, Bool.and_self, Bool.false_and, Bool.and_false, Bool.and_true, Bool.true_and, String.reduceBEq, Bool.false_eq_true, Bool.true_eq_false]
    refine ⟨i + 1, e, rfl, by omega, hd e (List.mem_of_getElem? he'), ?_, rfl, .fro (.int (i : Int)), .fro e.d, ?_⟩
    · rw [List.length_map, rowsL_len, List.length_cons, List.length_map, List.length_take, sizeLine_eq]
      omega
    · have e2 : rowsL 0 (bodyH ys :: List.map bodyD (List.take (i + 1) es)) = rowsL 0 (bodyH ys :: List.map bodyD (List.take i es)) ++ [rowL (i + 1) (bodyD e)] := by
        rw [take_snoc he', List.map_append]
        show rowsL 0 ((bodyH ys :: List.map bodyD (List.take i es)) ++ [bodyD e]) = _
        rw [rowsL_snoc, List.length_cons, List.length_map, List.length_take]
        congr 3
        omega
      rw [e2, List.map_append]
      rfl
  · rintro ρ' h' ⟨rfl, a, b, rfl⟩
    rw [enum_len, List.length_map, List.take_length]
    simp only [startC, qVar, qPeek, qC, qBin, qUn, qNil, qCons, qTup, qLst, qCall, asB, qTest, qAnd, qOr, qNot, qAndV, qOrV, qNotV, qIfE, deref, qNext, qSeq, qSet, qSetN, qSetP, qRet, qRetN, qDrop, qIfS, qFreeze, qApp, onOwnL, qAsg, gqName, gqNil, gqCons, gqTup, qM1, qRng1, qEnum, qAny, asI, asL, itemsD, qPart, qNoPart, qCut, cutD, qCutL, cutLD, addD, subD, mulD, modD, fdivD, eqD, neD, eqS, onB, ltD, leD, gtD, geD, isND, lenD, intD, strD, ordD, listD, tupleD, ixD, PEnds.at, wipeC, qYes,
    List.map_cons, List.map_nil, List.replicate, List.cons_append, List.nil_append, List.append_assoc, List.getElem?_cons_zero, List.getElem?_cons_succ, List.set_cons_zero, List.set_cons_succ, List.length_cons, List.length_nil, Option.map_some, if_true, if_false, Bool.not_true, Bool.not_false, decide_eq_true_eq, Bool.not_eq_true', decide_eq_false_iff_not, Nat.reduceAdd, Nat.reduceSub, List.replicate_succ, List.replicate_zero, true_and, and_true, reduceCtorEq, isStr, qPutS, putS, powD, CPow, qPut, onOwn, setD, qPutP, onPtr, qDelP, delD, qPutF, setF, qProp, qMeth, qMake, isObj, fldD, minD, maxD, qChain, revD, lrevD, isiD, tyD, qOrT, qAndT, onTru, truD, qJoined, qjCons, qjNil, fmtD, fmt5D, D.int.injEq, D.str.injEq, D.lst.injEq, D.tup.injEq, D.bl.injEq, false_implies, true_implies, ne_eq, not_false_eq_true, not_true_eq_false, forall_const, implies_true, false_and, and_false, exists_eq_left, exists_eq_left', Int.reduceEq, Int.reduceLT, Int.reduceNe, Int.reduceLE, or_false, false_or, or_true, true_or, qLc, qFor, qWhile, allD, sortAD, wipeC, isiS, List.any_cons, List.any_nil, Bool.or_false, Bool.or_true, Bool.true_or, Bool.false_or, Bool.and_self, Bool.false_and, Bool.and_false, Bool.and_true, Bool.true_and, String.reduceBEq, Bool.false_eq_true, Bool.true_eq_false]
    refine ⟨Str.ofString "", (rowsL 0 (bodies ys es)).map mkS, rfl, .inl (by rw [List.map_map]; rfl), ?_, ?_⟩
    · have hb : ∀ s ∈ (rowsL 0 (bodies ys es)).map mkS, s.length ≤ 2100 := fun s hs => by
        obtain ⟨r, hr, rfl⟩ := List.mem_map.mp hs
        obtain ⟨k, b, h1, h2, rfl⟩ := rowsL_mem hr
        have hk : (bodies ys es).length = es.length + 1 := by
          show (bodyH ys :: es.map bodyD).length = _
          rw [List.length_cons, List.length_map]
        have h3 := rowL_len (n := k) (b := b) (by omega)
        rw [mkS_len]
        rcases List.mem_cons.mp h1 with rfl | h1
        · omega
        · obtain ⟨e, he', rfl⟩ := List.mem_map.mp h1
          have b2 := join_le (a := Str.ofString " ") (hd e he')
          have e1 : (tl (Str.ofString " ")).length = 1 := rfl
          have hr := row_len e
          rw [e1] at b2
          have : (bodyD e).length ≤ 100 := by
            show (TL.joinL (tl (Str.ofString " ")) (e.row.map tl)).length ≤ _
            omega
          omega
      have := sum_le hb
      have hk : (bodies ys es).length = es.length + 1 := by
        show (bodyH ys :: es.map bodyD).length = _
        rw [List.length_cons, List.length_map]
      rw [List.length_map, rowsL_len] at this ⊢
      show _ + _ * 0 ≤ _
      omega
    · rw [join_empty]
      exact hQ
theorem c_write_log (G : GE K mg) : Cal P w K mg base "write_log" ["journal"] 4 sp_write_log :=
  cal_of G.f_write_log sc_write_log (fun _ _ F => F.bindsN fun _ _ _ _ _ _ us hl => match us, hl with | [_], _ => rfl) (fun _ _ _ _ ⟨_, _, e, _⟩ => by rw [e]; rfl) (w_write_log G (c_houses_row G) (c_Journal__houses G) (c_Journal__deeds G) (c_deed_row G)) v_write_log
end Pu.L70
set_option Elab.async false
set_option linter.all false
set_option maxRecDepth 100000
set_option maxHeartbeats 4000000
set_option autoImplicit false
namespace Pu.L70
open PySem PySem.Spec PyProof.Rows L2
variable {P : Program} {w : World} {K : PySem.W.Frag} {mg : Str → Option Value} {base : Heap}
def sp__law_bodies : Spec := fun ds h Q Ex => ∃ (ys : List Str) (es : List Deed), ds = [.lst (ys.map D.str), .lst (es.map Deed.d)] ∧ ys.length ≤ 32 ∧ (∀ s ∈ ys, nameB s = true) ∧ es.length ≤ 240 ∧ (∀ e ∈ es, ∀ s ∈ e.row, s.length ≤ 12) ∧
  ∀ zs : List Str, zs.Perm ys → sortedS zs = true → Q (.lst ((bodies zs es).map fun b => .str (mkS b))) h
theorem sc__law_bodies : FnScope ["_law_houses_here", "_law_deeds", "_law_bodies_here", "_law_deed"] ["_law_houses_here", "_law_deeds"] (defScope s__law_bodies) := ⟨rfl, rfl, rfl, by decide +kernel, rfl, by decide +kernel, by decide +kernel⟩
def q__law_bodies : RS := (qSeq (qSetN 2 (qLst (qCons (qM1 joinD (qC (.str (Str.ofString " "))) (qBin addD (qLst (qCons (qC (.str (Str.ofString "houses"))) qNil)) (qUn sortAD (qPeek 0)))) qNil)))
  (qSeq (qFor (qAny (qVar 1)) (gqName 3) (qApp 2 (qM1 joinD (qC (.str (Str.ofString " "))) (qUn listD (qPeek 3)))))
  (qFreeze 2 (qRet (qVar 2)))))
theorem w__law_bodies (G : GE K mg)  : WkOk P w K mg base ["_law_houses_here", "_law_deeds", "_law_bodies_here", "_law_deed"] "_law_bodies" s__law_bodies 0 q__law_bodies := fun f cdv A outer s H E hr tk => by
  have S := sc__law_bodies
  unfold q__law_bodies
  exact (qss_cons (qs_setN 2 (qn_lst (qa_cons (qe_m1 PySem.F.slot_str_join PySem.F.type_str_join mt_join ms_join (qe_str).k (qe_bin op_addAll ops_add ((qn_lst (qa_cons qe_str qa_nil))).e.k ((qn_b1 (call_sortA rfl) cn_sortA G.n_sorted (qk_var 0))).e.k).k) qa_nil)) S.nd)
    (qss_cons (qs_for (passes_of rfl) rfl (qi_any (qe_var 1)) (qg_name 3 S.nd) (qss_one (qs_app 2 (qe_m1 PySem.F.slot_str_join PySem.F.type_str_join mt_join ms_join (qe_str).k ((qn_t1 call_list_of cn_list G.n_list (qk_var 3))).e.k))))
    (qss_freeze 2 (qss_one (qs_ret (qe_var 2))))))
theorem v__law_bodies (ds : List D) (h : PHp) (Qp : D → PHp → Prop) (Ep : XP) : sp__law_bodies ds h Qp Ep → q__law_bodies (PE0 Qp Ep) (startC 4 ds) h := by
  rintro ⟨ys, es, rfl, hl, hn, he, hd, hQ⟩
  simp only [q__law_bodies, startC, qVar, qPeek, qC, qBin, qUn, qNil, qCons, qTup, qLst, qCall, asB, qTest, qAnd, qOr, qNot, qAndV, qOrV, qNotV, qIfE, deref, qNext, qSeq, qSet, qSetN, qSetP, qRet, qRetN, qDrop, qIfS, qFreeze, qApp, onOwnL, qAsg, gqName, gqNil, gqCons, gqTup, qM1, qRng1, qEnum, qAny, asI, asL, itemsD, qPart, qNoPart, qCut, cutD, qCutL, cutLD, addD, subD, mulD, modD, fdivD, eqD, neD, eqS, onB, ltD, leD, gtD, geD, isND, lenD, intD, strD, ordD, listD, tupleD, ixD, PEnds.at, wipeC, qYes,
    List.map_cons, List.map_nil, List.replicate, List.cons_append, List.nil_append, List.append_assoc, List.getElem?_cons_zero, List.getElem?_cons_succ, List.set_cons_zero, List.set_cons_succ, List.length_cons, List.length_nil, Option.map_some, if_true, if_false, Bool.not_true, Bool.not_false, decide_eq_true_eq, Bool.not_eq_true', decide_eq_false_iff_not, Nat.reduceAdd, Nat.reduceSub, List.replicate_succ, List.replicate_zero, true_and, and_true, reduceCtorEq, isStr, qPutS, putS, powD, CPow, qPut, onOwn, setD, qPutP, onPtr, qDelP, delD, qPutF, setF, qProp, qMeth, qMake, isObj, fldD, minD, maxD, qChain, revD, lrevD, isiD, tyD, qOrT, qAndT, onTru, truD, qJoined, qjCons, qjNil, fmtD, fmt5D, D.int.injEq, D.str.injEq, D.lst.injEq, D.tup.injEq, D.bl.injEq, false_implies, true_implies, ne_eq, not_false_eq_true, not_true_eq_false, forall_const, implies_true, false_and, and_false, exists_eq_left, exists_eq_left', Int.reduceEq, Int.reduceLT, Int.reduceNe, Int.reduceLE, or_false, false_or, or_true, true_or, qLc, qFor, qWhile, allD, sortAD, wipeC, isiS, List.any_cons, List.any_nil, Bool.or_false, Bool.or_true, Bool.true_or, Bool.false_or, Bool.and_self, Bool.false_and, Bool.and_false, Bool.and_true, Bool.true_and, String.reduceBEq, Bool.false_eq_true, Bool.true_eq_false]
  refine ⟨ys, .inl rfl, by omega, fun zs hz hs => ?_⟩
  have hzl := hz.length_eq
  have h12 : ∀ s ∈ Str.ofString "houses" :: zs, s.length ≤ 12 := fun s hs => by
    rcases List.mem_cons.mp hs with rfl | hs
    · decide
    · exact nameB_len (hn s (hz.mem_iff.mp hs))
  have b1 := sum_le h12
  have e1 : (tl (Str.ofString " ")).length = 1 := rfl
  rw [List.length_cons] at b1
  refine ⟨by rw [List.length_map, sizeLine_eq]; omega, Str.ofString " ", Str.ofString "houses" :: zs, rfl, .inl rfl, ?_, ?_⟩
  · rw [tl_len, e1, List.length_cons]
    omega
  · rw [join_mkS]
    refine forK_i (fun i ρ' h' => h' = h ∧ ∃ a, ρ' = [.fro (.lst (ys.map D.str)), .fro (.lst (es.map Deed.d)), .own (.lst ((bodyH zs :: (es.take i).map bodyD).map fun b => .str (mkS b))), a]) ⟨rfl, _, rfl⟩ ?_ ?_
    · rintro i d ρ' h' hdd ⟨rfl, a, rfl⟩
      obtain ⟨e, he', rfl⟩ := map_get hdd
      have hi := get_lt he'
      simp only [Deed.d, startC, qVar, qPeek, qC, qBin, qUn, qNil, qCons, qTup, qLst, qCall, asB, qTest, qAnd, qOr, qNot, qAndV, qOrV, qNotV, qIfE, deref, qNext, qSeq, qSet, qSetN, qSetP, qRet, qRetN, qDrop, qIfS, qFreeze, qApp, onOwnL, qAsg, gqName, gqNil, gqCons, gqTup, qM1, qRng1, qEnum, qAny, asI, asL, itemsD, qPart, qNoPart, qCut, cutD, qCutL, cutLD, addD, subD, mulD, modD, fdivD, eqD, neD, eqS, onB, ltD, leD, gtD, geD, isND, lenD, intD, strD, ordD, listD, tupleD, ixD, PEnds.at, wipeC, qYes,
    List.map_cons, List.map_nil, List.replicate, List.cons_append, List.nil_append, List.append_assoc, List.getElem?_cons_zero, List.getElem?_cons_succ, List.set_cons_zero, List.set_cons_succ, List.length_cons, List.length_nil, Option.map_some, if_true, if_false, Bool.not_true, Bool.not_false, decide_eq_true_eq, Bool.not_eq_true', decide_eq_false_iff_not, Nat.reduceAdd, Nat.reduceSub, List.replicate_succ, List.replicate_zero, true_and, and_true, reduceCtorEq, isStr, qPutS, putS, powD, CPow, qPut, onOwn, setD, qPutP, onPtr, qDelP, delD, qPutF, setF, qProp, qMeth, qMake, isObj, fldD, minD, maxD, qChain, revD, lrevD, isiD, tyD, qOrT, qAndT, onTru, truD, qJoined, qjCons, qjNil, fmtD, fmt5D, D.int.injEq, D.str.injEq, D.lst.injEq, D.tup.injEq, D.bl.injEq, false_implies, true_implies, ne_eq, not_false_eq_true, not_true_eq_false, forall_const, implies_true, false_and, and_false, exists_eq_left, exists_eq_left', Int.reduceEq, Int.reduceLT, Int.reduceNe, Int.reduceLE, or_false, false_or, or_true, true_or, qLc, qFor, qWhile, allD, sortAD, wipeC, isiS, List.any_cons, List.any_nil, Bool.or_false, Bool.or_true, Bool.true_or, Bool.false_or, Bool.and_self, Bool.false_and, Bool.and_false, Bool.and_true, Bool.true_and, String.reduceBEq, Bool.false_eq_true, Bool.true_eq_false]
      have b1 := sum_le (hd e (List.mem_of_getElem? he'))
      have hr := row_len e
      refine ⟨Str.ofString " ", e.row, rfl, .inl rfl, ?_, ?_, .fro (.tup (e.row.map D.str)), ?_⟩
      · rw [tl_len, e1]
        omega
      · rw [List.length_map, List.length_map, List.length_take, sizeLine_eq]
        omega
      · rw [take_snoc he', List.map_append, List.map_append, join_mkS]
        rfl
    · rintro ρ' h' ⟨rfl, a, rfl⟩
      rw [List.length_map, List.take_length]
      simp only [startC, qVar, qPeek, qC, qBin, qUn, qNil, qCons, qTup, qLst, qCall, asB, qTest, qAnd, qOr, qNot, qAndV, qOrV, qNotV, qIfE, deref, qNext, qSeq, qSet, qSetN, qSetP, qRet, qRetN, qDrop, qIfS, qFreeze, qApp, onOwnL, qAsg, gqName, gqNil, gqCons, gqTup, qM1, qRng1, qEnum, qAny, asI, asL, itemsD, qPart, qNoPart, qCut, cutD, qCutL, cutLD, addD, subD, mulD, modD, fdivD, eqD, neD, eqS, onB, ltD, leD, gtD, geD, isND, lenD, intD, strD, ordD, listD, tupleD, ixD, PEnds.at, wipeC, qYes,
    List.map_cons, List.map_nil, List.replicate, List.cons_append, List.nil_append, List.append_assoc, List.getElem?_cons_zero, List.getElem?_cons_succ, List.set_cons_zero, List.set_cons_succ, List.length_cons, List.length_nil, Option.map_some, if_true, if_false, Bool.not_true, Bool.not_false, decide_eq_true_eq, Bool.not_eq_true', decide_eq_false_iff_not, Nat.reduceAdd, Nat.reduceSub, List.replicate_succ, List.replicate_zero, true_and, and_true, reduceCtorEq, isStr, qPutS, putS, powD, CPow, qPut, onOwn, setD, qPutP, onPtr, qDelP, delD, qPutF, setF, qProp, qMeth, qMake, isObj, fldD, minD, maxD, qChain, revD, lrevD, isiD, tyD, qOrT, qAndT, onTru, truD, qJoined, qjCons, qjNil, fmtD, fmt5D, D.int.injEq, D.str.injEq, D.lst.injEq, D.tup.injEq, D.bl.injEq, false_implies, true_implies, ne_eq, not_false_eq_true, not_true_eq_false, forall_const, implies_true, false_and, and_false, exists_eq_left, exists_eq_left', Int.reduceEq, Int.reduceLT, Int.reduceNe, Int.reduceLE, or_false, false_or, or_true, true_or, qLc, qFor, qWhile, allD, sortAD, wipeC, isiS, List.any_cons, List.any_nil, Bool.or_false, Bool.or_true, Bool.true_or, Bool.false_or, Bool.and_self, Bool.false_and, Bool.and_false, Bool.and_true, Bool.true_and, String.reduceBEq, Bool.false_eq_true, Bool.true_eq_false]
      exact hQ zs hz hs
theorem c__law_bodies (G : GE K mg) : Cal P w K mg base "_law_bodies" ["_law_houses_here", "_law_deeds"] 1 sp__law_bodies :=
  cal_of G.f__law_bodies sc__law_bodies (fun _ _ F => F.bindsN fun _ _ _ _ _ _ us hl => match us, hl with | [_, _], _ => rfl) (fun _ _ _ _ ⟨_, _, e, _⟩ => by rw [e]; rfl) (w__law_bodies G ) v__law_bodies
end Pu.L70
set_option Elab.async false
set_option linter.all false
set_option maxRecDepth 100000
set_option maxHeartbeats 4000000
set_option autoImplicit false
namespace Pu.L70
open PySem PySem.Spec PyProof.Rows L2
variable {P : Program} {w : World} {K : PySem.W.Frag} {mg : Str → Option Value} {base : Heap}
def sp__law_ends : Spec := fun ds h Q Ex => ∃ (hs : List Str) (sh k : Int), ds = [.sto, .lst (hs.map D.str), .int sh, .int k] ∧ 2 ≤ hs.length ∧ hs.length ≤ 40 ∧ hs.Nodup ∧ 0 ≤ k ∧ ∀ a b : Str, a ∈ hs → b ∈ hs → tl a < tl b → Q (.tup [.str a, .str b]) h
theorem sc__law_ends : FnScope ["_law_store_here", "_law_houses_here", "_law_shape", "_law_k", "_law_many", "_law_at", "_law_to"] ["_law_store_here", "_law_houses_here", "_law_shape", "_law_k"] (defScope s__law_ends) := ⟨rfl, rfl, rfl, by decide +kernel, rfl, by decide +kernel, by decide +kernel⟩
def q__law_ends__8 : RS := (qRet (qTup (qCons (qBin minD (qBin ixD (qPeek 1) (qPeek 5)) (qBin ixD (qPeek 1) (qPeek 6))) (qCons (qBin maxD (qBin ixD (qPeek 1) (qPeek 5)) (qBin ixD (qPeek 1) (qPeek 6))) qNil))))
def q__law_ends__7 : RS := (qSeq (qIfS (qOr (qTest (qBin eqD (qPeek 5) (qPeek 6))) (qTest (qBin eqD (qPeek 2) (qC (.int 5))))) (qSet 6 (qBin modD (qUn intD (qBin addD (qPeek 5) (qC (.int 1)))) (qPeek 4))) qNext)
  q__law_ends__8)
def q__law_ends__6 : RS := (qSeq (qIfS (qTest (qBin eqD (qPeek 2) (qC (.int 5)))) (qSet 5 (qC (.int 0))) qNext)
  q__law_ends__7)
def q__law_ends__5 : RS := (qSeq (qIfS (qTest (qBin eqD (qPeek 2) (qC (.int 4)))) (qSeq (qSet 5 (qBin modD (qUn intD (qBin fdivD (qPeek 3) (qC (.int 2)))) (qPeek 4)))
  (qSet 6 (qBin modD (qUn intD (qBin addD (qBin addD (qPeek 5) (qC (.int 1))) (qBin modD (qPeek 3) (qC (.int 2))))) (qPeek 4)))) qNext)
  q__law_ends__6)
def q__law_ends__4 : RS := (qSeq (qIfS (qTest (qBin eqD (qPeek 2) (qC (.int 3)))) (qSeq (qSet 6 (qBin addD (qC (.int 1)) (qBin modD (qUn intD (qPeek 3)) (qBin subD (qPeek 4) (qC (.int 1))))))
  (qSet 5 (qCall sp__law_take (qCons (qVar 0) (qCons (qVar 6) qNil))))) qNext)
  q__law_ends__5)
def q__law_ends__3 : RS := (qSeq (qIfS (qOr (qTest (qBin eqD (qPeek 2) (qC (.int 1)))) (qAnd (qTest (qBin eqD (qPeek 2) (qC (.int 2)))) (qTest (qBin geD (qPeek 3) (qPeek 4))))) (qSeq (qSet 5 (qCall sp__law_take (qCons (qVar 0) (qCons (qVar 4) qNil))))
  (qSet 6 (qBin modD (qUn intD (qBin addD (qBin addD (qPeek 5) (qC (.int 1))) (qCall sp__law_take (qCons (qVar 0) (qCons (qBin subD (qPeek 4) (qC (.int 1))) qNil))))) (qPeek 4)))) qNext)
  q__law_ends__4)
def q__law_ends : RS := (qSeq (qSet 4 (qUn lenD (qPeek 1)))
  (qSeq (qSet 5 (qBin modD (qUn intD (qPeek 3)) (qPeek 4)))
  (qSeq (qSet 6 (qBin modD (qUn intD (qBin addD (qPeek 3) (qC (.int 1)))) (qPeek 4)))
  q__law_ends__3)))
theorem w__law_ends (G : GE K mg) (C__law_take : Cal P w K mg base "_law_take" ["_law_store_here", "_law_many"] 1 sp__law_take) : WkOk P w K mg base ["_law_store_here", "_law_houses_here", "_law_shape", "_law_k", "_law_many", "_law_at", "_law_to"] "_law_ends" s__law_ends 1 q__law_ends := fun f cdv A outer s H E hr tk => by
  have S := sc__law_ends
  unfold q__law_ends q__law_ends__3 q__law_ends__4 q__law_ends__5 q__law_ends__6 q__law_ends__7 q__law_ends__8
  exact (qss_cons (qs_set 4 (qe_b1 call_lenAll cs_len G.n_len (qk_var 1)) S.nd)
    (qss_cons (qs_set 5 (qe_bin op_modN ops_mod (qe_t1 call_intAll cs_int G.n_int (qk_var 3)).k (qk_var 4)) S.nd)
    (qss_cons (qs_set 6 (qe_bin op_modN ops_mod (qe_t1 call_intAll cs_int G.n_int (qe_bin op_addAll ops_add (qk_var 3) (qe_int).k).k).k (qk_var 4)) S.nd)
    (qss_cons (qs_if (qw_or (qt_cmp op_eq ops_eq (qk_var 2) (qe_int).k (by rfl)) (qw_or1 (qw_and (qt_cmp op_eq ops_eq (qk_var 2) (qe_int).k (by rfl)) (qw_and1 (qt_cmp op_geAll ops_ge (qk_var 3) (qk_var 4) (by rfl)))).t)).t (qss_cons (qs_set 5 (qe_callC C__law_take hr tk (qa_cons (qe_var 0) (qa_cons (qe_var 4) qa_nil))) S.nd)
    (qss_one (qs_set 6 (qe_bin op_modN ops_mod (qe_t1 call_intAll cs_int G.n_int (qe_bin op_addAll ops_add (qe_bin op_addAll ops_add (qk_var 5) (qe_int).k).k (qe_callC C__law_take hr tk (qa_cons (qe_var 0) (qa_cons (qe_bin op_sub ops_sub (qk_var 4) (qe_int).k) qa_nil))).k).k).k (qk_var 4)) S.nd))) qss_nil)
    (qss_cons (qs_if (qt_cmp op_eq ops_eq (qk_var 2) (qe_int).k (by rfl)) (qss_cons (qs_set 6 (qe_bin op_addAll ops_add (qe_int).k (qe_bin op_modN ops_mod (qe_t1 call_intAll cs_int G.n_int (qk_var 3)).k (qe_bin op_sub ops_sub (qk_var 4) (qe_int).k).k).k) S.nd)
    (qss_one (qs_set 5 (qe_callC C__law_take hr tk (qa_cons (qe_var 0) (qa_cons (qe_var 6) qa_nil))) S.nd))) qss_nil)
    (qss_cons (qs_if (qt_cmp op_eq ops_eq (qk_var 2) (qe_int).k (by rfl)) (qss_cons (qs_set 5 (qe_bin op_modN ops_mod (qe_t1 call_intAll cs_int G.n_int (qe_bin op_fdivN ops_fdiv (qk_var 3) (qe_int).k).k).k (qk_var 4)) S.nd)
    (qss_one (qs_set 6 (qe_bin op_modN ops_mod (qe_t1 call_intAll cs_int G.n_int (qe_bin op_addAll ops_add (qe_bin op_addAll ops_add (qk_var 5) (qe_int).k).k (qe_bin op_modN ops_mod (qk_var 3) (qe_int).k).k).k).k (qk_var 4)) S.nd))) qss_nil)
    (qss_cons (qs_if (qt_cmp op_eq ops_eq (qk_var 2) (qe_int).k (by rfl)) (qss_one (qs_set 5 qe_int S.nd)) qss_nil)
    (qss_cons (qs_if (qw_or (qt_cmp op_eq ops_eq (qk_var 5) (qk_var 6) (by rfl)) (qw_or1 (qt_cmp op_eq ops_eq (qk_var 2) (qe_int).k (by rfl)))).t (qss_one (qs_set 6 (qe_bin op_modN ops_mod (qe_t1 call_intAll cs_int G.n_int (qe_bin op_addAll ops_add (qk_var 5) (qe_int).k).k).k (qk_var 4)) S.nd)) qss_nil)
    (qss_one (qs_ret (qe_tup (qa_cons (qe_b2 (call_min2A rfl) cs_min2 G.n_min (qe_ix (ix_all hr.u1) ops_ix (qk_var 1) (qk_var 5)).k (qe_ix (ix_all hr.u1) ops_ix (qk_var 1) (qk_var 6)).k) (qa_cons (qe_b2 (call_max2A rfl) cs_max2 G.n_max (qe_ix (ix_all hr.u1) ops_ix (qk_var 1) (qk_var 5)).k (qe_ix (ix_all hr.u1) ops_ix (qk_var 1) (qk_var 6)).k) qa_nil)))))))))))))
section
variable {hs : List Str} {sh k : Int} {h : PHp} {Qp : D → PHp → Prop} {Ep : XP}
abbrev rE (hs : List Str) (sh k a b : Int) : List Cell := [.fro .sto, .fro (.lst (hs.map D.str)), .fro (.int sh), .fro (.int k), .fro (.int hs.length), .fro (.int a), .fro (.int b)]
theorem ends8 (hnd : hs.Nodup) (hQ : ∀ a b : Str, a ∈ hs → b ∈ hs → tl a < tl b → Qp (.tup [.str a, .str b]) h) (a b : Int) (a0 : 0 ≤ a) (a1 : a < hs.length) (b0 : 0 ≤ b) (b1 : b < hs.length) (ne : a ≠ b) : q__law_ends__8 (PE0 Qp Ep) (rE hs sh k a b) h := by
  obtain ⟨x, x1, x2, x3⟩ := atI_map (xs := hs) (f := D.str) a0 a1
  obtain ⟨y, y1, y2, y3⟩ := atI_map (xs := hs) (f := D.str) b0 b1
  have hxy : x ≠ y := fun e => by
    subst e
    have := (List.getElem?_inj (i := a.toNat) (j := b.toNat) (by omega) hnd).mp (by rw [x3, y3])
    omega
  simp only [q__law_ends__8, rE, startC, qVar, qPeek, qC, qBin, qUn, qNil, qCons, qTup, qLst, qCall, asB, qTest, qAnd, qOr, qNot, qAndV, qOrV, qNotV, qIfE, deref, qNext, qSeq, qSet, qSetN, qSetP, qRet, qRetN, qDrop, qIfS, qFreeze, qApp, onOwnL, qAsg, gqName, gqNil, gqCons, gqTup, qM1, qRng1, qEnum, qAny, asI, asL, itemsD, qPart, qNoPart, qCut, cutD, qCutL, cutLD, addD, subD, mulD, modD, fdivD, eqD, neD, eqS, onB, ltD, leD, gtD, geD, isND, lenD, intD, strD, ordD, listD, tupleD, ixD, PEnds.at, wipeC, qYes,
    List.map_cons, List.map_nil, List.replicate, List.cons_append, List.nil_append, List.append_assoc, List.getElem?_cons_zero, List.getElem?_cons_succ, List.set_cons_zero, List.set_cons_succ, List.length_cons, List.length_nil, Option.map_some, if_true, if_false, Bool.not_true, Bool.not_false, decide_eq_true_eq, Bool.not_eq_true', decide_eq_false_iff_not, Nat.reduceAdd, Nat.reduceSub, List.replicate_succ, List.replicate_zero, true_and, and_true, reduceCtorEq, isStr, qPutS, putS, powD, CPow, qPut, onOwn, setD, qPutP, onPtr, qDelP, delD, qPutF, setF, qProp, qMeth, qMake, isObj, fldD, minD, maxD, qChain, revD, lrevD, isiD, tyD, qOrT, qAndT, onTru, truD, qJoined, qjCons, qjNil, fmtD, fmt5D, D.int.injEq, D.str.injEq, D.lst.injEq, D.tup.injEq, D.bl.injEq, false_implies, true_implies, ne_eq, not_false_eq_true, not_true_eq_false, forall_const, implies_true, false_and, and_false, exists_eq_left, exists_eq_left', Int.reduceEq, Int.reduceLT, Int.reduceNe, Int.reduceLE, or_false, false_or, or_true, true_or, qLc, qFor, qWhile, allD, sortAD, wipeC, isiS, List.any_cons, List.any_nil, Bool.or_false, Bool.or_true, Bool.true_or, Bool.false_or, Bool.and_self, Bool.false_and, Bool.and_false, Bool.and_true, Bool.true_and, String.reduceBEq, Bool.false_eq_true, Bool.true_eq_false]
  refine ⟨_, x1, _, y1, ?_⟩
  simp only [startC, qVar, qPeek, qC, qBin, qUn, qNil, qCons, qTup, qLst, qCall, asB, qTest, qAnd, qOr, qNot, qAndV, qOrV, qNotV, qIfE, deref, qNext, qSeq, qSet, qSetN, qSetP, qRet, qRetN, qDrop, qIfS, qFreeze, qApp, onOwnL, qAsg, gqName, gqNil, gqCons, gqTup, qM1, qRng1, qEnum, qAny, asI, asL, itemsD, qPart, qNoPart, qCut, cutD, qCutL, cutLD, addD, subD, mulD, modD, fdivD, eqD, neD, eqS, onB, ltD, leD, gtD, geD, isND, lenD, intD, strD, ordD, listD, tupleD, ixD, PEnds.at, wipeC, qYes,
    List.map_cons, List.map_nil, List.replicate, List.cons_append, List.nil_append, List.append_assoc, List.getElem?_cons_zero, List.getElem?_cons_succ, List.set_cons_zero, List.set_cons_succ, List.length_cons, List.length_nil, Option.map_some, if_true, if_false, Bool.not_true, Bool.not_false, decide_eq_true_eq, Bool.not_eq_true', decide_eq_false_iff_not, Nat.reduceAdd, Nat.reduceSub, List.replicate_succ, List.replicate_zero, true_and, and_true, reduceCtorEq, isStr, qPutS, putS, powD, CPow, qPut, onOwn, setD, qPutP, onPtr, qDelP, delD, qPutF, setF, qProp, qMeth, qMake, isObj, fldD, minD, maxD, qChain, revD, lrevD, isiD, tyD, qOrT, qAndT, onTru, truD, qJoined, qjCons, qjNil, fmtD, fmt5D, D.int.injEq, D.str.injEq, D.lst.injEq, D.tup.injEq, D.bl.injEq, false_implies, true_implies, ne_eq, not_false_eq_true, not_true_eq_false, forall_const, implies_true, false_and, and_false, exists_eq_left, exists_eq_left', Int.reduceEq, Int.reduceLT, Int.reduceNe, Int.reduceLE, or_false, false_or, or_true, true_or, qLc, qFor, qWhile, allD, sortAD, wipeC, isiS, List.any_cons, List.any_nil, Bool.or_false, Bool.or_true, Bool.true_or, Bool.false_or, Bool.and_self, Bool.false_and, Bool.and_false, Bool.and_true, Bool.true_and, String.reduceBEq, Bool.false_eq_true, Bool.true_eq_false]
  refine ⟨_, x1, _, y1, ?_⟩
  simp only [startC, qVar, qPeek, qC, qBin, qUn, qNil, qCons, qTup, qLst, qCall, asB, qTest, qAnd, qOr, qNot, qAndV, qOrV, qNotV, qIfE, deref, qNext, qSeq, qSet, qSetN, qSetP, qRet, qRetN, qDrop, qIfS, qFreeze, qApp, onOwnL, qAsg, gqName, gqNil, gqCons, gqTup, qM1, qRng1, qEnum, qAny, asI, asL, itemsD, qPart, qNoPart, qCut, cutD, qCutL, cutLD, addD, subD, mulD, modD, fdivD, eqD, neD, eqS, onB, ltD, leD, gtD, geD, isND, lenD, intD, strD, ordD, listD, tupleD, ixD, PEnds.at, wipeC, qYes,
    List.map_cons, List.map_nil, List.replicate, List.cons_append, List.nil_append, List.append_assoc, List.getElem?_cons_zero, List.getElem?_cons_succ, List.set_cons_zero, List.set_cons_succ, List.length_cons, List.length_nil, Option.map_some, if_true, if_false, Bool.not_true, Bool.not_false, decide_eq_true_eq, Bool.not_eq_true', decide_eq_false_iff_not, Nat.reduceAdd, Nat.reduceSub, List.replicate_succ, List.replicate_zero, true_and, and_true, reduceCtorEq, isStr, qPutS, putS, powD, CPow, qPut, onOwn, setD, qPutP, onPtr, qDelP, delD, qPutF, setF, qProp, qMeth, qMake, isObj, fldD, minD, maxD, qChain, revD, lrevD, isiD, tyD, qOrT, qAndT, onTru, truD, qJoined, qjCons, qjNil, fmtD, fmt5D, D.int.injEq, D.str.injEq, D.lst.injEq, D.tup.injEq, D.bl.injEq, false_implies, true_implies, ne_eq, not_false_eq_true, not_true_eq_false, forall_const, implies_true, false_and, and_false, exists_eq_left, exists_eq_left', Int.reduceEq, Int.reduceLT, Int.reduceNe, Int.reduceLE, or_false, false_or, or_true, true_or, qLc, qFor, qWhile, allD, sortAD, wipeC, isiS, List.any_cons, List.any_nil, Bool.or_false, Bool.or_true, Bool.true_or, Bool.false_or, Bool.and_self, Bool.false_and, Bool.and_false, Bool.and_true, Bool.true_and, String.reduceBEq, Bool.false_eq_true, Bool.true_eq_false]
  by_cases c : tl y < tl x
  · rw [if_pos (show y.cps.toList < x.cps.toList from c), if_neg (show ¬ x.cps.toList < y.cps.toList from fun z => List.lt_irrefl _ (List.lt_trans c z))]
    exact hQ _ _ y2 x2 c
  · have c2 : tl x < tl y := by
      rcases List.le_iff_lt_or_eq.mp (List.not_lt.mp c) with z | z
      · exact z
      · exact absurd (tl_ext z) hxy
    rw [if_neg (show ¬ y.cps.toList < x.cps.toList from c), if_pos (show x.cps.toList < y.cps.toList from c2)]
    exact hQ _ _ x2 y2 c2
theorem ends7 (hl : 2 ≤ hs.length) (hnd : hs.Nodup) (hQ : ∀ a b : Str, a ∈ hs → b ∈ hs → tl a < tl b → Qp (.tup [.str a, .str b]) h) (a b : Int) (a0 : 0 ≤ a) (a1 : a < hs.length) (b0 : 0 ≤ b) (b1 : b < hs.length) : q__law_ends__7 (PE0 Qp Ep) (rE hs sh k a b) h := by
  have E := ends8 (sh := sh) (k := k) (h := h) (Qp := Qp) (Ep := Ep) hnd hQ a
  have bb := fmod_pos (a := a + 1) (m := (hs.length : Int)) (by omega)
  have nn : a ≠ (a + 1).fmod hs.length := by
    rw [fmod_emod (by omega)]
    by_cases c : a + 1 = hs.length
    · rw [c, Int.emod_self]; omega
    · rw [Int.emod_eq_of_lt (by omega) (by omega)]; omega
  simp only [q__law_ends__7, rE, startC, qVar, qPeek, qC, qBin, qUn, qNil, qCons, qTup, qLst, qCall, asB, qTest, qAnd, qOr, qNot, qAndV, qOrV, qNotV, qIfE, deref, qNext, qSeq, qSet, qSetN, qSetP, qRet, qRetN, qDrop, qIfS, qFreeze, qApp, onOwnL, qAsg, gqName, gqNil, gqCons, gqTup, qM1, qRng1, qEnum, qAny, asI, asL, itemsD, qPart, qNoPart, qCut, cutD, qCutL, cutLD, addD, subD, mulD, modD, fdivD, eqD, neD, eqS, onB, ltD, leD, gtD, geD, isND, lenD, intD, strD, ordD, listD, tupleD, ixD, PEnds.at, wipeC, qYes,
    List.map_cons, List.map_nil, List.replicate, List.cons_append, List.nil_append, List.append_assoc, List.getElem?_cons_zero, List.getElem?_cons_succ, List.set_cons_zero, List.set_cons_succ, List.length_cons, List.length_nil, Option.map_some, if_true, if_false, Bool.not_true, Bool.not_false, decide_eq_true_eq, Bool.not_eq_true', decide_eq_false_iff_not, Nat.reduceAdd, Nat.reduceSub, List.replicate_succ, List.replicate_zero, true_and, and_true, reduceCtorEq, isStr, qPutS, putS, powD, CPow, qPut, onOwn, setD, qPutP, onPtr, qDelP, delD, qPutF, setF, qProp, qMeth, qMake, isObj, fldD, minD, maxD, qChain, revD, lrevD, isiD, tyD, qOrT, qAndT, onTru, truD, qJoined, qjCons, qjNil, fmtD, fmt5D, D.int.injEq, D.str.injEq, D.lst.injEq, D.tup.injEq, D.bl.injEq, false_implies, true_implies, ne_eq, not_false_eq_true, not_true_eq_false, forall_const, implies_true, false_and, and_false, exists_eq_left, exists_eq_left', Int.reduceEq, Int.reduceLT, Int.reduceNe, Int.reduceLE, or_false, false_or, or_true, true_or, qLc, qFor, qWhile, allD, sortAD, wipeC, isiS, List.any_cons, List.any_nil, Bool.or_false, Bool.or_true, Bool.true_or, Bool.false_or, Bool.and_self, Bool.false_and, Bool.and_false, Bool.and_true, Bool.true_and, String.reduceBEq, Bool.false_eq_true, Bool.true_eq_false]
  split
  · exact ⟨by omega, E _ a0 a1 bb.1 bb.2 nn⟩
  · split
    · exact ⟨by omega, E _ a0 a1 bb.1 bb.2 nn⟩
    · exact E _ a0 a1 b0 b1 (by assumption)
theorem ends6 (hl : 2 ≤ hs.length) (hnd : hs.Nodup) (hQ : ∀ a b : Str, a ∈ hs → b ∈ hs → tl a < tl b → Qp (.tup [.str a, .str b]) h) (a b : Int) (a0 : 0 ≤ a) (a1 : a < hs.length) (b0 : 0 ≤ b) (b1 : b < hs.length) : q__law_ends__6 (PE0 Qp Ep) (rE hs sh k a b) h := by
  have E := ends7 (sh := sh) (k := k) (h := h) (Qp := Qp) (Ep := Ep) hl hnd hQ
  simp only [q__law_ends__6, rE, startC, qVar, qPeek, qC, qBin, qUn, qNil, qCons, qTup, qLst, qCall, asB, qTest, qAnd, qOr, qNot, qAndV, qOrV, qNotV, qIfE, deref, qNext, qSeq, qSet, qSetN, qSetP, qRet, qRetN, qDrop, qIfS, qFreeze, qApp, onOwnL, qAsg, gqName, gqNil, gqCons, gqTup, qM1, qRng1, qEnum, qAny, asI, asL, itemsD, qPart, qNoPart, qCut, cutD, qCutL, cutLD, addD, subD, mulD, modD, fdivD, eqD, neD, eqS, onB, ltD, leD, gtD, geD, isND, lenD, intD, strD, ordD, listD, tupleD, ixD, PEnds.at, wipeC, qYes,
    List.map_cons, List.map_nil, List.replicate, List.cons_append, List.nil_append, List.append_assoc, List.getElem?_cons_zero, List.getElem?_cons_succ, List.set_cons_zero, List.set_cons_succ, List.length_cons, List.length_nil, Option.map_some, if_true, if_false, Bool.not_true, Bool.not_false, decide_eq_true_eq, Bool.not_eq_true', decide_eq_false_iff_not, Nat.reduceAdd, Nat.reduceSub, List.replicate_succ, List.replicate_zero, true_and, and_true, reduceCtorEq, isStr, qPutS, putS, powD, CPow, qPut, onOwn, setD, qPutP, onPtr, qDelP, delD, qPutF, setF, qProp, qMeth, qMake, isObj, fldD, minD, maxD, qChain, revD, lrevD, isiD, tyD, qOrT, qAndT, onTru, truD, qJoined, qjCons, qjNil, fmtD, fmt5D, D.int.injEq, D.str.injEq, D.lst.injEq, D.tup.injEq, D.bl.injEq, false_implies, true_implies, ne_eq, not_false_eq_true, not_true_eq_false, forall_const, implies_true, false_and, and_false, exists_eq_left, exists_eq_left', Int.reduceEq, Int.reduceLT, Int.reduceNe, Int.reduceLE, or_false, false_or, or_true, true_or, qLc, qFor, qWhile, allD, sortAD, wipeC, isiS, List.any_cons, List.any_nil, Bool.or_false, Bool.or_true, Bool.true_or, Bool.false_or, Bool.and_self, Bool.false_and, Bool.and_false, Bool.and_true, Bool.true_and, String.reduceBEq, Bool.false_eq_true, Bool.true_eq_false]
  split
  · exact E _ _ (by omega) (by omega) b0 b1
  · exact E _ _ a0 a1 b0 b1
theorem ends5 (hl : 2 ≤ hs.length) (hnd : hs.Nodup) (hQ : ∀ a b : Str, a ∈ hs → b ∈ hs → tl a < tl b → Qp (.tup [.str a, .str b]) h) (a b : Int) (a0 : 0 ≤ a) (a1 : a < hs.length) (b0 : 0 ≤ b) (b1 : b < hs.length) : q__law_ends__5 (PE0 Qp Ep) (rE hs sh k a b) h := by
  have E := ends6 (sh := sh) (k := k) (h := h) (Qp := Qp) (Ep := Ep) hl hnd hQ
  have m := fun x : Int => fmod_pos (a := x) (m := (hs.length : Int)) (by omega)
  simp only [q__law_ends__5, rE, startC, qVar, qPeek, qC, qBin, qUn, qNil, qCons, qTup, qLst, qCall, asB, qTest, qAnd, qOr, qNot, qAndV, qOrV, qNotV, qIfE, deref, qNext, qSeq, qSet, qSetN, qSetP, qRet, qRetN, qDrop, qIfS, qFreeze, qApp, onOwnL, qAsg, gqName, gqNil, gqCons, gqTup, qM1, qRng1, qEnum, qAny, asI, asL, itemsD, qPart, qNoPart, qCut, cutD, qCutL, cutLD, addD, subD, mulD, modD, fdivD, eqD, neD, eqS, onB, ltD, leD, gtD, geD, isND, lenD, intD, strD, ordD, listD, tupleD, ixD, PEnds.at, wipeC, qYes,
    List.map_cons, List.map_nil, List.replicate, List.cons_append, List.nil_append, List.append_assoc, List.getElem?_cons_zero, List.getElem?_cons_succ, List.set_cons_zero, List.set_cons_succ, List.length_cons, List.length_nil, Option.map_some, if_true, if_false, Bool.not_true, Bool.not_false, decide_eq_true_eq, Bool.not_eq_true', decide_eq_false_iff_not, Nat.reduceAdd, Nat.reduceSub, List.replicate_succ, List.replicate_zero, true_and, and_true, reduceCtorEq, isStr, qPutS, putS, powD, CPow, qPut, onOwn, setD, qPutP, onPtr, qDelP, delD, qPutF, setF, qProp, qMeth, qMake, isObj, fldD, minD, maxD, qChain, revD, lrevD, isiD, tyD, qOrT, qAndT, onTru, truD, qJoined, qjCons, qjNil, fmtD, fmt5D, D.int.injEq, D.str.injEq, D.lst.injEq, D.tup.injEq, D.bl.injEq, false_implies, true_implies, ne_eq, not_false_eq_true, not_true_eq_false, forall_const, implies_true, false_and, and_false, exists_eq_left, exists_eq_left', Int.reduceEq, Int.reduceLT, Int.reduceNe, Int.reduceLE, or_false, false_or, or_true, true_or, qLc, qFor, qWhile, allD, sortAD, wipeC, isiS, List.any_cons, List.any_nil, Bool.or_false, Bool.or_true, Bool.true_or, Bool.false_or, Bool.and_self, Bool.false_and, Bool.and_false, Bool.and_true, Bool.true_and, String.reduceBEq, Bool.false_eq_true, Bool.true_eq_false]
  split
  · exact ⟨⟨by decide, by decide⟩, by omega, by omega, E _ _ (m _).1 (m _).2 (m _).1 (m _).2⟩
  · exact E _ _ a0 a1 b0 b1
theorem ends4 (hl : 2 ≤ hs.length) (hl2 : hs.length ≤ 40) (hnd : hs.Nodup) (hQ : ∀ a b : Str, a ∈ hs → b ∈ hs → tl a < tl b → Qp (.tup [.str a, .str b]) h) (a b : Int) (a0 : 0 ≤ a) (a1 : a < hs.length) (b0 : 0 ≤ b) (b1 : b < hs.length) : q__law_ends__4 (PE0 Qp Ep) (rE hs sh k a b) h := by
  have E := ends5 (sh := sh) (k := k) (h := h) (Qp := Qp) (Ep := Ep) hl hnd hQ
  have m := fmod_pos (a := k) (m := (hs.length : Int) - 1) (by omega)
  simp only [q__law_ends__4, rE, startC, qVar, qPeek, qC, qBin, qUn, qNil, qCons, qTup, qLst, qCall, asB, qTest, qAnd, qOr, qNot, qAndV, qOrV, qNotV, qIfE, deref, qNext, qSeq, qSet, qSetN, qSetP, qRet, qRetN, qDrop, qIfS, qFreeze, qApp, onOwnL, qAsg, gqName, gqNil, gqCons, gqTup, qM1, qRng1, qEnum, qAny, asI, asL, itemsD, qPart, qNoPart, qCut, cutD, qCutL, cutLD, addD, subD, mulD, modD, fdivD, eqD, neD, eqS, onB, ltD, leD, gtD, geD, isND, lenD, intD, strD, ordD, listD, tupleD, ixD, PEnds.at, wipeC, qYes,
    List.map_cons, List.map_nil, List.replicate, List.cons_append, List.nil_append, List.append_assoc, List.getElem?_cons_zero, List.getElem?_cons_succ, List.set_cons_zero, List.set_cons_succ, List.length_cons, List.length_nil, Option.map_some, if_true, if_false, Bool.not_true, Bool.not_false, decide_eq_true_eq, Bool.not_eq_true', decide_eq_false_iff_not, Nat.reduceAdd, Nat.reduceSub, List.replicate_succ, List.replicate_zero, true_and, and_true, reduceCtorEq, isStr, qPutS, putS, powD, CPow, qPut, onOwn, setD, qPutP, onPtr, qDelP, delD, qPutF, setF, qProp, qMeth, qMake, isObj, fldD, minD, maxD, qChain, revD, lrevD, isiD, tyD, qOrT, qAndT, onTru, truD, qJoined, qjCons, qjNil, fmtD, fmt5D, D.int.injEq, D.str.injEq, D.lst.injEq, D.tup.injEq, D.bl.injEq, false_implies, true_implies, ne_eq, not_false_eq_true, not_true_eq_false, forall_const, implies_true, false_and, and_false, exists_eq_left, exists_eq_left', Int.reduceEq, Int.reduceLT, Int.reduceNe, Int.reduceLE, or_false, false_or, or_true, true_or, qLc, qFor, qWhile, allD, sortAD, wipeC, isiS, List.any_cons, List.any_nil, Bool.or_false, Bool.or_true, Bool.true_or, Bool.false_or, Bool.and_self, Bool.false_and, Bool.and_false, Bool.and_true, Bool.true_and, String.reduceBEq, Bool.false_eq_true, Bool.true_eq_false]
  split
  · refine ⟨by omega, _, rfl, by omega, fun r r0 r1 => ?_⟩
    exact E _ _ r0 (by omega) (by omega) (by omega)
  · exact E _ _ a0 a1 b0 b1
theorem ends3 (hl : 2 ≤ hs.length) (hl2 : hs.length ≤ 40) (hnd : hs.Nodup) (hQ : ∀ a b : Str, a ∈ hs → b ∈ hs → tl a < tl b → Qp (.tup [.str a, .str b]) h) (a b : Int) (a0 : 0 ≤ a) (a1 : a < hs.length) (b0 : 0 ≤ b) (b1 : b < hs.length) : q__law_ends__3 (PE0 Qp Ep) (rE hs sh k a b) h := by
  have E := ends4 (sh := sh) (k := k) (h := h) (Qp := Qp) (Ep := Ep) hl hl2 hnd hQ
  have m := fun x : Int => fmod_pos (a := x) (m := (hs.length : Int)) (by omega)
  simp only [q__law_ends__3, rE, startC, qVar, qPeek, qC, qBin, qUn, qNil, qCons, qTup, qLst, qCall, asB, qTest, qAnd, qOr, qNot, qAndV, qOrV, qNotV, qIfE, deref, qNext, qSeq, qSet, qSetN, qSetP, qRet, qRetN, qDrop, qIfS, qFreeze, qApp, onOwnL, qAsg, gqName, gqNil, gqCons, gqTup, qM1, qRng1, qEnum, qAny, asI, asL, itemsD, qPart, qNoPart, qCut, cutD, qCutL, cutLD, addD, subD, mulD, modD, fdivD, eqD, neD, eqS, onB, ltD, leD, gtD, geD, isND, lenD, intD, strD, ordD, listD, tupleD, ixD, PEnds.at, wipeC, qYes,
    List.map_cons, List.map_nil, List.replicate, List.cons_append, List.nil_append, List.append_assoc, List.getElem?_cons_zero, List.getElem?_cons_succ, List.set_cons_zero, List.set_cons_succ, List.length_cons, List.length_nil, Option.map_some, if_true, if_false, Bool.not_true, Bool.not_false, decide_eq_true_eq, Bool.not_eq_true', decide_eq_false_iff_not, Nat.reduceAdd, Nat.reduceSub, List.replicate_succ, List.replicate_zero, true_and, and_true, reduceCtorEq, isStr, qPutS, putS, powD, CPow, qPut, onOwn, setD, qPutP, onPtr, qDelP, delD, qPutF, setF, qProp, qMeth, qMake, isObj, fldD, minD, maxD, qChain, revD, lrevD, isiD, tyD, qOrT, qAndT, onTru, truD, qJoined, qjCons, qjNil, fmtD, fmt5D, D.int.injEq, D.str.injEq, D.lst.injEq, D.tup.injEq, D.bl.injEq, false_implies, true_implies, ne_eq, not_false_eq_true, not_true_eq_false, forall_const, implies_true, false_and, and_false, exists_eq_left, exists_eq_left', Int.reduceEq, Int.reduceLT, Int.reduceNe, Int.reduceLE, or_false, false_or, or_true, true_or, qLc, qFor, qWhile, allD, sortAD, wipeC, isiS, List.any_cons, List.any_nil, Bool.or_false, Bool.or_true, Bool.true_or, Bool.false_or, Bool.and_self, Bool.false_and, Bool.and_false, Bool.and_true, Bool.true_and, String.reduceBEq, Bool.false_eq_true, Bool.true_eq_false]
  split
  · refine ⟨_, rfl, by omega, fun r r0 r1 => ?_⟩
    refine ⟨_, rfl, by omega, fun z z0 z1 => ?_⟩
    exact ⟨by omega, E _ _ r0 (by omega) (m _).1 (m _).2⟩
  · split
    · split
      · refine ⟨_, rfl, by omega, fun r r0 r1 => ?_⟩
        refine ⟨_, rfl, by omega, fun z z0 z1 => ?_⟩
        exact ⟨by omega, E _ _ r0 (by omega) (m _).1 (m _).2⟩
      · exact E _ _ a0 a1 b0 b1
    · exact E _ _ a0 a1 b0 b1
end
theorem v__law_ends (ds : List D) (h : PHp) (Qp : D → PHp → Prop) (Ep : XP) : sp__law_ends ds h Qp Ep → q__law_ends (PE0 Qp Ep) (startC 7 ds) h := by
  rintro ⟨hs, sh, k, rfl, hl, hl2, hnd, hk, hQ⟩
  have m := fun x : Int => fmod_pos (a := x) (m := (hs.length : Int)) (by omega)
  have E := ends3 (sh := sh) (k := k) (h := h) (Qp := Qp) (Ep := Ep) hl hl2 hnd hQ
  simp only [q__law_ends, startC, qVar, qPeek, qC, qBin, qUn, qNil, qCons, qTup, qLst, qCall, asB, qTest, qAnd, qOr, qNot, qAndV, qOrV, qNotV, qIfE, deref, qNext, qSeq, qSet, qSetN, qSetP, qRet, qRetN, qDrop, qIfS, qFreeze, qApp, onOwnL, qAsg, gqName, gqNil, gqCons, gqTup, qM1, qRng1, qEnum, qAny, asI, asL, itemsD, qPart, qNoPart, qCut, cutD, qCutL, cutLD, addD, subD, mulD, modD, fdivD, eqD, neD, eqS, onB, ltD, leD, gtD, geD, isND, lenD, intD, strD, ordD, listD, tupleD, ixD, PEnds.at, wipeC, qYes,
    List.map_cons, List.map_nil, List.replicate, List.cons_append, List.nil_append, List.append_assoc, List.getElem?_cons_zero, List.getElem?_cons_succ, List.set_cons_zero, List.set_cons_succ, List.length_cons, List.length_nil, Option.map_some, if_true, if_false, Bool.not_true, Bool.not_false, decide_eq_true_eq, Bool.not_eq_true', decide_eq_false_iff_not, Nat.reduceAdd, Nat.reduceSub, List.replicate_succ, List.replicate_zero, true_and, and_true, reduceCtorEq, isStr, qPutS, putS, powD, CPow, qPut, onOwn, setD, qPutP, onPtr, qDelP, delD, qPutF, setF, qProp, qMeth, qMake, isObj, fldD, minD, maxD, qChain, revD, lrevD, isiD, tyD, qOrT, qAndT, onTru, truD, qJoined, qjCons, qjNil, fmtD, fmt5D, D.int.injEq, D.str.injEq, D.lst.injEq, D.tup.injEq, D.bl.injEq, false_implies, true_implies, ne_eq, not_false_eq_true, not_true_eq_false, forall_const, implies_true, false_and, and_false, exists_eq_left, exists_eq_left', Int.reduceEq, Int.reduceLT, Int.reduceNe, Int.reduceLE, or_false, false_or, or_true, true_or, qLc, qFor, qWhile, allD, sortAD, wipeC, isiS, List.any_cons, List.any_nil, Bool.or_false, Bool.or_true, Bool.true_or, Bool.false_or, Bool.and_self, Bool.false_and, Bool.and_false, Bool.and_true, Bool.true_and, String.reduceBEq, Bool.false_eq_true, Bool.true_eq_false]
  simp only [List.length_map]
  exact ⟨by omega, by omega, E _ _ (m _).1 (m _).2 (m _).1 (m _).2⟩
theorem c__law_ends (G : GE K mg) : Cal P w K mg base "_law_ends" ["_law_store_here", "_law_houses_here", "_law_shape", "_law_k"] 2 sp__law_ends :=
  cal_of G.f__law_ends sc__law_ends (fun _ _ F => F.bindsN fun _ _ _ _ _ _ us hl => match us, hl with | [_, _, _, _], _ => rfl) (fun _ _ _ _ ⟨_, _, _, e, _⟩ => by rw [e]; rfl) (w__law_ends G (c__law_take G)) v__law_ends
end Pu.L70
set_option Elab.async false
set_option linter.all false
set_option maxRecDepth 100000
set_option maxHeartbeats 4000000
set_option autoImplicit false
namespace Pu.L70
open PySem PySem.Spec PyProof.Rows L2
theorem nodup_sub_len : ∀ {l m : List Str}, l.Nodup → (∀ x ∈ l, x ∈ m) → l.length ≤ m.length
  | [], m, _, _ => Nat.zero_le _
  | x :: r, m, h, hs => by
    have hx := hs x (List.mem_cons_self ..)
    have h2 := List.nodup_cons.mp h
    have ih := nodup_sub_len (m := m.erase x) h2.2 fun y hy => by
      have hne : y ≠ x := fun e => h2.1 (e ▸ hy)
      exact (List.mem_erase_of_ne hne).mpr (hs y (List.mem_cons_of_mem _ hy))
    rw [List.length_erase_of_mem hx] at ih
    have : 0 < m.length := List.length_pos_of_mem hx
    rw [List.length_cons]
    omega
end Pu.L70
set_option Elab.async false
set_option linter.all false
set_option maxRecDepth 100000
set_option maxHeartbeats 4000000
set_option autoImplicit false
namespace Pu.L70
open PySem PySem.Spec PyProof.Rows L2
variable {P : Program} {w : World} {K : PySem.W.Frag} {mg : Str → Option Value} {base : Heap}
def sp__law_doings : Spec := fun ds h Q Ex => ∃ (hs : List Str) (m : Int), ds = [.sto, .lst (hs.map D.str), .int m, .int 12] ∧ hs.length ≤ 40 ∧ hs.Nodup ∧ (∀ s ∈ hs, nameB s = true) ∧ 0 ≤ m ∧ m ≤ 240 ∧ ∀ es : List Deed, es.length ≤ m.toNat → okSeq hs [] es → Q (.lst (es.map Deed.d)) h
theorem sc__law_doings : FnScope ["_law_store_here", "_law_houses_here", "_law_many", "_law_cap", "_law_names_here", "_law_shape", "_law_busy", "_law_lines", "_law_deeds", "_law_k", "_law_used", "_law_free", "_law_name", "_law_line"] ["_law_store_here", "_law_houses_here", "_law_many", "_law_cap"] (defScope s__law_doings) := ⟨rfl, rfl, rfl, by decide +kernel, rfl, by decide +kernel, by decide +kernel⟩
def q__law_doings__6 : RS := (qSeq (qFor (qRng1 (qBin mulD (qPeek 2) (qUn intD (qBin gtD (qUn lenD (qPeek 1)) (qC (.int 1)))))) (gqName 9) (qSeq (qSetN 10 (qLc (qAny (qVar 7)) (gqName 13) qYes (qBin ixD (qPeek 13) (qC (.int 0))) [13]))
  (qSeq (qSetN 11 (qLc (qAny (qVar 4)) (gqName 12) (qTest (qBin (inOp true) (qPeek 12) (qPeek 10))) (qVar 12) [12]))
  (qIfS (qAnd (qTest (qBin gtD (qUn lenD (qPeek 11)) (qC (.int 0)))) (qOr (qTest (qBin eqD (qUn lenD (qPeek 7)) (qC (.int 0)))) (qTest (qBin ltD (qCall sp__law_take (qCons (qVar 0) (qCons (qC (.int 6)) qNil))) (qBin subD (qC (.int 5)) (qBin mulD (qPeek 6) (qUn intD (qBin gtD (qBin mulD (qC (.int 2)) (qPeek 9)) (qPeek 2))))))))) (qFreeze 11 (qSeq (qApp 8 (qBin addD (qTup (qCons (qC (.str (Str.ofString "put"))) (qCons (qCall sp__law_pick (qCons (qVar 0) (qCons (qVar 11) qNil))) qNil))) (qCall sp__law_ends (qCons (qVar 0) (qCons (qVar 1) (qCons (qVar 5) (qCons (qVar 9) qNil)))))))
  (qSet 7 (qBin addD (qPeek 7) (qLst (qCons (qCut (qBin ixD (qPeek 8) (qC (.int (-1)))) (qPart (qC (.int 1))) qNoPart) qNil)))))) (qFreeze 10 (qSeq (qApp 8 (qTup (qCons (qC (.str (Str.ofString "take"))) (qCons (qCall sp__law_pick (qCons (qVar 0) (qCons (qVar 10) qNil))) qNil))))
  (qSet 7 (qCall sp__law_without (qCons (qVar 7) (qCons (qBin ixD (qBin ixD (qPeek 8) (qC (.int (-1)))) (qC (.int 1))) qNil))))))))))
  (qFreeze 8 (qRet (qVar 8))))
def q__law_doings : RS := (qSeq (qSet 4 (qCall sp__law_names (qCons (qVar 0) (qCons (qBin minD (qPeek 3) (qBin addD (qC (.int 1)) (qCall sp__law_take (qCons (qVar 0) (qCons (qBin addD (qC (.int 2)) (qPeek 2)) qNil))))) qNil))))
  (qSeq (qSet 4 (qBin addD (qPeek 4) (qLc (qAny (qCut (qPeek 1) qNoPart (qPart (qCall sp__law_take (qCons (qVar 0) (qCons (qC (.int 3)) qNil)))))) (gqName 12) (qTest (qBin (inOp true) (qPeek 12) (qPeek 4))) (qVar 12) [12])))
  (qSeq (qSet 5 (qCall sp__law_take (qCons (qVar 0) (qCons (qC (.int 6)) qNil))))
  (qSeq (qSet 6 (qCall sp__law_take (qCons (qVar 0) (qCons (qC (.int 4)) qNil))))
  (qSeq (qSet 7 (qLst qNil))
  (qSeq (qSetN 8 (qLst qNil))
  q__law_doings__6))))))
theorem w__law_doings (G : GE K mg) (C__law_take : Cal P w K mg base "_law_take" ["_law_store_here", "_law_many"] 1 sp__law_take) (C__law_pick : Cal P w K mg base "_law_pick" ["_law_store_here", "_law_items"] 2 sp__law_pick) (C__law_ends : Cal P w K mg base "_law_ends" ["_law_store_here", "_law_houses_here", "_law_shape", "_law_k"] 2 sp__law_ends) (C__law_without : Cal P w K mg base "_law_without" ["_law_lines", "_law_name"] 1 sp__law_without) (C__law_names : Cal P w K mg base "_law_names" ["_law_store_here", "_law_many"] 3 sp__law_names) : WkOk P w K mg base ["_law_store_here", "_law_houses_here", "_law_many", "_law_cap", "_law_names_here", "_law_shape", "_law_busy", "_law_lines", "_law_deeds", "_law_k", "_law_used", "_law_free", "_law_name", "_law_line"] "_law_doings" s__law_doings 3 q__law_doings := fun f cdv A outer s H E hr tk => by
  have S := sc__law_doings
  unfold q__law_doings q__law_doings__6
  exact (qss_cons (qs_set 4 (qe_callC C__law_names hr tk (qa_cons (qe_var 0) (qa_cons (qe_b2 (call_min2A rfl) cs_min2 G.n_min (qk_var 3) (qe_bin op_addAll ops_add (qe_int).k (qe_callC C__law_take hr tk (qa_cons (qe_var 0) (qa_cons (qe_bin op_addAll ops_add (qe_int).k (qk_var 2)) qa_nil))).k).k) qa_nil))) S.nd)
    (qss_cons (qs_set 4 (qe_bin op_addAll ops_add (qk_var 4) ((qn_lc rfl S.nd (qi_any (qe_cut (qk_var 1) qo_none (qo_some (qe_callC C__law_take hr tk (qa_cons (qe_var 0) (qa_cons qe_int qa_nil)))))) (L2.blkOk_by (own := [("_law_name", 12)]) (by rfl)) (fun _ _ _ _ _ => (qg_name 12 S.nd)) (fun _ _ _ _ _ => (qts_one (qt_cmp (op_notInAll hr.u1) ops_in (qk_var 12) (qk_var 4) (by rfl)))) (fun _ _ _ _ _ => (qe_var 12)))).e.k) S.nd)
    (qss_cons (qs_set 5 (qe_callC C__law_take hr tk (qa_cons (qe_var 0) (qa_cons qe_int qa_nil))) S.nd)
    (qss_cons (qs_set 6 (qe_callC C__law_take hr tk (qa_cons (qe_var 0) (qa_cons qe_int qa_nil))) S.nd)
    (qss_cons (qs_set 7 ((qn_lst qa_nil)).e S.nd)
    (qss_cons (qs_setN 8 (qn_lst qa_nil) S.nd)
    (qss_cons (qs_for (passes_of rfl) rfl (qi_rng1 (qe_bin op_mulAll ops_mul (qk_var 2) (qe_t1 call_intAll cs_int G.n_int (qe_cmp op_gtAll ops_gt (qe_b1 call_lenAll cs_len G.n_len (qk_var 1)).k (qe_int).k (by rfl)).k).k) G.n_range) (qg_name 9 S.nd) (qss_cons (qs_setN 10 (qn_lc rfl S.nd (qi_any (qe_var 7)) (L2.blkOk_by (own := [("_law_line", 13)]) (by rfl)) (fun _ _ _ _ _ => (qg_name 13 S.nd)) (fun _ _ _ _ _ => qts_nil) (fun _ _ _ _ _ => (qe_ix (ix_all hr.u1) ops_ix (qk_var 13) (qe_int).k))) S.nd)
    (qss_cons (qs_setLc 11 rfl S.nd (qi_any (qe_var 4)) (L2.blkOk_by (own := [("_law_name", 12)]) (by rfl)) (fun _ _ _ _ _ => (qg_name 12 S.nd)) (fun _ _ _ _ _ => (qts_one (qt_cmp (op_notInAll hr.u1) ops_in (qk_var 12) (qk_var 10) (by rfl)))) (fun _ _ _ _ _ => (qe_var 12)) (by rfl))
    (qss_one (qs_if (qw_and (qt_cmp op_gtAll ops_gt (qe_b1 call_lenAll cs_len G.n_len (qk_var 11)).k (qe_int).k (by rfl)) (qw_and1 (qw_or (qt_cmp op_eq ops_eq (qe_b1 call_lenAll cs_len G.n_len (qk_var 7)).k (qe_int).k (by rfl)) (qw_or1 (qt_cmp op_ltAll ops_lt (qe_callC C__law_take hr tk (qa_cons (qe_var 0) (qa_cons qe_int qa_nil))).k (qe_bin op_sub ops_sub (qe_int).k (qe_bin op_mulAll ops_mul (qk_var 6) (qe_t1 call_intAll cs_int G.n_int (qe_cmp op_gtAll ops_gt (qe_bin op_mulAll ops_mul (qe_int).k (qk_var 9)).k (qk_var 2) (by rfl)).k).k).k).k (by rfl)))).t)).t (qss_freeze 11 (qss_cons (qs_app 8 (qe_bin op_addAll ops_add (qe_tup (qa_cons qe_str (qa_cons (qe_callC C__law_pick hr tk (qa_cons (qe_var 0) (qa_cons (qe_var 11) qa_nil))) qa_nil))).k (qe_callC C__law_ends hr tk (qa_cons (qe_var 0) (qa_cons (qe_var 1) (qa_cons (qe_var 5) (qa_cons (qe_var 9) qa_nil))))).k))
    (qss_one (qs_set 7 (qe_bin op_addAll ops_add (qk_var 7) ((qn_lst (qa_cons (qe_cut (qe_ix (ix_all hr.u1) ops_ix (qk_var 8) (qe_neg).k).k (qo_some qe_int) qo_none) qa_nil))).e.k) S.nd)))) (qss_freeze 10 (qss_cons (qs_app 8 (qe_tup (qa_cons qe_str (qa_cons (qe_callC C__law_pick hr tk (qa_cons (qe_var 0) (qa_cons (qe_var 10) qa_nil))) qa_nil))))
    (qss_one (qs_set 7 (qe_callC C__law_without hr tk (qa_cons (qe_var 7) (qa_cons (qe_ix (ix_all hr.u1) ops_ix (qe_ix (ix_all hr.u1) ops_ix (qk_var 8) (qe_neg).k).k (qe_int).k) qa_nil))) S.nd)))))))))
    (qss_freeze 8 (qss_one (qs_ret (qe_var 8)))))))))))
theorem ite_both {c : Prop} [Decidable c] {P Q : Prop} (h1 : P) (h2 : Q) : if c then P else Q := by
  split
  · exact h1
  · exact h2
theorem okSeq_snoc {hs : List Str} {e : Deed} : ∀ {es : List Deed} {ks : List Str}, okSeq hs ks es → okD hs (runK ks es) e → okSeq hs ks (es ++ [e])
  | [], _, _, h => ⟨h, trivial⟩
  | f :: r, ks, h, h2 => ⟨h.1, okSeq_snoc (ks := stepK ks f) h.2 h2⟩
theorem lc_ix0 {j : Nat} {ρ : List Cell} (hj : j < ρ.length) {ls : List (List Str)} (hne : ∀ l ∈ ls, l ≠ []) (hl : ls.length ≤ sizeLine) {Q : D → PHp → Prop} {h : PHp} (hQ : Q (.lst ((ls.map (·.headD Str.empty)).map D.str)) h) :
    lcK (gqName j) qYes (qBin ixD (qPeek j) (qC (.int 0))) [j] ρ Q (ls.map fun l => .tup (l.map D.str)) h := by
  refine lcK_i (fun i acc h' => h' = h ∧ acc = ((ls.take i).map (·.headD Str.empty)).map D.str) ⟨rfl, rfl⟩ ?_ ?_
  · rintro i d acc h' hd ⟨rfl, rfl⟩
    obtain ⟨l, h1, rfl⟩ := map_get hd
    have hi := get_lt h1
    have hn := hne l (List.mem_of_getElem? h1)
    cases l with
    | nil => exact absurd rfl hn
    | cons s r =>
      have e : ((wipeC ρ [j]).set j (Cell.fro (.tup ((s :: r).map D.str))))[j]? = some (.fro (.tup ((s :: r).map D.str))) := by
        rw [List.getElem?_set_self]
        unfold wipeC wipeC
        rw [List.length_set]
        exact hj
      unfold gqName qYes
      dsimp only
      rw [if_pos rfl]
      unfold qBin qPeek
      dsimp only
      rw [e]
      simp only [startC, qVar, qPeek, qC, qBin, qUn, qNil, qCons, qTup, qLst, qCall, asB, qTest, qAnd, qOr, qNot, qAndV, qOrV, qNotV, qIfE, deref, qNext, qSeq, qSet, qSetN, qSetP, qRet, qRetN, qDrop, qIfS, qFreeze, qApp, onOwnL, qAsg, gqName, gqNil, gqCons, gqTup, qM1, qRng1, qEnum, qAny, asI, asL, itemsD, qPart, qNoPart, qCut, cutD, qCutL, cutLD, addD, subD, mulD, modD, fdivD, eqD, neD, eqS, onB, ltD, leD, gtD, geD, isND, lenD, intD, strD, ordD, listD, tupleD, ixD, PEnds.at, wipeC, qYes,
    List.map_cons, List.map_nil, List.replicate, List.cons_append, List.nil_append, List.append_assoc, List.getElem?_cons_zero, List.getElem?_cons_succ, List.set_cons_zero, List.set_cons_succ, List.length_cons, List.length_nil, Option.map_some, if_true, if_false, Bool.not_true, Bool.not_false, decide_eq_true_eq, Bool.not_eq_true', decide_eq_false_iff_not, Nat.reduceAdd, Nat.reduceSub, List.replicate_succ, List.replicate_zero, true_and, and_true, reduceCtorEq, isStr, qPutS, putS, powD, CPow, qPut, onOwn, setD, qPutP, onPtr, qDelP, delD, qPutF, setF, qProp, qMeth, qMake, isObj, fldD, minD, maxD, qChain, revD, lrevD, isiD, tyD, qOrT, qAndT, onTru, truD, qJoined, qjCons, qjNil, fmtD, fmt5D, D.int.injEq, D.str.injEq, D.lst.injEq, D.tup.injEq, D.bl.injEq, false_implies, true_implies, ne_eq, not_false_eq_true, not_true_eq_false, forall_const, implies_true, false_and, and_false, exists_eq_left, exists_eq_left', Int.reduceEq, Int.reduceLT, Int.reduceNe, Int.reduceLE, or_false, false_or, or_true, true_or, qLc, qFor, qWhile, allD, sortAD, wipeC, isiS, List.any_cons, List.any_nil, Bool.or_false, Bool.or_true, Bool.true_or, Bool.false_or, Bool.and_self, Bool.false_and, Bool.and_false, Bool.and_true, Bool.true_and, String.reduceBEq, Bool.false_eq_true, Bool.true_eq_false]
      refine ⟨_, atI_zero, by rw [List.length_map, List.length_map, List.length_take]; omega, ?_⟩
      rw [take_snoc h1, List.map_append, List.map_append]
      rfl
  · rintro acc h' ⟨rfl, rfl⟩
    rw [List.length_map, List.take_length]
    exact hQ
theorem lc_free {j k : Nat} {ρ : List Cell} (hj : j < ρ.length) (hjk : j ≠ k) {us ns : List Str} (hk : ρ[k]? = some (.own (.lst (us.map D.str))) ∨ ρ[k]? = some (.fro (.lst (us.map D.str)))) (hl : ns.length ≤ sizeLine) {Q : D → PHp → Prop} {h : PHp} (hQ : Q (.lst ((ns.filter fun x => decide (x ∉ us)).map D.str)) h) :
    lcK (gqName j) (qTest (qBin (inOp true) (qPeek j) (qPeek k))) (qVar j) [j] ρ Q (ns.map D.str) h := by
  refine lcK_i (fun i acc h' => h' = h ∧ acc = ((ns.take i).filter fun x => decide (x ∉ us)).map D.str) ⟨rfl, rfl⟩ ?_ ?_
  · rintro i d acc h' hd ⟨rfl, rfl⟩
    obtain ⟨s, h1, rfl⟩ := map_get hd
    have hi := get_lt h1
    have e : ((wipeC ρ [j]).set j (Cell.fro (.str s)))[j]? = some (.fro (.str s)) := by
      rw [List.getElem?_set_self]
      unfold wipeC wipeC
      rw [List.length_set]
      exact hj
    have e2 : ((wipeC ρ [j]).set j (Cell.fro (.str s)))[k]? = ρ[k]? := by
      rw [List.getElem?_set_ne hjk]
      unfold wipeC wipeC
      rw [List.getElem?_set_ne hjk]
    have hlen : (((ns.take i).filter fun x => decide (x ∉ us)).map D.str).length < sizeLine := by
      rw [List.length_map]
      refine Nat.lt_of_le_of_lt (List.length_filter_le _ _) ?_
      rw [List.length_take]
      omega
    have fin : (if (!decide (s ∈ us)) = true then qVar j NoEx ((wipeC ρ [j]).set j (Cell.fro (.str s))) h' fun y h4 => (((ns.take i).filter fun x => decide (x ∉ us)).map D.str).length < sizeLine ∧ (h4 = h' ∧ ((ns.take i).filter fun x => decide (x ∉ us)).map D.str ++ [y] = ((ns.take (i + 1)).filter fun x => decide (x ∉ us)).map D.str) else (h' = h' ∧ ((ns.take i).filter fun x => decide (x ∉ us)).map D.str = ((ns.take (i + 1)).filter fun x => decide (x ∉ us)).map D.str)) := by
      rw [take_snoc h1, List.filter_append, List.map_append]
      by_cases c : s ∈ us
      · rw [decide_eq_true c]
        simp [c]
      · rw [decide_eq_false c]
        unfold qVar
        rw [e]
        simp only [Bool.not_false, if_true]
        refine ⟨hlen, trivial, ?_⟩
        simp [c]
    unfold gqName qTest qBin qPeek
    dsimp only
    rw [e, e2]
    rcases hk with hk | hk
    · rw [hk]
      simp only [startC, qVar, qPeek, qC, qBin, qUn, qNil, qCons, qTup, qLst, qCall, asB, qTest, qAnd, qOr, qNot, qAndV, qOrV, qNotV, qIfE, deref, qNext, qSeq, qSet, qSetN, qSetP, qRet, qRetN, qDrop, qIfS, qFreeze, qApp, onOwnL, qAsg, gqName, gqNil, gqCons, gqTup, qM1, qRng1, qEnum, qAny, asI, asL, itemsD, qPart, qNoPart, qCut, cutD, qCutL, cutLD, addD, subD, mulD, modD, fdivD, eqD, neD, eqS, onB, ltD, leD, gtD, geD, isND, lenD, intD, strD, ordD, listD, tupleD, ixD, PEnds.at, wipeC, qYes,
    List.map_cons, List.map_nil, List.replicate, List.cons_append, List.nil_append, List.append_assoc, List.getElem?_cons_zero, List.getElem?_cons_succ, List.set_cons_zero, List.set_cons_succ, List.length_cons, List.length_nil, Option.map_some, if_true, if_false, Bool.not_true, Bool.not_false, decide_eq_true_eq, Bool.not_eq_true', decide_eq_false_iff_not, Nat.reduceAdd, Nat.reduceSub, List.replicate_succ, List.replicate_zero, true_and, and_true, reduceCtorEq, isStr, qPutS, putS, powD, CPow, qPut, onOwn, setD, qPutP, onPtr, qDelP, delD, qPutF, setF, qProp, qMeth, qMake, isObj, fldD, minD, maxD, qChain, revD, lrevD, isiD, tyD, qOrT, qAndT, onTru, truD, qJoined, qjCons, qjNil, fmtD, fmt5D, D.int.injEq, D.str.injEq, D.lst.injEq, D.tup.injEq, D.bl.injEq, false_implies, true_implies, ne_eq, not_false_eq_true, not_true_eq_false, forall_const, implies_true, false_and, and_false, exists_eq_left, exists_eq_left', Int.reduceEq, Int.reduceLT, Int.reduceNe, Int.reduceLE, or_false, false_or, or_true, true_or, qLc, qFor, qWhile, allD, sortAD, wipeC, isiS, List.any_cons, List.any_nil, Bool.or_false, Bool.or_true, Bool.true_or, Bool.false_or, Bool.and_self, Bool.false_and, Bool.and_false, Bool.and_true, Bool.true_and, String.reduceBEq, Bool.false_eq_true, Bool.true_eq_false, inOp, in_strs] at fin ⊢
      exact fin
    · rw [hk]
      simp only [startC, qVar, qPeek, qC, qBin, qUn, qNil, qCons, qTup, qLst, qCall, asB, qTest, qAnd, qOr, qNot, qAndV, qOrV, qNotV, qIfE, deref, qNext, qSeq, qSet, qSetN, qSetP, qRet, qRetN, qDrop, qIfS, qFreeze, qApp, onOwnL, qAsg, gqName, gqNil, gqCons, gqTup, qM1, qRng1, qEnum, qAny, asI, asL, itemsD, qPart, qNoPart, qCut, cutD, qCutL, cutLD, addD, subD, mulD, modD, fdivD, eqD, neD, eqS, onB, ltD, leD, gtD, geD, isND, lenD, intD, strD, ordD, listD, tupleD, ixD, PEnds.at, wipeC, qYes,
    List.map_cons, List.map_nil, List.replicate, List.cons_append, List.nil_append, List.append_assoc, List.getElem?_cons_zero, List.getElem?_cons_succ, List.set_cons_zero, List.set_cons_succ, List.length_cons, List.length_nil, Option.map_some, if_true, if_false, Bool.not_true, Bool.not_false, decide_eq_true_eq, Bool.not_eq_true', decide_eq_false_iff_not, Nat.reduceAdd, Nat.reduceSub, List.replicate_succ, List.replicate_zero, true_and, and_true, reduceCtorEq, isStr, qPutS, putS, powD, CPow, qPut, onOwn, setD, qPutP, onPtr, qDelP, delD, qPutF, setF, qProp, qMeth, qMake, isObj, fldD, minD, maxD, qChain, revD, lrevD, isiD, tyD, qOrT, qAndT, onTru, truD, qJoined, qjCons, qjNil, fmtD, fmt5D, D.int.injEq, D.str.injEq, D.lst.injEq, D.tup.injEq, D.bl.injEq, false_implies, true_implies, ne_eq, not_false_eq_true, not_true_eq_false, forall_const, implies_true, false_and, and_false, exists_eq_left, exists_eq_left', Int.reduceEq, Int.reduceLT, Int.reduceNe, Int.reduceLE, or_false, false_or, or_true, true_or, qLc, qFor, qWhile, allD, sortAD, wipeC, isiS, List.any_cons, List.any_nil, Bool.or_false, Bool.or_true, Bool.true_or, Bool.false_or, Bool.and_self, Bool.false_and, Bool.and_false, Bool.and_true, Bool.true_and, String.reduceBEq, Bool.false_eq_true, Bool.true_eq_false, inOp, in_strs] at fin ⊢
      exact fin
  · rintro acc h' ⟨rfl, rfl⟩
    rw [List.length_map, List.take_length]
    exact hQ
theorem doings6 {hs ns : List Str} {m sh bu : Int} {h : PHp} {Qp : D → PHp → Prop} {Ep : XP} {a b : Cell} (hl : hs.length ≤ 40) (hnd : hs.Nodup) (hn : ∀ s ∈ hs, nameB s = true) (h0 : 0 ≤ m) (h1 : m ≤ 240) (nn : ∀ s ∈ ns, nameB s = true) (nl : 0 < ns.length) (nl2 : ns.length ≤ 20)
    (hQ : ∀ es : List Deed, es.length ≤ m.toNat → okSeq hs [] es → Qp (.lst (es.map Deed.d)) h) :
    q__law_doings__6 (PE0 Qp Ep) [.fro .sto, .fro (.lst (hs.map D.str)), .fro (.int m), .fro (.int 12), .fro (.lst (ns.map D.str)), .fro (.int sh), .fro (.int bu), .fro (.lst []), .own (.lst []), .no, .no, .no, .no, .no] h := by
  simp only [q__law_doings__6, startC, qVar, qPeek, qC, qBin, qUn, qNil, qCons, qTup, qLst, qCall, asB, qTest, qAnd, qOr, qNot, qAndV, qOrV, qNotV, qIfE, deref, qNext, qSeq, qSet, qSetN, qSetP, qRet, qRetN, qDrop, qIfS, qFreeze, qApp, onOwnL, qAsg, gqName, gqNil, gqCons, gqTup, qM1, qRng1, qEnum, qAny, asI, asL, itemsD, qPart, qNoPart, qCut, cutD, qCutL, cutLD, addD, subD, mulD, modD, fdivD, eqD, neD, eqS, onB, ltD, leD, gtD, geD, isND, lenD, intD, strD, ordD, listD, tupleD, ixD, PEnds.at, wipeC, qYes,
    List.map_cons, List.map_nil, List.replicate, List.cons_append, List.nil_append, List.append_assoc, List.getElem?_cons_zero, List.getElem?_cons_succ, List.set_cons_zero, List.set_cons_succ, List.length_cons, List.length_nil, Option.map_some, if_true, if_false, Bool.not_true, Bool.not_false, decide_eq_true_eq, Bool.not_eq_true', decide_eq_false_iff_not, Nat.reduceAdd, Nat.reduceSub, List.replicate_succ, List.replicate_zero, true_and, and_true, reduceCtorEq, isStr, qPutS, putS, powD, CPow, qPut, onOwn, setD, qPutP, onPtr, qDelP, delD, qPutF, setF, qProp, qMeth, qMake, isObj, fldD, minD, maxD, qChain, revD, lrevD, isiD, tyD, qOrT, qAndT, onTru, truD, qJoined, qjCons, qjNil, fmtD, fmt5D, D.int.injEq, D.str.injEq, D.lst.injEq, D.tup.injEq, D.bl.injEq, false_implies, true_implies, ne_eq, not_false_eq_true, not_true_eq_false, forall_const, implies_true, false_and, and_false, exists_eq_left, exists_eq_left', Int.reduceEq, Int.reduceLT, Int.reduceNe, Int.reduceLE, or_false, false_or, or_true, true_or, qLc, qFor, qWhile, allD, sortAD, wipeC, isiS, List.any_cons, List.any_nil, Bool.or_false, Bool.or_true, Bool.true_or, Bool.false_or, Bool.and_self, Bool.false_and, Bool.and_false, Bool.and_true, Bool.true_and, String.reduceBEq, Bool.false_eq_true, Bool.true_eq_false]
  simp only [List.length_map]
  obtain ⟨n, hn1, hn2, hn3⟩ : ∃ n : Nat, (m * (if 1 < (hs.length : Int) then 1 else 0)) = (n : Int) ∧ n ≤ m.toNat ∧ (0 < n → 2 ≤ hs.length) := by
    by_cases c : 1 < (hs.length : Int)
    · rw [if_pos c]; exact ⟨m.toNat, by omega, Nat.le_refl _, fun _ => by omega⟩
    · rw [if_neg c]; exact ⟨0, by omega, by omega, fun z => by omega⟩
  refine ⟨.inr (by split <;> decide), ?_⟩
  rw [hn1, Int.toNat_natCast]
  refine ⟨by omega, by omega, ?_⟩
  refine forK_i (fun i ρ' h' => h' = h ∧ ∃ (es : List Deed) (ls : List (List Str)) (c9 c10 c11 c12 c13 : Cell), es.length = i ∧ okSeq hs [] es ∧ ls.map (·.headD Str.empty) = runK [] es ∧ (∀ l ∈ ls, l ≠ []) ∧ (runK [] es).Nodup ∧ (∀ s ∈ runK [] es, s ∈ ns) ∧
    ρ' = [.fro .sto, .fro (.lst (hs.map D.str)), .fro (.int m), .fro (.int 12), .fro (.lst (ns.map D.str)), .fro (.int sh), .fro (.int bu), .fro (.lst (ls.map fun l => .tup (l.map D.str))), .own (.lst (es.map Deed.d)), c9, c10, c11, c12, c13]) ⟨rfl, [], [], _, _, _, _, _, rfl, trivial, rfl, (fun _ z => by cases z), List.nodup_nil, (fun _ z => by cases z), rfl⟩ ?_ ?_
  · rintro i d ρ' h' hdd ⟨rfl, es, ls, c9, c10, c11, c12, c13, hes, hok, hls, hne, hrn, hrs, rfl⟩
    obtain ⟨rfl, hi⟩ := rng_get hdd
    have hll : ls.length ≤ 20 := by
      have := nodup_sub_len hrn hrs
      rw [← hls, List.length_map] at this
      omega
    have hh2 := hn3 (by omega)
    simp only [startC, qVar, qPeek, qC, qBin, qUn, qNil, qCons, qTup, qLst, qCall, asB, qTest, qAnd, qOr, qNot, qAndV, qOrV, qNotV, qIfE, deref, qNext, qSeq, qSet, qSetN, qSetP, qRet, qRetN, qDrop, qIfS, qFreeze, qApp, onOwnL, qAsg, gqName, gqNil, gqCons, gqTup, qM1, qRng1, qEnum, qAny, asI, asL, itemsD, qPart, qNoPart, qCut, cutD, qCutL, cutLD, addD, subD, mulD, modD, fdivD, eqD, neD, eqS, onB, ltD, leD, gtD, geD, isND, lenD, intD, strD, ordD, listD, tupleD, ixD, PEnds.at, wipeC, qYes,
    List.map_cons, List.map_nil, List.replicate, List.cons_append, List.nil_append, List.append_assoc, List.getElem?_cons_zero, List.getElem?_cons_succ, List.set_cons_zero, List.set_cons_succ, List.length_cons, List.length_nil, Option.map_some, if_true, if_false, Bool.not_true, Bool.not_false, decide_eq_true_eq, Bool.not_eq_true', decide_eq_false_iff_not, Nat.reduceAdd, Nat.reduceSub, List.replicate_succ, List.replicate_zero, true_and, and_true, reduceCtorEq, isStr, qPutS, putS, powD, CPow, qPut, onOwn, setD, qPutP, onPtr, qDelP, delD, qPutF, setF, qProp, qMeth, qMake, isObj, fldD, minD, maxD, qChain, revD, lrevD, isiD, tyD, qOrT, qAndT, onTru, truD, qJoined, qjCons, qjNil, fmtD, fmt5D, D.int.injEq, D.str.injEq, D.lst.injEq, D.tup.injEq, D.bl.injEq, false_implies, true_implies, ne_eq, not_false_eq_true, not_true_eq_false, forall_const, implies_true, false_and, and_false, exists_eq_left, exists_eq_left', Int.reduceEq, Int.reduceLT, Int.reduceNe, Int.reduceLE, or_false, false_or, or_true, true_or, qLc, qFor, qWhile, allD, sortAD, wipeC, isiS, List.any_cons, List.any_nil, Bool.or_false, Bool.or_true, Bool.true_or, Bool.false_or, Bool.and_self, Bool.false_and, Bool.and_false, Bool.and_true, Bool.true_and, String.reduceBEq, Bool.false_eq_true, Bool.true_eq_false]
    refine lc_ix0 (by simp) hne (by rw [sizeLine_eq]; omega) ?_
    rw [hls]
    refine lc_free (us := runK [] es) (by simp) (by decide) (.inl rfl) (by rw [sizeLine_eq]; omega) ?_
    simp only [startC, qVar, qPeek, qC, qBin, qUn, qNil, qCons, qTup, qLst, qCall, asB, qTest, qAnd, qOr, qNot, qAndV, qOrV, qNotV, qIfE, deref, qNext, qSeq, qSet, qSetN, qSetP, qRet, qRetN, qDrop, qIfS, qFreeze, qApp, onOwnL, qAsg, gqName, gqNil, gqCons, gqTup, qM1, qRng1, qEnum, qAny, asI, asL, itemsD, qPart, qNoPart, qCut, cutD, qCutL, cutLD, addD, subD, mulD, modD, fdivD, eqD, neD, eqS, onB, ltD, leD, gtD, geD, isND, lenD, intD, strD, ordD, listD, tupleD, ixD, PEnds.at, wipeC, qYes,
    List.map_cons, List.map_nil, List.replicate, List.cons_append, List.nil_append, List.append_assoc, List.getElem?_cons_zero, List.getElem?_cons_succ, List.set_cons_zero, List.set_cons_succ, List.length_cons, List.length_nil, Option.map_some, if_true, if_false, Bool.not_true, Bool.not_false, decide_eq_true_eq, Bool.not_eq_true', decide_eq_false_iff_not, Nat.reduceAdd, Nat.reduceSub, List.replicate_succ, List.replicate_zero, true_and, and_true, reduceCtorEq, isStr, qPutS, putS, powD, CPow, qPut, onOwn, setD, qPutP, onPtr, qDelP, delD, qPutF, setF, qProp, qMeth, qMake, isObj, fldD, minD, maxD, qChain, revD, lrevD, isiD, tyD, qOrT, qAndT, onTru, truD, qJoined, qjCons, qjNil, fmtD, fmt5D, D.int.injEq, D.str.injEq, D.lst.injEq, D.tup.injEq, D.bl.injEq, false_implies, true_implies, ne_eq, not_false_eq_true, not_true_eq_false, forall_const, implies_true, false_and, and_false, exists_eq_left, exists_eq_left', Int.reduceEq, Int.reduceLT, Int.reduceNe, Int.reduceLE, or_false, false_or, or_true, true_or, qLc, qFor, qWhile, allD, sortAD, wipeC, isiS, List.any_cons, List.any_nil, Bool.or_false, Bool.or_true, Bool.true_or, Bool.false_or, Bool.and_self, Bool.false_and, Bool.and_false, Bool.and_true, Bool.true_and, String.reduceBEq, Bool.false_eq_true, Bool.true_eq_false]
    have esl : (es.map Deed.d).length < sizeLine := by rw [List.length_map, sizeLine_eq]; omega
    have putF : ∀ (x a b : Str) (c9 c10 c11 c12 c13 : Cell), x ∈ ns → x ∉ runK [] es → a ∈ hs → b ∈ hs → tl a < tl b → ∃ (es_1 : List Deed) (ls_1 : List (List Str)) (d9 d10 d11 d12 d13 : Cell), es_1.length = i + 1 ∧ okSeq hs [] es_1 ∧ ls_1.map (·.headD Str.empty) = runK [] es_1 ∧ (∀ l ∈ ls_1, ¬ l = []) ∧ (runK [] es_1).Nodup ∧ (∀ s ∈ runK [] es_1, s ∈ ns) ∧
        [Cell.fro .sto, .fro (.lst (hs.map D.str)), .fro (.int m), .fro (.int 12), .fro (.lst (ns.map D.str)), .fro (.int sh), .fro (.int bu), .fro (.lst (ls.map (fun l => .tup (l.map D.str)) ++ [.tup [.str x, .str a, .str b]])), .own (.lst (es.map Deed.d ++ [.tup [.str (Str.ofString "put"), .str x, .str a, .str b]])), c9, c10, c11, c12, c13] =
        [.fro .sto, .fro (.lst (hs.map D.str)), .fro (.int m), .fro (.int 12), .fro (.lst (ns.map D.str)), .fro (.int sh), .fro (.int bu), .fro (.lst (ls_1.map fun l => .tup (l.map D.str))), .own (.lst (es_1.map Deed.d)), d9, d10, d11, d12, d13] := fun x a b c9 c10 c11 c12 c13 hx hx2 ha hb hab => by
      have er : runK [] (es ++ [.put x a b]) = runK [] es ++ [x] := by rw [runK_snoc]; rfl
      refine ⟨es ++ [.put x a b], ls ++ [[x, a, b]], c9, c10, c11, c12, c13, by simp [hes], okSeq_snoc hok (show okD hs (runK [] es) (.put x a b) from ⟨nn x hx, ha, hb, hab, hx2, by rw [← hls, List.length_map]; omega⟩), by rw [er, List.map_append, hls]; rfl, fun l hl => ?_, ?_, fun s hs' => ?_, by rw [List.map_append, List.map_append]; rfl⟩
      · rcases List.mem_append.mp hl with hl | hl
        · exact hne l hl
        · rw [List.mem_singleton.mp hl]; exact fun z => by cases z
      · rw [er]
        exact List.nodup_append.mpr ⟨hrn, by simp, fun y hy z hz e => hx2 (by rw [List.mem_singleton.mp hz] at e; rw [← e]; exact hy)⟩
      · rw [er] at hs'
        rcases List.mem_append.mp hs' with hs' | hs'
        · exact hrs s hs'
        · rw [List.mem_singleton.mp hs']; exact hx
    have takeF : ∀ (x : Str) (c9 c10 c11 c12 c13 : Cell), x ∈ runK [] es → ∃ (es_1 : List Deed) (ls_1 : List (List Str)) (d9 d10 d11 d12 d13 : Cell), es_1.length = i + 1 ∧ okSeq hs [] es_1 ∧ ls_1.map (·.headD Str.empty) = runK [] es_1 ∧ (∀ l ∈ ls_1, ¬ l = []) ∧ (runK [] es_1).Nodup ∧ (∀ s ∈ runK [] es_1, s ∈ ns) ∧
        [Cell.fro .sto, .fro (.lst (hs.map D.str)), .fro (.int m), .fro (.int 12), .fro (.lst (ns.map D.str)), .fro (.int sh), .fro (.int bu), .fro (.lst ((ls.filter fun l => l.head? != some x).map (fun l => .tup (l.map D.str)))), .own (.lst (es.map Deed.d ++ [.tup [.str (Str.ofString "take"), .str x]])), c9, c10, c11, c12, c13] =
        [.fro .sto, .fro (.lst (hs.map D.str)), .fro (.int m), .fro (.int 12), .fro (.lst (ns.map D.str)), .fro (.int sh), .fro (.int bu), .fro (.lst (ls_1.map fun l => .tup (l.map D.str))), .own (.lst (es_1.map Deed.d)), d9, d10, d11, d12, d13] := fun x c9 c10 c11 c12 c13 hx => by
      have er : runK [] (es ++ [.take x]) = (runK [] es).filter fun y => decide (y ≠ x) := by rw [runK_snoc]; rfl
      refine ⟨es ++ [.take x], ls.filter fun l => l.head? != some x, c9, c10, c11, c12, c13, by simp [hes], okSeq_snoc hok (show okD hs (runK [] es) (.take x) from ⟨nn x (hrs x hx), hx⟩), ?_, fun l hl => hne l (List.mem_filter.mp hl).1, ?_, fun s hs' => ?_, by rw [List.map_append]; rfl⟩
      · rw [er, ← hls, List.filter_map]
        congr 1
        apply List.filter_congr
        intro l hl
        cases l with
        | nil => exact absurd rfl (hne _ hl)
        | cons s r => by_cases c : s = x <;> simp [c]
      · rw [er]; exact hrn.filter _
      · rw [er] at hs'; exact hrs s (List.mem_filter.mp hs').1
    have takeG : ∀ (P1 : D → PHp → Prop) (Ex : XP), 0 < ls.length → (∀ x, x ∈ runK [] es → P1 (.str x) h') → sp__law_pick [.sto, .lst ((runK [] es).map D.str)] h' P1 Ex := fun P1 Ex h0 hp => by
      refine ⟨_, _, rfl, .inl rfl, fun z => ?_, ?_, fun d hd => ?_⟩
      · have := congrArg List.length z
        rw [← hls, List.length_map, List.length_map, List.length_nil] at this
        omega
      · rw [← hls, List.length_map, List.length_map, sizeLine_eq]; omega
      · obtain ⟨x, hx, rfl⟩ := List.mem_map.mp hd
        exact hp x hx
    have putG : ∀ (P1 : D → PHp → Prop) (Ex : XP), 0 < ((ns.filter fun x => decide (x ∉ runK [] es)).map D.str).length → (∀ x, x ∈ ns → x ∉ runK [] es → P1 (.str x) h') → sp__law_pick [.sto, .lst ((ns.filter fun x => decide (x ∉ runK [] es)).map D.str)] h' P1 Ex := fun P1 Ex h0 hp => by
      refine ⟨_, _, rfl, .inl rfl, fun z => ?_, ?_, fun d hd => ?_⟩
      · rw [z] at h0; exact absurd h0 (by decide)
      · rw [List.length_map, sizeLine_eq]
        have := List.length_filter_le (fun x => decide (x ∉ runK [] es)) ns
        omega
      · obtain ⟨x, hx, rfl⟩ := List.mem_map.mp hd
        have := List.mem_filter.mp hx
        exact hp x this.1 (of_decide_eq_true this.2)
    have llm : (ls.map fun l => D.tup (l.map D.str)).length = ls.length := List.length_map _
    rw [llm]
    split
    · rename_i hf
      split
      · refine putG _ _ (by omega) fun x hx hx2 => ?_
        refine ⟨hs, sh, i, rfl, hh2, hl, hnd, by omega, fun a b ha hb hab => ?_⟩
        simp only [startC, qVar, qPeek, qC, qBin, qUn, qNil, qCons, qTup, qLst, qCall, asB, qTest, qAnd, qOr, qNot, qAndV, qOrV, qNotV, qIfE, deref, qNext, qSeq, qSet, qSetN, qSetP, qRet, qRetN, qDrop, qIfS, qFreeze, qApp, onOwnL, qAsg, gqName, gqNil, gqCons, gqTup, qM1, qRng1, qEnum, qAny, asI, asL, itemsD, qPart, qNoPart, qCut, cutD, qCutL, cutLD, addD, subD, mulD, modD, fdivD, eqD, neD, eqS, onB, ltD, leD, gtD, geD, isND, lenD, intD, strD, ordD, listD, tupleD, ixD, PEnds.at, wipeC, qYes,
    List.map_cons, List.map_nil, List.replicate, List.cons_append, List.nil_append, List.append_assoc, List.getElem?_cons_zero, List.getElem?_cons_succ, List.set_cons_zero, List.set_cons_succ, List.length_cons, List.length_nil, Option.map_some, if_true, if_false, Bool.not_true, Bool.not_false, decide_eq_true_eq, Bool.not_eq_true', decide_eq_false_iff_not, Nat.reduceAdd, Nat.reduceSub, List.replicate_succ, List.replicate_zero, true_and, and_true, reduceCtorEq, isStr, qPutS, putS, powD, CPow, qPut, onOwn, setD, qPutP, onPtr, qDelP, delD, qPutF, setF, qProp, qMeth, qMake, isObj, fldD, minD, maxD, qChain, revD, lrevD, isiD, tyD, qOrT, qAndT, onTru, truD, qJoined, qjCons, qjNil, fmtD, fmt5D, D.int.injEq, D.str.injEq, D.lst.injEq, D.tup.injEq, D.bl.injEq, false_implies, true_implies, ne_eq, not_false_eq_true, not_true_eq_false, forall_const, implies_true, false_and, and_false, exists_eq_left, exists_eq_left', Int.reduceEq, Int.reduceLT, Int.reduceNe, Int.reduceLE, or_false, false_or, or_true, true_or, qLc, qFor, qWhile, allD, sortAD, wipeC, isiS, List.any_cons, List.any_nil, Bool.or_false, Bool.or_true, Bool.true_or, Bool.false_or, Bool.and_self, Bool.false_and, Bool.and_false, Bool.and_true, Bool.true_and, String.reduceBEq, Bool.false_eq_true, Bool.true_eq_false]
        refine ⟨by rw [sizeLine_eq]; decide, esl, _, atI_last, ?_⟩
        simp only [startC, qVar, qPeek, qC, qBin, qUn, qNil, qCons, qTup, qLst, qCall, asB, qTest, qAnd, qOr, qNot, qAndV, qOrV, qNotV, qIfE, deref, qNext, qSeq, qSet, qSetN, qSetP, qRet, qRetN, qDrop, qIfS, qFreeze, qApp, onOwnL, qAsg, gqName, gqNil, gqCons, gqTup, qM1, qRng1, qEnum, qAny, asI, asL, itemsD, qPart, qNoPart, qCut, cutD, qCutL, cutLD, addD, subD, mulD, modD, fdivD, eqD, neD, eqS, onB, ltD, leD, gtD, geD, isND, lenD, intD, strD, ordD, listD, tupleD, ixD, PEnds.at, wipeC, qYes,
    List.map_cons, List.map_nil, List.replicate, List.cons_append, List.nil_append, List.append_assoc, List.getElem?_cons_zero, List.getElem?_cons_succ, List.set_cons_zero, List.set_cons_succ, List.length_cons, List.length_nil, Option.map_some, if_true, if_false, Bool.not_true, Bool.not_false, decide_eq_true_eq, Bool.not_eq_true', decide_eq_false_iff_not, Nat.reduceAdd, Nat.reduceSub, List.replicate_succ, List.replicate_zero, true_and, and_true, reduceCtorEq, isStr, qPutS, putS, powD, CPow, qPut, onOwn, setD, qPutP, onPtr, qDelP, delD, qPutF, setF, qProp, qMeth, qMake, isObj, fldD, minD, maxD, qChain, revD, lrevD, isiD, tyD, qOrT, qAndT, onTru, truD, qJoined, qjCons, qjNil, fmtD, fmt5D, D.int.injEq, D.str.injEq, D.lst.injEq, D.tup.injEq, D.bl.injEq, false_implies, true_implies, ne_eq, not_false_eq_true, not_true_eq_false, forall_const, implies_true, false_and, and_false, exists_eq_left, exists_eq_left', Int.reduceEq, Int.reduceLT, Int.reduceNe, Int.reduceLE, or_false, false_or, or_true, true_or, qLc, qFor, qWhile, allD, sortAD, wipeC, isiS, List.any_cons, List.any_nil, Bool.or_false, Bool.or_true, Bool.true_or, Bool.false_or, Bool.and_self, Bool.false_and, Bool.and_false, Bool.and_true, Bool.true_and, String.reduceBEq, Bool.false_eq_true, Bool.true_eq_false]
        have ec : cutL [D.str (Str.ofString "put"), D.str x, D.str a, D.str b] (some 1) none = [D.str x, D.str a, D.str b] := rfl
        rw [ec]
        exact ⟨by decide, by rw [sizeLine_eq]; omega, putF x a b _ _ _ _ _ hx hx2 ha hb hab⟩
      · refine ⟨_, rfl, by decide, fun r r0 r1 => ?_⟩
        simp only [startC, qVar, qPeek, qC, qBin, qUn, qNil, qCons, qTup, qLst, qCall, asB, qTest, qAnd, qOr, qNot, qAndV, qOrV, qNotV, qIfE, deref, qNext, qSeq, qSet, qSetN, qSetP, qRet, qRetN, qDrop, qIfS, qFreeze, qApp, onOwnL, qAsg, gqName, gqNil, gqCons, gqTup, qM1, qRng1, qEnum, qAny, asI, asL, itemsD, qPart, qNoPart, qCut, cutD, qCutL, cutLD, addD, subD, mulD, modD, fdivD, eqD, neD, eqS, onB, ltD, leD, gtD, geD, isND, lenD, intD, strD, ordD, listD, tupleD, ixD, PEnds.at, wipeC, qYes,
    List.map_cons, List.map_nil, List.replicate, List.cons_append, List.nil_append, List.append_assoc, List.getElem?_cons_zero, List.getElem?_cons_succ, List.set_cons_zero, List.set_cons_succ, List.length_cons, List.length_nil, Option.map_some, if_true, if_false, Bool.not_true, Bool.not_false, decide_eq_true_eq, Bool.not_eq_true', decide_eq_false_iff_not, Nat.reduceAdd, Nat.reduceSub, List.replicate_succ, List.replicate_zero, true_and, and_true, reduceCtorEq, isStr, qPutS, putS, powD, CPow, qPut, onOwn, setD, qPutP, onPtr, qDelP, delD, qPutF, setF, qProp, qMeth, qMake, isObj, fldD, minD, maxD, qChain, revD, lrevD, isiD, tyD, qOrT, qAndT, onTru, truD, qJoined, qjCons, qjNil, fmtD, fmt5D, D.int.injEq, D.str.injEq, D.lst.injEq, D.tup.injEq, D.bl.injEq, false_implies, true_implies, ne_eq, not_false_eq_true, not_true_eq_false, forall_const, implies_true, false_and, and_false, exists_eq_left, exists_eq_left', Int.reduceEq, Int.reduceLT, Int.reduceNe, Int.reduceLE, or_false, false_or, or_true, true_or, qLc, qFor, qWhile, allD, sortAD, wipeC, isiS, List.any_cons, List.any_nil, Bool.or_false, Bool.or_true, Bool.true_or, Bool.false_or, Bool.and_self, Bool.false_and, Bool.and_false, Bool.and_true, Bool.true_and, String.reduceBEq, Bool.false_eq_true, Bool.true_eq_false]
        refine ⟨.inl ⟨by decide, by decide⟩, .inr (by split <;> decide), ite_both ?_ ?_⟩
        · refine putG _ _ (by omega) fun x hx hx2 => ?_
          refine ⟨hs, sh, i, rfl, hh2, hl, hnd, by omega, fun a b ha hb hab => ?_⟩
          simp only [startC, qVar, qPeek, qC, qBin, qUn, qNil, qCons, qTup, qLst, qCall, asB, qTest, qAnd, qOr, qNot, qAndV, qOrV, qNotV, qIfE, deref, qNext, qSeq, qSet, qSetN, qSetP, qRet, qRetN, qDrop, qIfS, qFreeze, qApp, onOwnL, qAsg, gqName, gqNil, gqCons, gqTup, qM1, qRng1, qEnum, qAny, asI, asL, itemsD, qPart, qNoPart, qCut, cutD, qCutL, cutLD, addD, subD, mulD, modD, fdivD, eqD, neD, eqS, onB, ltD, leD, gtD, geD, isND, lenD, intD, strD, ordD, listD, tupleD, ixD, PEnds.at, wipeC, qYes,
    List.map_cons, List.map_nil, List.replicate, List.cons_append, List.nil_append, List.append_assoc, List.getElem?_cons_zero, List.getElem?_cons_succ, List.set_cons_zero, List.set_cons_succ, List.length_cons, List.length_nil, Option.map_some, if_true, if_false, Bool.not_true, Bool.not_false, decide_eq_true_eq, Bool.not_eq_true', decide_eq_false_iff_not, Nat.reduceAdd, Nat.reduceSub, List.replicate_succ, List.replicate_zero, true_and, and_true, reduceCtorEq, isStr, qPutS, putS, powD, CPow, qPut, onOwn, setD, qPutP, onPtr, qDelP, delD, qPutF, setF, qProp, qMeth, qMake, isObj, fldD, minD, maxD, qChain, revD, lrevD, isiD, tyD, qOrT, qAndT, onTru, truD, qJoined, qjCons, qjNil, fmtD, fmt5D, D.int.injEq, D.str.injEq, D.lst.injEq, D.tup.injEq, D.bl.injEq, false_implies, true_implies, ne_eq, not_false_eq_true, not_true_eq_false, forall_const, implies_true, false_and, and_false, exists_eq_left, exists_eq_left', Int.reduceEq, Int.reduceLT, Int.reduceNe, Int.reduceLE, or_false, false_or, or_true, true_or, qLc, qFor, qWhile, allD, sortAD, wipeC, isiS, List.any_cons, List.any_nil, Bool.or_false, Bool.or_true, Bool.true_or, Bool.false_or, Bool.and_self, Bool.false_and, Bool.and_false, Bool.and_true, Bool.true_and, String.reduceBEq, Bool.false_eq_true, Bool.true_eq_false]
          refine ⟨by rw [sizeLine_eq]; decide, esl, _, atI_last, ?_⟩
          simp only [startC, qVar, qPeek, qC, qBin, qUn, qNil, qCons, qTup, qLst, qCall, asB, qTest, qAnd, qOr, qNot, qAndV, qOrV, qNotV, qIfE, deref, qNext, qSeq, qSet, qSetN, qSetP, qRet, qRetN, qDrop, qIfS, qFreeze, qApp, onOwnL, qAsg, gqName, gqNil, gqCons, gqTup, qM1, qRng1, qEnum, qAny, asI, asL, itemsD, qPart, qNoPart, qCut, cutD, qCutL, cutLD, addD, subD, mulD, modD, fdivD, eqD, neD, eqS, onB, ltD, leD, gtD, geD, isND, lenD, intD, strD, ordD, listD, tupleD, ixD, PEnds.at, wipeC, qYes,
    List.map_cons, List.map_nil, List.replicate, List.cons_append, List.nil_append, List.append_assoc, List.getElem?_cons_zero, List.getElem?_cons_succ, List.set_cons_zero, List.set_cons_succ, List.length_cons, List.length_nil, Option.map_some, if_true, if_false, Bool.not_true, Bool.not_false, decide_eq_true_eq, Bool.not_eq_true', decide_eq_false_iff_not, Nat.reduceAdd, Nat.reduceSub, List.replicate_succ, List.replicate_zero, true_and, and_true, reduceCtorEq, isStr, qPutS, putS, powD, CPow, qPut, onOwn, setD, qPutP, onPtr, qDelP, delD, qPutF, setF, qProp, qMeth, qMake, isObj, fldD, minD, maxD, qChain, revD, lrevD, isiD, tyD, qOrT, qAndT, onTru, truD, qJoined, qjCons, qjNil, fmtD, fmt5D, D.int.injEq, D.str.injEq, D.lst.injEq, D.tup.injEq, D.bl.injEq, false_implies, true_implies, ne_eq, not_false_eq_true, not_true_eq_false, forall_const, implies_true, false_and, and_false, exists_eq_left, exists_eq_left', Int.reduceEq, Int.reduceLT, Int.reduceNe, Int.reduceLE, or_false, false_or, or_true, true_or, qLc, qFor, qWhile, allD, sortAD, wipeC, isiS, List.any_cons, List.any_nil, Bool.or_false, Bool.or_true, Bool.true_or, Bool.false_or, Bool.and_self, Bool.false_and, Bool.and_false, Bool.and_true, Bool.true_and, String.reduceBEq, Bool.false_eq_true, Bool.true_eq_false]
          have ec : cutL [D.str (Str.ofString "put"), D.str x, D.str a, D.str b] (some 1) none = [D.str x, D.str a, D.str b] := rfl
          rw [ec]
          exact ⟨by decide, by rw [sizeLine_eq]; omega, putF x a b _ _ _ _ _ hx hx2 ha hb hab⟩
        · refine takeG _ _ (by omega) fun x hx => ?_
          refine ⟨esl, _, atI_last, ?_⟩
          simp only [startC, qVar, qPeek, qC, qBin, qUn, qNil, qCons, qTup, qLst, qCall, asB, qTest, qAnd, qOr, qNot, qAndV, qOrV, qNotV, qIfE, deref, qNext, qSeq, qSet, qSetN, qSetP, qRet, qRetN, qDrop, qIfS, qFreeze, qApp, onOwnL, qAsg, gqName, gqNil, gqCons, gqTup, qM1, qRng1, qEnum, qAny, asI, asL, itemsD, qPart, qNoPart, qCut, cutD, qCutL, cutLD, addD, subD, mulD, modD, fdivD, eqD, neD, eqS, onB, ltD, leD, gtD, geD, isND, lenD, intD, strD, ordD, listD, tupleD, ixD, PEnds.at, wipeC, qYes,
    List.map_cons, List.map_nil, List.replicate, List.cons_append, List.nil_append, List.append_assoc, List.getElem?_cons_zero, List.getElem?_cons_succ, List.set_cons_zero, List.set_cons_succ, List.length_cons, List.length_nil, Option.map_some, if_true, if_false, Bool.not_true, Bool.not_false, decide_eq_true_eq, Bool.not_eq_true', decide_eq_false_iff_not, Nat.reduceAdd, Nat.reduceSub, List.replicate_succ, List.replicate_zero, true_and, and_true, reduceCtorEq, isStr, qPutS, putS, powD, CPow, qPut, onOwn, setD, qPutP, onPtr, qDelP, delD, qPutF, setF, qProp, qMeth, qMake, isObj, fldD, minD, maxD, qChain, revD, lrevD, isiD, tyD, qOrT, qAndT, onTru, truD, qJoined, qjCons, qjNil, fmtD, fmt5D, D.int.injEq, D.str.injEq, D.lst.injEq, D.tup.injEq, D.bl.injEq, false_implies, true_implies, ne_eq, not_false_eq_true, not_true_eq_false, forall_const, implies_true, false_and, and_false, exists_eq_left, exists_eq_left', Int.reduceEq, Int.reduceLT, Int.reduceNe, Int.reduceLE, or_false, false_or, or_true, true_or, qLc, qFor, qWhile, allD, sortAD, wipeC, isiS, List.any_cons, List.any_nil, Bool.or_false, Bool.or_true, Bool.true_or, Bool.false_or, Bool.and_self, Bool.false_and, Bool.and_false, Bool.and_true, Bool.true_and, String.reduceBEq, Bool.false_eq_true, Bool.true_eq_false]
          refine ⟨_, rfl, ls, x, rfl, by rw [sizeLine_eq]; omega, hne, ?_⟩
          exact ⟨rfl, takeF x _ _ _ _ _ hx⟩
    · rename_i hf
      have hpos : 0 < ls.length := by
        refine Classical.byContradiction fun z => hf ?_
        have z0 : ls = [] := List.length_eq_zero_iff.mp (by omega)
        have hre : runK [] es = [] := by rw [← hls, z0]; rfl
        have hfe : ns.filter (fun x => decide (x ∉ ([] : List Str))) = ns := List.filter_eq_self.mpr (by simp)
        rw [hre, hfe, List.length_map]
        omega
      refine takeG _ _ (by omega) fun x hx => ?_
      refine ⟨esl, _, atI_last, ?_⟩
      simp only [startC, qVar, qPeek, qC, qBin, qUn, qNil, qCons, qTup, qLst, qCall, asB, qTest, qAnd, qOr, qNot, qAndV, qOrV, qNotV, qIfE, deref, qNext, qSeq, qSet, qSetN, qSetP, qRet, qRetN, qDrop, qIfS, qFreeze, qApp, onOwnL, qAsg, gqName, gqNil, gqCons, gqTup, qM1, qRng1, qEnum, qAny, asI, asL, itemsD, qPart, qNoPart, qCut, cutD, qCutL, cutLD, addD, subD, mulD, modD, fdivD, eqD, neD, eqS, onB, ltD, leD, gtD, geD, isND, lenD, intD, strD, ordD, listD, tupleD, ixD, PEnds.at, wipeC, qYes,
    List.map_cons, List.map_nil, List.replicate, List.cons_append, List.nil_append, List.append_assoc, List.getElem?_cons_zero, List.getElem?_cons_succ, List.set_cons_zero, List.set_cons_succ, List.length_cons, List.length_nil, Option.map_some, if_true, if_false, Bool.not_true, Bool.not_false, decide_eq_true_eq, Bool.not_eq_true', decide_eq_false_iff_not, Nat.reduceAdd, Nat.reduceSub, List.replicate_succ, List.replicate_zero, true_and, and_true, reduceCtorEq, isStr, qPutS, putS, powD, CPow, qPut, onOwn, setD, qPutP, onPtr, qDelP, delD, qPutF, setF, qProp, qMeth, qMake, isObj, fldD, minD, maxD, qChain, revD, lrevD, isiD, tyD, qOrT, qAndT, onTru, truD, qJoined, qjCons, qjNil, fmtD, fmt5D, D.int.injEq, D.str.injEq, D.lst.injEq, D.tup.injEq, D.bl.injEq, false_implies, true_implies, ne_eq, not_false_eq_true, not_true_eq_false, forall_const, implies_true, false_and, and_false, exists_eq_left, exists_eq_left', Int.reduceEq, Int.reduceLT, Int.reduceNe, Int.reduceLE, or_false, false_or, or_true, true_or, qLc, qFor, qWhile, allD, sortAD, wipeC, isiS, List.any_cons, List.any_nil, Bool.or_false, Bool.or_true, Bool.true_or, Bool.false_or, Bool.and_self, Bool.false_and, Bool.and_false, Bool.and_true, Bool.true_and, String.reduceBEq, Bool.false_eq_true, Bool.true_eq_false]
      refine ⟨_, rfl, ls, x, rfl, by rw [sizeLine_eq]; omega, hne, ?_⟩
      exact ⟨rfl, takeF x _ _ _ _ _ hx⟩
  · rintro ρ' h' ⟨rfl, es, ls, c9, c10, c11, c12, c13, hes, hok, hls, hne, hrn, hrs, rfl⟩
    rw [rng_len] at hes
    simp only [startC, qVar, qPeek, qC, qBin, qUn, qNil, qCons, qTup, qLst, qCall, asB, qTest, qAnd, qOr, qNot, qAndV, qOrV, qNotV, qIfE, deref, qNext, qSeq, qSet, qSetN, qSetP, qRet, qRetN, qDrop, qIfS, qFreeze, qApp, onOwnL, qAsg, gqName, gqNil, gqCons, gqTup, qM1, qRng1, qEnum, qAny, asI, asL, itemsD, qPart, qNoPart, qCut, cutD, qCutL, cutLD, addD, subD, mulD, modD, fdivD, eqD, neD, eqS, onB, ltD, leD, gtD, geD, isND, lenD, intD, strD, ordD, listD, tupleD, ixD, PEnds.at, wipeC, qYes,
    List.map_cons, List.map_nil, List.replicate, List.cons_append, List.nil_append, List.append_assoc, List.getElem?_cons_zero, List.getElem?_cons_succ, List.set_cons_zero, List.set_cons_succ, List.length_cons, List.length_nil, Option.map_some, if_true, if_false, Bool.not_true, Bool.not_false, decide_eq_true_eq, Bool.not_eq_true', decide_eq_false_iff_not, Nat.reduceAdd, Nat.reduceSub, List.replicate_succ, List.replicate_zero, true_and, and_true, reduceCtorEq, isStr, qPutS, putS, powD, CPow, qPut, onOwn, setD, qPutP, onPtr, qDelP, delD, qPutF, setF, qProp, qMeth, qMake, isObj, fldD, minD, maxD, qChain, revD, lrevD, isiD, tyD, qOrT, qAndT, onTru, truD, qJoined, qjCons, qjNil, fmtD, fmt5D, D.int.injEq, D.str.injEq, D.lst.injEq, D.tup.injEq, D.bl.injEq, false_implies, true_implies, ne_eq, not_false_eq_true, not_true_eq_false, forall_const, implies_true, false_and, and_false, exists_eq_left, exists_eq_left', Int.reduceEq, Int.reduceLT, Int.reduceNe, Int.reduceLE, or_false, false_or, or_true, true_or, qLc, qFor, qWhile, allD, sortAD, wipeC, isiS, List.any_cons, List.any_nil, Bool.or_false, Bool.or_true, Bool.true_or, Bool.false_or, Bool.and_self, Bool.false_and, Bool.and_false, Bool.and_true, Bool.true_and, String.reduceBEq, Bool.false_eq_true, Bool.true_eq_false]
    exact hQ es (by omega) hok
theorem v__law_doings (ds : List D) (h : PHp) (Qp : D → PHp → Prop) (Ep : XP) : sp__law_doings ds h Qp Ep → q__law_doings (PE0 Qp Ep) (startC 14 ds) h := by
  rintro ⟨hs, m, rfl, hl, hnd, hn, h0, h1, hQ⟩
  simp only [q__law_doings, startC, qVar, qPeek, qC, qBin, qUn, qNil, qCons, qTup, qLst, qCall, asB, qTest, qAnd, qOr, qNot, qAndV, qOrV, qNotV, qIfE, deref, qNext, qSeq, qSet, qSetN, qSetP, qRet, qRetN, qDrop, qIfS, qFreeze, qApp, onOwnL, qAsg, gqName, gqNil, gqCons, gqTup, qM1, qRng1, qEnum, qAny, asI, asL, itemsD, qPart, qNoPart, qCut, cutD, qCutL, cutLD, addD, subD, mulD, modD, fdivD, eqD, neD, eqS, onB, ltD, leD, gtD, geD, isND, lenD, intD, strD, ordD, listD, tupleD, ixD, PEnds.at, wipeC, qYes,
    List.map_cons, List.map_nil, List.replicate, List.cons_append, List.nil_append, List.append_assoc, List.getElem?_cons_zero, List.getElem?_cons_succ, List.set_cons_zero, List.set_cons_succ, List.length_cons, List.length_nil, Option.map_some, if_true, if_false, Bool.not_true, Bool.not_false, decide_eq_true_eq, Bool.not_eq_true', decide_eq_false_iff_not, Nat.reduceAdd, Nat.reduceSub, List.replicate_succ, List.replicate_zero, true_and, and_true, reduceCtorEq, isStr, qPutS, putS, powD, CPow, qPut, onOwn, setD, qPutP, onPtr, qDelP, delD, qPutF, setF, qProp, qMeth, qMake, isObj, fldD, minD, maxD, qChain, revD, lrevD, isiD, tyD, qOrT, qAndT, onTru, truD, qJoined, qjCons, qjNil, fmtD, fmt5D, D.int.injEq, D.str.injEq, D.lst.injEq, D.tup.injEq, D.bl.injEq, false_implies, true_implies, ne_eq, not_false_eq_true, not_true_eq_false, forall_const, implies_true, false_and, and_false, exists_eq_left, exists_eq_left', Int.reduceEq, Int.reduceLT, Int.reduceNe, Int.reduceLE, or_false, false_or, or_true, true_or, qLc, qFor, qWhile, allD, sortAD, wipeC, isiS, List.any_cons, List.any_nil, Bool.or_false, Bool.or_true, Bool.true_or, Bool.false_or, Bool.and_self, Bool.false_and, Bool.and_false, Bool.and_true, Bool.true_and, String.reduceBEq, Bool.false_eq_true, Bool.true_eq_false]
  refine ⟨_, rfl, by omega, fun y y0 y1 => ?_⟩
  simp only [startC, qVar, qPeek, qC, qBin, qUn, qNil, qCons, qTup, qLst, qCall, asB, qTest, qAnd, qOr, qNot, qAndV, qOrV, qNotV, qIfE, deref, qNext, qSeq, qSet, qSetN, qSetP, qRet, qRetN, qDrop, qIfS, qFreeze, qApp, onOwnL, qAsg, gqName, gqNil, gqCons, gqTup, qM1, qRng1, qEnum, qAny, asI, asL, itemsD, qPart, qNoPart, qCut, cutD, qCutL, cutLD, addD, subD, mulD, modD, fdivD, eqD, neD, eqS, onB, ltD, leD, gtD, geD, isND, lenD, intD, strD, ordD, listD, tupleD, ixD, PEnds.at, wipeC, qYes,
    List.map_cons, List.map_nil, List.replicate, List.cons_append, List.nil_append, List.append_assoc, List.getElem?_cons_zero, List.getElem?_cons_succ, List.set_cons_zero, List.set_cons_succ, List.length_cons, List.length_nil, Option.map_some, if_true, if_false, Bool.not_true, Bool.not_false, decide_eq_true_eq, Bool.not_eq_true', decide_eq_false_iff_not, Nat.reduceAdd, Nat.reduceSub, List.replicate_succ, List.replicate_zero, true_and, and_true, reduceCtorEq, isStr, qPutS, putS, powD, CPow, qPut, onOwn, setD, qPutP, onPtr, qDelP, delD, qPutF, setF, qProp, qMeth, qMake, isObj, fldD, minD, maxD, qChain, revD, lrevD, isiD, tyD, qOrT, qAndT, onTru, truD, qJoined, qjCons, qjNil, fmtD, fmt5D, D.int.injEq, D.str.injEq, D.lst.injEq, D.tup.injEq, D.bl.injEq, false_implies, true_implies, ne_eq, not_false_eq_true, not_true_eq_false, forall_const, implies_true, false_and, and_false, exists_eq_left, exists_eq_left', Int.reduceEq, Int.reduceLT, Int.reduceNe, Int.reduceLE, or_false, false_or, or_true, true_or, qLc, qFor, qWhile, allD, sortAD, wipeC, isiS, List.any_cons, List.any_nil, Bool.or_false, Bool.or_true, Bool.true_or, Bool.false_or, Bool.and_self, Bool.false_and, Bool.and_false, Bool.and_true, Bool.true_and, String.reduceBEq, Bool.false_eq_true, Bool.true_eq_false]
  refine ⟨_, rfl, by split <;> omega, by split <;> omega, fun ss sl sn sb => ?_⟩
  refine ⟨_, rfl, by decide, fun z z0 z1 => ?_⟩
  simp only [startC, qVar, qPeek, qC, qBin, qUn, qNil, qCons, qTup, qLst, qCall, asB, qTest, qAnd, qOr, qNot, qAndV, qOrV, qNotV, qIfE, deref, qNext, qSeq, qSet, qSetN, qSetP, qRet, qRetN, qDrop, qIfS, qFreeze, qApp, onOwnL, qAsg, gqName, gqNil, gqCons, gqTup, qM1, qRng1, qEnum, qAny, asI, asL, itemsD, qPart, qNoPart, qCut, cutD, qCutL, cutLD, addD, subD, mulD, modD, fdivD, eqD, neD, eqS, onB, ltD, leD, gtD, geD, isND, lenD, intD, strD, ordD, listD, tupleD, ixD, PEnds.at, wipeC, qYes,
    List.map_cons, List.map_nil, List.replicate, List.cons_append, List.nil_append, List.append_assoc, List.getElem?_cons_zero, List.getElem?_cons_succ, List.set_cons_zero, List.set_cons_succ, List.length_cons, List.length_nil, Option.map_some, if_true, if_false, Bool.not_true, Bool.not_false, decide_eq_true_eq, Bool.not_eq_true', decide_eq_false_iff_not, Nat.reduceAdd, Nat.reduceSub, List.replicate_succ, List.replicate_zero, true_and, and_true, reduceCtorEq, isStr, qPutS, putS, powD, CPow, qPut, onOwn, setD, qPutP, onPtr, qDelP, delD, qPutF, setF, qProp, qMeth, qMake, isObj, fldD, minD, maxD, qChain, revD, lrevD, isiD, tyD, qOrT, qAndT, onTru, truD, qJoined, qjCons, qjNil, fmtD, fmt5D, D.int.injEq, D.str.injEq, D.lst.injEq, D.tup.injEq, D.bl.injEq, false_implies, true_implies, ne_eq, not_false_eq_true, not_true_eq_false, forall_const, implies_true, false_and, and_false, exists_eq_left, exists_eq_left', Int.reduceEq, Int.reduceLT, Int.reduceNe, Int.reduceLE, or_false, false_or, or_true, true_or, qLc, qFor, qWhile, allD, sortAD, wipeC, isiS, List.any_cons, List.any_nil, Bool.or_false, Bool.or_true, Bool.true_or, Bool.false_or, Bool.and_self, Bool.false_and, Bool.and_false, Bool.and_true, Bool.true_and, String.reduceBEq, Bool.false_eq_true, Bool.true_eq_false]
  have ecut : cutL (hs.map D.str) none (some z) = (hs.take z.toNat).map D.str := by
    unfold cutL HT.sIx
    dsimp only
    rw [if_neg (by omega), Nat.sub_zero, List.drop_zero, List.length_map, ← List.map_take]
    congr 1
    by_cases c : z.toNat ≤ hs.length
    · rw [Nat.min_eq_left c]
    · rw [Nat.min_eq_right (by omega), List.take_of_length_le (Nat.le_refl _), List.take_of_length_le (by omega)]
  rw [ecut]
  refine lc_free (us := ss) (by simp) (by decide) (.inr rfl) (by rw [List.length_take, sizeLine_eq]; omega) ?_
  have ssl : 0 < ss.length ∧ ss.length ≤ 12 := by
    rw [sl]
    split <;> omega
  have fl : ((hs.take z.toNat).filter fun x => decide (x ∉ ss)).length ≤ 3 := by
    refine Nat.le_trans (List.length_filter_le _ _) ?_
    rw [List.length_take]
    omega
  simp only [startC, qVar, qPeek, qC, qBin, qUn, qNil, qCons, qTup, qLst, qCall, asB, qTest, qAnd, qOr, qNot, qAndV, qOrV, qNotV, qIfE, deref, qNext, qSeq, qSet, qSetN, qSetP, qRet, qRetN, qDrop, qIfS, qFreeze, qApp, onOwnL, qAsg, gqName, gqNil, gqCons, gqTup, qM1, qRng1, qEnum, qAny, asI, asL, itemsD, qPart, qNoPart, qCut, cutD, qCutL, cutLD, addD, subD, mulD, modD, fdivD, eqD, neD, eqS, onB, ltD, leD, gtD, geD, isND, lenD, intD, strD, ordD, listD, tupleD, ixD, PEnds.at, wipeC, qYes,
    List.map_cons, List.map_nil, List.replicate, List.cons_append, List.nil_append, List.append_assoc, List.getElem?_cons_zero, List.getElem?_cons_succ, List.set_cons_zero, List.set_cons_succ, List.length_cons, List.length_nil, Option.map_some, if_true, if_false, Bool.not_true, Bool.not_false, decide_eq_true_eq, Bool.not_eq_true', decide_eq_false_iff_not, Nat.reduceAdd, Nat.reduceSub, List.replicate_succ, List.replicate_zero, true_and, and_true, reduceCtorEq, isStr, qPutS, putS, powD, CPow, qPut, onOwn, setD, qPutP, onPtr, qDelP, delD, qPutF, setF, qProp, qMeth, qMake, isObj, fldD, minD, maxD, qChain, revD, lrevD, isiD, tyD, qOrT, qAndT, onTru, truD, qJoined, qjCons, qjNil, fmtD, fmt5D, D.int.injEq, D.str.injEq, D.lst.injEq, D.tup.injEq, D.bl.injEq, false_implies, true_implies, ne_eq, not_false_eq_true, not_true_eq_false, forall_const, implies_true, false_and, and_false, exists_eq_left, exists_eq_left', Int.reduceEq, Int.reduceLT, Int.reduceNe, Int.reduceLE, or_false, false_or, or_true, true_or, qLc, qFor, qWhile, allD, sortAD, wipeC, isiS, List.any_cons, List.any_nil, Bool.or_false, Bool.or_true, Bool.true_or, Bool.false_or, Bool.and_self, Bool.false_and, Bool.and_false, Bool.and_true, Bool.true_and, String.reduceBEq, Bool.false_eq_true, Bool.true_eq_false]
  refine ⟨by rw [List.length_map, List.length_map, sizeLine_eq]; omega, ?_⟩
  refine ⟨_, rfl, by decide, fun r r0 r1 => ?_⟩
  refine ⟨_, rfl, by decide, fun b b0 b1 => ?_⟩
  rw [← List.map_append]
  refine doings6 (a := .no) (b := .no) hl hnd hn h0 h1 (fun s hs' => ?_) (by rw [List.length_append]; omega) (by rw [List.length_append]; omega) hQ
  rcases List.mem_append.mp hs' with h | h
  · exact sb s h
  · exact hn s (List.mem_of_mem_take (List.mem_filter.mp h).1)
theorem c__law_doings (G : GE K mg) : Cal P w K mg base "_law_doings" ["_law_store_here", "_law_houses_here", "_law_many", "_law_cap"] 4 sp__law_doings :=
  cal_of G.f__law_doings sc__law_doings (fun _ _ F => F.bindsN fun _ _ _ _ _ _ us hl => match us, hl with | [_, _, _, _], _ => rfl) (fun _ _ _ _ ⟨_, _, e, _⟩ => by rw [e]; rfl) (w__law_doings G (c__law_take G) (c__law_pick G) (c__law_ends G) (c__law_without G) (c__law_names G)) v__law_doings
end Pu.L70
set_option Elab.async false
set_option linter.all false
set_option maxRecDepth 100000
set_option maxHeartbeats 4000000
set_option autoImplicit false
namespace Pu.L70
open PySem PySem.Spec PyProof.Rows L2
variable {P : Program} {w : World} {K : PySem.W.Frag} {mg : Str → Option Value} {base : Heap}
theorem sc__law_like : FnScope ["_law_one", "_law_two", "_law_key", "_law_k"] ["_law_one", "_law_two"] (defScope s__law_like) := ⟨rfl, rfl, rfl, by decide +kernel, rfl, by decide +kernel, by decide +kernel⟩
def q__law_like (sp : Spec) : RS := (qSeq (qIfS (qTest (qUn (isiD ["list", "tuple"]) (qPeek 1))) (qSeq (qIfS (qOr (qTest (qBin neD (qUn (isiD ["list"]) (qPeek 0)) (qUn (isiD ["list"]) (qPeek 1)))) (qTest (qBin neD (qUn (isiD ["tuple"]) (qPeek 0)) (qUn (isiD ["tuple"]) (qPeek 1))))) (qRet (qC (.bl false))) qNext)
  (qRet (qAndV (qBin eqD (qUn lenD (qPeek 0)) (qUn lenD (qPeek 1))) (qBin (inOp true) (qC (.bl false)) (qLc (qRng1 (qUn lenD (qPeek 1))) (gqName 3) qYes (qCall sp (qCons (qBin ixD (qPeek 0) (qPeek 3)) (qCons (qBin ixD (qPeek 1) (qPeek 3)) qNil))) [3]))))) qNext)
  (qSeq (qIfS (qTest (qUn (isiD ["dict"]) (qPeek 1))) (qSeq (qIfS (qOr (qNot (qTest (qUn (isiD ["dict"]) (qPeek 0)))) (qTest (qBin neD (qUn lenD (qPeek 0)) (qUn lenD (qPeek 1))))) (qRet (qC (.bl false))) qNext)
  (qRet (qBin (inOp true) (qC (.bl false)) (qLc (qAny (qUn listD (qPeek 1))) (gqName 2) qYes (qAndV (qBin (inOp false) (qPeek 2) (qPeek 0)) (qCall sp (qCons (qBin ixD (qPeek 0) (qPeek 2)) (qCons (qBin ixD (qPeek 1) (qPeek 2)) qNil)))) [2])))) qNext)
  (qSeq (qIfS (qTest (qBin (isND true) (qPeek 1) (qC .non))) (qRet (qBin (isND true) (qPeek 0) (qC .non))) qNext)
  (qSeq (qIfS (qTest (qUn (isiD ["bool"]) (qPeek 1))) (qRet (qAndV (qUn (isiD ["bool"]) (qPeek 0)) (qBin eqD (qPeek 0) (qPeek 1)))) qNext)
  (qSeq (qIfS (qTest (qUn (isiD ["int"]) (qPeek 1))) (qRet (qAndV (qUn (isiD ["int"]) (qPeek 0)) (qAndV (qNotV (qUn (isiD ["bool"]) (qPeek 0))) (qBin eqD (qPeek 0) (qPeek 1))))) qNext)
  (qRet (qAndV (qUn (isiD ["str"]) (qPeek 0)) (qBin eqD (qPeek 0) (qPeek 1)))))))))
theorem w__law_like {sp : Spec} {kk : Nat} (G : GE K mg) (C__law_like : Cal P w K mg base "_law_like" ["_law_one", "_law_two"] kk sp) : WkOk P w K mg base ["_law_one", "_law_two", "_law_key", "_law_k"] "_law_like" s__law_like kk (q__law_like sp) := fun f cdv A outer s H E hr tk => by
  have S := sc__law_like
  unfold q__law_like
  exact (qss_cons (qs_if (qt_val (qe_isi2 "list" "tuple" G.n_isinstance G.n_list G.n_tuple (qk_var 1)).k) (qss_cons (qs_if (qw_or (qt_cmp op_ne ops_ne (qe_isi1 "list" G.n_isinstance G.n_list (qk_var 0)).k (qe_isi1 "list" G.n_isinstance G.n_list (qk_var 1)).k (by rfl)) (qw_or1 (qt_cmp op_ne ops_ne (qe_isi1 "tuple" G.n_isinstance G.n_tuple (qk_var 0)).k (qe_isi1 "tuple" G.n_isinstance G.n_tuple (qk_var 1)).k (by rfl)))).t (qss_one (qs_ret qe_bl)) qss_nil)
    (qss_one (qs_ret (qe_and (qe_cmp op_eq ops_eq (qe_b1 call_lenAll cs_len G.n_len (qk_var 0)).k (qe_b1 call_lenAll cs_len G.n_len (qk_var 1)).k (by rfl)) (qe_one (qe_cmp (op_notInAll hr.u1) ops_in (qe_bl).k ((qn_lc rfl S.nd (qi_rng1 (qe_b1 call_lenAll cs_len G.n_len (qk_var 1)) G.n_range) (L2.blkOk_by (own := [("_law_k", 3)]) (by rfl)) (fun _ _ _ _ _ => (qg_name 3 S.nd)) (fun _ _ _ _ _ => qts_nil) (fun _ _ _ _ _ => (qe_callC (hj := Nat.le_refl _) C__law_like hr takes0 (qa_cons (qe_ix (ix_all hr.u1) ops_ix (qk_var 0) (qk_var 3)) (qa_cons (qe_ix (ix_all hr.u1) ops_ix (qk_var 1) (qk_var 3)) qa_nil)))))).e.k (by rfl))))))) qss_nil)
    (qss_cons (qs_if (qt_val (qe_isi1 "dict" G.n_isinstance G.n_dict (qk_var 1)).k) (qss_cons (qs_if (qw_or (qt_not (qt_val (qe_isi1 "dict" G.n_isinstance G.n_dict (qk_var 0)).k)) (qw_or1 (qt_cmp op_ne ops_ne (qe_b1 call_lenAll cs_len G.n_len (qk_var 0)).k (qe_b1 call_lenAll cs_len G.n_len (qk_var 1)).k (by rfl)))).t (qss_one (qs_ret qe_bl)) qss_nil)
    (qss_one (qs_ret (qe_cmp (op_notInAll hr.u1) ops_in (qe_bl).k ((qn_lc rfl S.nd (qi_any ((qn_t1 call_list_of cn_list G.n_list (qk_var 1))).e) (L2.blkOk_by (own := [("_law_key", 2)]) (by rfl)) (fun _ _ _ _ _ => (qg_name 2 S.nd)) (fun _ _ _ _ _ => qts_nil) (fun _ _ _ _ _ => (qe_and (qe_cmp (op_inAll hr.u1) ops_in (qk_var 2) (qk_var 0) (by rfl)) (qe_one (qe_callC (hj := Nat.le_refl _) C__law_like hr takes0 (qa_cons (qe_ix (ix_all hr.u1) ops_ix (qk_var 0) (qk_var 2)) (qa_cons (qe_ix (ix_all hr.u1) ops_ix (qk_var 1) (qk_var 2)) qa_nil)))))))).e.k (by rfl))))) qss_nil)
    (qss_cons (qs_if (qt_cmp op_isN ops_isN (qk_var 1) (qe_non).k (by rfl)) (qss_one (qs_ret (qe_cmp op_isN ops_isN (qk_var 0) (qe_non).k (by rfl)))) qss_nil)
    (qss_cons (qs_if (qt_val (qe_isi1 "bool" G.n_isinstance G.n_bool (qk_var 1)).k) (qss_one (qs_ret (qe_and (qe_isi1 "bool" G.n_isinstance G.n_bool (qk_var 0)) (qe_one (qe_cmp op_eq ops_eq (qk_var 0) (qk_var 1) (by rfl)))))) qss_nil)
    (qss_cons (qs_if (qt_val (qe_isi1 "int" G.n_isinstance G.n_int (qk_var 1)).k) (qss_one (qs_ret (qe_and (qe_isi1 "int" G.n_isinstance G.n_int (qk_var 0)) (qe_and (qe_not (qe_isi1 "bool" G.n_isinstance G.n_bool (qk_var 0))) (qe_one (qe_cmp op_eq ops_eq (qk_var 0) (qk_var 1) (by rfl))))))) qss_nil)
    (qss_one (qs_ret (qe_and (qe_isi1 "str" G.n_isinstance G.n_str (qk_var 0)) (qe_one (qe_cmp op_eq ops_eq (qk_var 0) (qk_var 1) (by rfl)))))))))))
def subs : D → List D
  | .lst xs => xs
  | .tup xs => xs
  | _ => []
def lvl : D → Prop
  | .lst xs => xs.length ≤ 100000
  | .tup xs => xs.length ≤ 100000
  | .int _ => True
  | .str _ => True
  | .bl _ => True
  | .non => True
  | _ => False
theorem in_trues (n : Nat) : inD (.bl false) (.lst (List.replicate n (.bl true))) = some false := by
  show (if (flatD (.bl false) && (List.replicate n (D.bl true)).all flatD) = true then some ((List.replicate n (D.bl true)).any fun y => eqF y (.bl false)) else none) = some false
  have h1 : (List.replicate n (D.bl true)).all flatD = true := List.all_eq_true.mpr fun x hx => by rw [List.eq_of_mem_replicate hx]; rfl
  have h2 : ((List.replicate n (D.bl true)).any fun y => eqF y (.bl false)) = false := by
    rw [Bool.eq_false_iff, ne_eq, List.any_eq_true]
    rintro ⟨x, hx, e⟩
    rw [List.eq_of_mem_replicate hx] at e
    exact absurd e (by decide)
  rw [h1, h2]
  rfl
theorem v_like {sp : Spec} {d : D} {h : PHp} {Qp : D → PHp → Prop} {Ep : XP} (hd : lvl d) (hs : ∀ x ∈ subs d, ∀ h Q Ex, Q (.bl true) h → sp [x, x] h Q Ex) (hQ : Qp (.bl true) h) : q__law_like sp (PE0 Qp Ep) (startC 4 [d, d]) h := by
  cases d with
  | int i =>
    simp only [q__law_like, startC, qVar, qPeek, qC, qBin, qUn, qNil, qCons, qTup, qLst, qCall, asB, qTest, qAnd, qOr, qNot, qAndV, qOrV, qNotV, qIfE, deref, qNext, qSeq, qSet, qSetN, qSetP, qRet, qRetN, qDrop, qIfS, qFreeze, qApp, onOwnL, qAsg, gqName, gqNil, gqCons, gqTup, qM1, qRng1, qEnum, qAny, asI, asL, itemsD, qPart, qNoPart, qCut, cutD, qCutL, cutLD, addD, subD, mulD, modD, fdivD, eqD, neD, eqS, onB, ltD, leD, gtD, geD, isND, lenD, intD, strD, ordD, listD, tupleD, ixD, PEnds.at, wipeC, qYes,
    List.map_cons, List.map_nil, List.replicate, List.cons_append, List.nil_append, List.append_assoc, List.getElem?_cons_zero, List.getElem?_cons_succ, List.set_cons_zero, List.set_cons_succ, List.length_cons, List.length_nil, Option.map_some, if_true, if_false, Bool.not_true, Bool.not_false, decide_eq_true_eq, Bool.not_eq_true', decide_eq_false_iff_not, Nat.reduceAdd, Nat.reduceSub, List.replicate_succ, List.replicate_zero, true_and, and_true, reduceCtorEq, isStr, qPutS, putS, powD, CPow, qPut, onOwn, setD, qPutP, onPtr, qDelP, delD, qPutF, setF, qProp, qMeth, qMake, isObj, fldD, minD, maxD, qChain, revD, lrevD, isiD, tyD, qOrT, qAndT, onTru, truD, qJoined, qjCons, qjNil, fmtD, fmt5D, D.int.injEq, D.str.injEq, D.lst.injEq, D.tup.injEq, D.bl.injEq, false_implies, true_implies, ne_eq, not_false_eq_true, not_true_eq_false, forall_const, implies_true, false_and, and_false, exists_eq_left, exists_eq_left', Int.reduceEq, Int.reduceLT, Int.reduceNe, Int.reduceLE, or_false, false_or, or_true, true_or, qLc, qFor, qWhile, allD, sortAD, wipeC, isiS, List.any_cons, List.any_nil, Bool.or_false, Bool.or_true, Bool.true_or, Bool.false_or, Bool.and_self, Bool.false_and, Bool.and_false, Bool.and_true, Bool.true_and, String.reduceBEq, Bool.false_eq_true, Bool.true_eq_false]
    exact hQ
  | str i =>
    simp only [q__law_like, startC, qVar, qPeek, qC, qBin, qUn, qNil, qCons, qTup, qLst, qCall, asB, qTest, qAnd, qOr, qNot, qAndV, qOrV, qNotV, qIfE, deref, qNext, qSeq, qSet, qSetN, qSetP, qRet, qRetN, qDrop, qIfS, qFreeze, qApp, onOwnL, qAsg, gqName, gqNil, gqCons, gqTup, qM1, qRng1, qEnum, qAny, asI, asL, itemsD, qPart, qNoPart, qCut, cutD, qCutL, cutLD, addD, subD, mulD, modD, fdivD, eqD, neD, eqS, onB, ltD, leD, gtD, geD, isND, lenD, intD, strD, ordD, listD, tupleD, ixD, PEnds.at, wipeC, qYes,
    List.map_cons, List.map_nil, List.replicate, List.cons_append, List.nil_append, List.append_assoc, List.getElem?_cons_zero, List.getElem?_cons_succ, List.set_cons_zero, List.set_cons_succ, List.length_cons, List.length_nil, Option.map_some, if_true, if_false, Bool.not_true, Bool.not_false, decide_eq_true_eq, Bool.not_eq_true', decide_eq_false_iff_not, Nat.reduceAdd, Nat.reduceSub, List.replicate_succ, List.replicate_zero, true_and, and_true, reduceCtorEq, isStr, qPutS, putS, powD, CPow, qPut, onOwn, setD, qPutP, onPtr, qDelP, delD, qPutF, setF, qProp, qMeth, qMake, isObj, fldD, minD, maxD, qChain, revD, lrevD, isiD, tyD, qOrT, qAndT, onTru, truD, qJoined, qjCons, qjNil, fmtD, fmt5D, D.int.injEq, D.str.injEq, D.lst.injEq, D.tup.injEq, D.bl.injEq, false_implies, true_implies, ne_eq, not_false_eq_true, not_true_eq_false, forall_const, implies_true, false_and, and_false, exists_eq_left, exists_eq_left', Int.reduceEq, Int.reduceLT, Int.reduceNe, Int.reduceLE, or_false, false_or, or_true, true_or, qLc, qFor, qWhile, allD, sortAD, wipeC, isiS, List.any_cons, List.any_nil, Bool.or_false, Bool.or_true, Bool.true_or, Bool.false_or, Bool.and_self, Bool.false_and, Bool.and_false, Bool.and_true, Bool.true_and, String.reduceBEq, Bool.false_eq_true, Bool.true_eq_false]
    exact hQ
  | bl i =>
    simp only [q__law_like, startC, qVar, qPeek, qC, qBin, qUn, qNil, qCons, qTup, qLst, qCall, asB, qTest, qAnd, qOr, qNot, qAndV, qOrV, qNotV, qIfE, deref, qNext, qSeq, qSet, qSetN, qSetP, qRet, qRetN, qDrop, qIfS, qFreeze, qApp, onOwnL, qAsg, gqName, gqNil, gqCons, gqTup, qM1, qRng1, qEnum, qAny, asI, asL, itemsD, qPart, qNoPart, qCut, cutD, qCutL, cutLD, addD, subD, mulD, modD, fdivD, eqD, neD, eqS, onB, ltD, leD, gtD, geD, isND, lenD, intD, strD, ordD, listD, tupleD, ixD, PEnds.at, wipeC, qYes,
    List.map_cons, List.map_nil, List.replicate, List.cons_append, List.nil_append, List.append_assoc, List.getElem?_cons_zero, List.getElem?_cons_succ, List.set_cons_zero, List.set_cons_succ, List.length_cons, List.length_nil, Option.map_some, if_true, if_false, Bool.not_true, Bool.not_false, decide_eq_true_eq, Bool.not_eq_true', decide_eq_false_iff_not, Nat.reduceAdd, Nat.reduceSub, List.replicate_succ, List.replicate_zero, true_and, and_true, reduceCtorEq, isStr, qPutS, putS, powD, CPow, qPut, onOwn, setD, qPutP, onPtr, qDelP, delD, qPutF, setF, qProp, qMeth, qMake, isObj, fldD, minD, maxD, qChain, revD, lrevD, isiD, tyD, qOrT, qAndT, onTru, truD, qJoined, qjCons, qjNil, fmtD, fmt5D, D.int.injEq, D.str.injEq, D.lst.injEq, D.tup.injEq, D.bl.injEq, false_implies, true_implies, ne_eq, not_false_eq_true, not_true_eq_false, forall_const, implies_true, false_and, and_false, exists_eq_left, exists_eq_left', Int.reduceEq, Int.reduceLT, Int.reduceNe, Int.reduceLE, or_false, false_or, or_true, true_or, qLc, qFor, qWhile, allD, sortAD, wipeC, isiS, List.any_cons, List.any_nil, Bool.or_false, Bool.or_true, Bool.true_or, Bool.false_or, Bool.and_self, Bool.false_and, Bool.and_false, Bool.and_true, Bool.true_and, String.reduceBEq, Bool.false_eq_true, Bool.true_eq_false]
    exact hQ
  | non =>
    simp only [q__law_like, startC, qVar, qPeek, qC, qBin, qUn, qNil, qCons, qTup, qLst, qCall, asB, qTest, qAnd, qOr, qNot, qAndV, qOrV, qNotV, qIfE, deref, qNext, qSeq, qSet, qSetN, qSetP, qRet, qRetN, qDrop, qIfS, qFreeze, qApp, onOwnL, qAsg, gqName, gqNil, gqCons, gqTup, qM1, qRng1, qEnum, qAny, asI, asL, itemsD, qPart, qNoPart, qCut, cutD, qCutL, cutLD, addD, subD, mulD, modD, fdivD, eqD, neD, eqS, onB, ltD, leD, gtD, geD, isND, lenD, intD, strD, ordD, listD, tupleD, ixD, PEnds.at, wipeC, qYes,
    List.map_cons, List.map_nil, List.replicate, List.cons_append, List.nil_append, List.append_assoc, List.getElem?_cons_zero, List.getElem?_cons_succ, List.set_cons_zero, List.set_cons_succ, List.length_cons, List.length_nil, Option.map_some, if_true, if_false, Bool.not_true, Bool.not_false, decide_eq_true_eq, Bool.not_eq_true', decide_eq_false_iff_not, Nat.reduceAdd, Nat.reduceSub, List.replicate_succ, List.replicate_zero, true_and, and_true, reduceCtorEq, isStr, qPutS, putS, powD, CPow, qPut, onOwn, setD, qPutP, onPtr, qDelP, delD, qPutF, setF, qProp, qMeth, qMake, isObj, fldD, minD, maxD, qChain, revD, lrevD, isiD, tyD, qOrT, qAndT, onTru, truD, qJoined, qjCons, qjNil, fmtD, fmt5D, D.int.injEq, D.str.injEq, D.lst.injEq, D.tup.injEq, D.bl.injEq, false_implies, true_implies, ne_eq, not_false_eq_true, not_true_eq_false, forall_const, implies_true, false_and, and_false, exists_eq_left, exists_eq_left', Int.reduceEq, Int.reduceLT, Int.reduceNe, Int.reduceLE, or_false, false_or, or_true, true_or, qLc, qFor, qWhile, allD, sortAD, wipeC, isiS, List.any_cons, List.any_nil, Bool.or_false, Bool.or_true, Bool.true_or, Bool.false_or, Bool.and_self, Bool.false_and, Bool.and_false, Bool.and_true, Bool.true_and, String.reduceBEq, Bool.false_eq_true, Bool.true_eq_false]
    exact hQ
  | lst xs =>
    have hl : xs.length ≤ 100000 := hd
    simp only [q__law_like, startC, qVar, qPeek, qC, qBin, qUn, qNil, qCons, qTup, qLst, qCall, asB, qTest, qAnd, qOr, qNot, qAndV, qOrV, qNotV, qIfE, deref, qNext, qSeq, qSet, qSetN, qSetP, qRet, qRetN, qDrop, qIfS, qFreeze, qApp, onOwnL, qAsg, gqName, gqNil, gqCons, gqTup, qM1, qRng1, qEnum, qAny, asI, asL, itemsD, qPart, qNoPart, qCut, cutD, qCutL, cutLD, addD, subD, mulD, modD, fdivD, eqD, neD, eqS, onB, ltD, leD, gtD, geD, isND, lenD, intD, strD, ordD, listD, tupleD, ixD, PEnds.at, wipeC, qYes,
    List.map_cons, List.map_nil, List.replicate, List.cons_append, List.nil_append, List.append_assoc, List.getElem?_cons_zero, List.getElem?_cons_succ, List.set_cons_zero, List.set_cons_succ, List.length_cons, List.length_nil, Option.map_some, if_true, if_false, Bool.not_true, Bool.not_false, decide_eq_true_eq, Bool.not_eq_true', decide_eq_false_iff_not, Nat.reduceAdd, Nat.reduceSub, List.replicate_succ, List.replicate_zero, true_and, and_true, reduceCtorEq, isStr, qPutS, putS, powD, CPow, qPut, onOwn, setD, qPutP, onPtr, qDelP, delD, qPutF, setF, qProp, qMeth, qMake, isObj, fldD, minD, maxD, qChain, revD, lrevD, isiD, tyD, qOrT, qAndT, onTru, truD, qJoined, qjCons, qjNil, fmtD, fmt5D, D.int.injEq, D.str.injEq, D.lst.injEq, D.tup.injEq, D.bl.injEq, false_implies, true_implies, ne_eq, not_false_eq_true, not_true_eq_false, forall_const, implies_true, false_and, and_false, exists_eq_left, exists_eq_left', Int.reduceEq, Int.reduceLT, Int.reduceNe, Int.reduceLE, or_false, false_or, or_true, true_or, qLc, qFor, qWhile, allD, sortAD, wipeC, isiS, List.any_cons, List.any_nil, Bool.or_false, Bool.or_true, Bool.true_or, Bool.false_or, Bool.and_self, Bool.false_and, Bool.and_false, Bool.and_true, Bool.true_and, String.reduceBEq, Bool.false_eq_true, Bool.true_eq_false]
    rw [Int.toNat_natCast]
    refine ⟨by omega, by omega, lcK_i (fun i acc h' => h' = h ∧ acc = List.replicate i (.bl true)) ⟨rfl, rfl⟩ ?_ ?_⟩
    · rintro i d acc h' hdd ⟨rfl, rfl⟩
      obtain ⟨rfl, hi⟩ := rng_get hdd
      have hx := List.getElem?_eq_getElem hi
      simp only [startC, qVar, qPeek, qC, qBin, qUn, qNil, qCons, qTup, qLst, qCall, asB, qTest, qAnd, qOr, qNot, qAndV, qOrV, qNotV, qIfE, deref, qNext, qSeq, qSet, qSetN, qSetP, qRet, qRetN, qDrop, qIfS, qFreeze, qApp, onOwnL, qAsg, gqName, gqNil, gqCons, gqTup, qM1, qRng1, qEnum, qAny, asI, asL, itemsD, qPart, qNoPart, qCut, cutD, qCutL, cutLD, addD, subD, mulD, modD, fdivD, eqD, neD, eqS, onB, ltD, leD, gtD, geD, isND, lenD, intD, strD, ordD, listD, tupleD, ixD, PEnds.at, wipeC, qYes,
    List.map_cons, List.map_nil, List.replicate, List.cons_append, List.nil_append, List.append_assoc, List.getElem?_cons_zero, List.getElem?_cons_succ, List.set_cons_zero, List.set_cons_succ, List.length_cons, List.length_nil, Option.map_some, if_true, if_false, Bool.not_true, Bool.not_false, decide_eq_true_eq, Bool.not_eq_true', decide_eq_false_iff_not, Nat.reduceAdd, Nat.reduceSub, List.replicate_succ, List.replicate_zero, true_and, and_true, reduceCtorEq, isStr, qPutS, putS, powD, CPow, qPut, onOwn, setD, qPutP, onPtr, qDelP, delD, qPutF, setF, qProp, qMeth, qMake, isObj, fldD, minD, maxD, qChain, revD, lrevD, isiD, tyD, qOrT, qAndT, onTru, truD, qJoined, qjCons, qjNil, fmtD, fmt5D, D.int.injEq, D.str.injEq, D.lst.injEq, D.tup.injEq, D.bl.injEq, false_implies, true_implies, ne_eq, not_false_eq_true, not_true_eq_false, forall_const, implies_true, false_and, and_false, exists_eq_left, exists_eq_left', Int.reduceEq, Int.reduceLT, Int.reduceNe, Int.reduceLE, or_false, false_or, or_true, true_or, qLc, qFor, qWhile, allD, sortAD, wipeC, isiS, List.any_cons, List.any_nil, Bool.or_false, Bool.or_true, Bool.true_or, Bool.false_or, Bool.and_self, Bool.false_and, Bool.and_false, Bool.and_true, Bool.true_and, String.reduceBEq, Bool.false_eq_true, Bool.true_eq_false]
      refine ⟨_, atI_nat hx, _, atI_nat hx, ?_⟩
      refine hs _ (List.getElem_mem hi) _ _ _ ⟨by rw [List.length_replicate, sizeLine_eq]; omega, rfl, ?_⟩
      exact (List.replicate_succ').symm
    · rintro acc h' ⟨rfl, rfl⟩
      rw [rng_len]
      simp only [startC, qVar, qPeek, qC, qBin, qUn, qNil, qCons, qTup, qLst, qCall, asB, qTest, qAnd, qOr, qNot, qAndV, qOrV, qNotV, qIfE, deref, qNext, qSeq, qSet, qSetN, qSetP, qRet, qRetN, qDrop, qIfS, qFreeze, qApp, onOwnL, qAsg, gqName, gqNil, gqCons, gqTup, qM1, qRng1, qEnum, qAny, asI, asL, itemsD, qPart, qNoPart, qCut, cutD, qCutL, cutLD, addD, subD, mulD, modD, fdivD, eqD, neD, eqS, onB, ltD, leD, gtD, geD, isND, lenD, intD, strD, ordD, listD, tupleD, ixD, PEnds.at, wipeC, qYes,
    List.map_cons, List.map_nil, List.replicate, List.cons_append, List.nil_append, List.append_assoc, List.getElem?_cons_zero, List.getElem?_cons_succ, List.set_cons_zero, List.set_cons_succ, List.length_cons, List.length_nil, Option.map_some, if_true, if_false, Bool.not_true, Bool.not_false, decide_eq_true_eq, Bool.not_eq_true', decide_eq_false_iff_not, Nat.reduceAdd, Nat.reduceSub, List.replicate_succ, List.replicate_zero, true_and, and_true, reduceCtorEq, isStr, qPutS, putS, powD, CPow, qPut, onOwn, setD, qPutP, onPtr, qDelP, delD, qPutF, setF, qProp, qMeth, qMake, isObj, fldD, minD, maxD, qChain, revD, lrevD, isiD, tyD, qOrT, qAndT, onTru, truD, qJoined, qjCons, qjNil, fmtD, fmt5D, D.int.injEq, D.str.injEq, D.lst.injEq, D.tup.injEq, D.bl.injEq, false_implies, true_implies, ne_eq, not_false_eq_true, not_true_eq_false, forall_const, implies_true, false_and, and_false, exists_eq_left, exists_eq_left', Int.reduceEq, Int.reduceLT, Int.reduceNe, Int.reduceLE, or_false, false_or, or_true, true_or, qLc, qFor, qWhile, allD, sortAD, wipeC, isiS, List.any_cons, List.any_nil, Bool.or_false, Bool.or_true, Bool.true_or, Bool.false_or, Bool.and_self, Bool.false_and, Bool.and_false, Bool.and_true, Bool.true_and, String.reduceBEq, Bool.false_eq_true, Bool.true_eq_false, inOp, in_trues]
      exact hQ
  | tup xs =>
    have hl : xs.length ≤ 100000 := hd
    simp only [q__law_like, startC, qVar, qPeek, qC, qBin, qUn, qNil, qCons, qTup, qLst, qCall, asB, qTest, qAnd, qOr, qNot, qAndV, qOrV, qNotV, qIfE, deref, qNext, qSeq, qSet, qSetN, qSetP, qRet, qRetN, qDrop, qIfS, qFreeze, qApp, onOwnL, qAsg, gqName, gqNil, gqCons, gqTup, qM1, qRng1, qEnum, qAny, asI, asL, itemsD, qPart, qNoPart, qCut, cutD, qCutL, cutLD, addD, subD, mulD, modD, fdivD, eqD, neD, eqS, onB, ltD, leD, gtD, geD, isND, lenD, intD, strD, ordD, listD, tupleD, ixD, PEnds.at, wipeC, qYes,
    List.map_cons, List.map_nil, List.replicate, List.cons_append, List.nil_append, List.append_assoc, List.getElem?_cons_zero, List.getElem?_cons_succ, List.set_cons_zero, List.set_cons_succ, List.length_cons, List.length_nil, Option.map_some, if_true, if_false, Bool.not_true, Bool.not_false, decide_eq_true_eq, Bool.not_eq_true', decide_eq_false_iff_not, Nat.reduceAdd, Nat.reduceSub, List.replicate_succ, List.replicate_zero, true_and, and_true, reduceCtorEq, isStr, qPutS, putS, powD, CPow, qPut, onOwn, setD, qPutP, onPtr, qDelP, delD, qPutF, setF, qProp, qMeth, qMake, isObj, fldD, minD, maxD, qChain, revD, lrevD, isiD, tyD, qOrT, qAndT, onTru, truD, qJoined, qjCons, qjNil, fmtD, fmt5D, D.int.injEq, D.str.injEq, D.lst.injEq, D.tup.injEq, D.bl.injEq, false_implies, true_implies, ne_eq, not_false_eq_true, not_true_eq_false, forall_const, implies_true, false_and, and_false, exists_eq_left, exists_eq_left', Int.reduceEq, Int.reduceLT, Int.reduceNe, Int.reduceLE, or_false, false_or, or_true, true_or, qLc, qFor, qWhile, allD, sortAD, wipeC, isiS, List.any_cons, List.any_nil, Bool.or_false, Bool.or_true, Bool.true_or, Bool.false_or, Bool.and_self, Bool.false_and, Bool.and_false, Bool.and_true, Bool.true_and, String.reduceBEq, Bool.false_eq_true, Bool.true_eq_false]
    rw [Int.toNat_natCast]
    refine ⟨by omega, by omega, lcK_i (fun i acc h' => h' = h ∧ acc = List.replicate i (.bl true)) ⟨rfl, rfl⟩ ?_ ?_⟩
    · rintro i d acc h' hdd ⟨rfl, rfl⟩
      obtain ⟨rfl, hi⟩ := rng_get hdd
      have hx := List.getElem?_eq_getElem hi
      simp only [startC, qVar, qPeek, qC, qBin, qUn, qNil, qCons, qTup, qLst, qCall, asB, qTest, qAnd, qOr, qNot, qAndV, qOrV, qNotV, qIfE, deref, qNext, qSeq, qSet, qSetN, qSetP, qRet, qRetN, qDrop, qIfS, qFreeze, qApp, onOwnL, qAsg, gqName, gqNil, gqCons, gqTup, qM1, qRng1, qEnum, qAny, asI, asL, itemsD, qPart, qNoPart, qCut, cutD, qCutL, cutLD, addD, subD, mulD, modD, fdivD, eqD, neD, eqS, onB, ltD, leD, gtD, geD, isND, lenD, intD, strD, ordD, listD, tupleD, ixD, PEnds.at, wipeC, qYes,
    List.map_cons, List.map_nil, List.replicate, List.cons_append, List.nil_append, List.append_assoc, List.getElem?_cons_zero, List.getElem?_cons_succ, List.set_cons_zero, List.set_cons_succ, List.length_cons, List.length_nil, Option.map_some, if_true, if_false, Bool.not_true, Bool.not_false, decide_eq_true_eq, Bool.not_eq_true', decide_eq_false_iff_not, Nat.reduceAdd, Nat.reduceSub, List.replicate_succ, List.replicate_zero, true_and, and_true, reduceCtorEq, isStr, qPutS, putS, powD, CPow, qPut, onOwn, setD, qPutP, onPtr, qDelP, delD, qPutF, setF, qProp, qMeth, qMake, isObj, fldD, minD, maxD, qChain, revD, lrevD, isiD, tyD, qOrT, qAndT, onTru, truD, qJoined, qjCons, qjNil, fmtD, fmt5D, D.int.injEq, D.str.injEq, D.lst.injEq, D.tup.injEq, D.bl.injEq, false_implies, true_implies, ne_eq, not_false_eq_true, not_true_eq_false, forall_const, implies_true, false_and, and_false, exists_eq_left, exists_eq_left', Int.reduceEq, Int.reduceLT, Int.reduceNe, Int.reduceLE, or_false, false_or, or_true, true_or, qLc, qFor, qWhile, allD, sortAD, wipeC, isiS, List.any_cons, List.any_nil, Bool.or_false, Bool.or_true, Bool.true_or, Bool.false_or, Bool.and_self, Bool.false_and, Bool.and_false, Bool.and_true, Bool.true_and, String.reduceBEq, Bool.false_eq_true, Bool.true_eq_false]
      refine ⟨_, atI_nat hx, _, atI_nat hx, ?_⟩
      refine hs _ (List.getElem_mem hi) _ _ _ ⟨by rw [List.length_replicate, sizeLine_eq]; omega, rfl, ?_⟩
      exact (List.replicate_succ').symm
    · rintro acc h' ⟨rfl, rfl⟩
      rw [rng_len]
      simp only [startC, qVar, qPeek, qC, qBin, qUn, qNil, qCons, qTup, qLst, qCall, asB, qTest, qAnd, qOr, qNot, qAndV, qOrV, qNotV, qIfE, deref, qNext, qSeq, qSet, qSetN, qSetP, qRet, qRetN, qDrop, qIfS, qFreeze, qApp, onOwnL, qAsg, gqName, gqNil, gqCons, gqTup, qM1, qRng1, qEnum, qAny, asI, asL, itemsD, qPart, qNoPart, qCut, cutD, qCutL, cutLD, addD, subD, mulD, modD, fdivD, eqD, neD, eqS, onB, ltD, leD, gtD, geD, isND, lenD, intD, strD, ordD, listD, tupleD, ixD, PEnds.at, wipeC, qYes,
    List.map_cons, List.map_nil, List.replicate, List.cons_append, List.nil_append, List.append_assoc, List.getElem?_cons_zero, List.getElem?_cons_succ, List.set_cons_zero, List.set_cons_succ, List.length_cons, List.length_nil, Option.map_some, if_true, if_false, Bool.not_true, Bool.not_false, decide_eq_true_eq, Bool.not_eq_true', decide_eq_false_iff_not, Nat.reduceAdd, Nat.reduceSub, List.replicate_succ, List.replicate_zero, true_and, and_true, reduceCtorEq, isStr, qPutS, putS, powD, CPow, qPut, onOwn, setD, qPutP, onPtr, qDelP, delD, qPutF, setF, qProp, qMeth, qMake, isObj, fldD, minD, maxD, qChain, revD, lrevD, isiD, tyD, qOrT, qAndT, onTru, truD, qJoined, qjCons, qjNil, fmtD, fmt5D, D.int.injEq, D.str.injEq, D.lst.injEq, D.tup.injEq, D.bl.injEq, false_implies, true_implies, ne_eq, not_false_eq_true, not_true_eq_false, forall_const, implies_true, false_and, and_false, exists_eq_left, exists_eq_left', Int.reduceEq, Int.reduceLT, Int.reduceNe, Int.reduceLE, or_false, false_or, or_true, true_or, qLc, qFor, qWhile, allD, sortAD, wipeC, isiS, List.any_cons, List.any_nil, Bool.or_false, Bool.or_true, Bool.true_or, Bool.false_or, Bool.and_self, Bool.false_and, Bool.and_false, Bool.and_true, Bool.true_and, String.reduceBEq, Bool.false_eq_true, Bool.true_eq_false, inOp, in_trues]
      exact hQ
  | _ => exact hd.elim
def plainD : Nat → D → Prop
  | 0, d => lvl d ∧ subs d = []
  | n + 1, d => lvl d ∧ ∀ x ∈ subs d, plainD n x
def sp_like (n : Nat) : Spec := fun ds h Q Ex => ∃ (d : D), ds = [d, d] ∧ plainD n d ∧ Q (.bl true) h
theorem cal_no {x : Str} {st : Stmt} {ps : List Str} (D : GD K mg x st) (hb : ∀ f fd, FunD K x x (defArgs st) (defBody st) (defScope st) [] [] f fd → Binds K fd ps []) : Cal P w K mg base x ps 0 (fun _ _ _ _ => False) := by
  obtain ⟨f, fd, h1, F⟩ := D
  refine ⟨f, fd, h1, F.kp, hb f fd F, ⟨fun vs H Q E h => ?_, fun A outer s H args us vs Q E _ _ _ _ h => ?_⟩⟩
  · obtain ⟨_, _, _, _, _, _, _, z, _⟩ := h
    exact z.elim
  · obtain ⟨_, _, _, _, _, _, _, z, _⟩ := h
    exact z.elim
theorem c_like (G : GE K mg) : ∀ n, Cal P w K mg base "_law_like" ["_law_one", "_law_two"] (n + 1) (sp_like n)
  | 0 => cal_of G.f__law_like sc__law_like (fun _ _ F => F.bindsN fun _ _ _ _ _ _ us hl => match us, hl with | [_, _], _ => rfl) (fun _ _ _ _ ⟨_, e, _⟩ => by rw [e]; rfl) (w__law_like G (cal_no G.f__law_like (fun _ _ F => F.bindsN fun _ _ _ _ _ _ us hl => match us, hl with | [_, _], _ => rfl))) fun ds h Qp Ep ⟨d, e, hp, hQ⟩ => by
    subst e
    exact v_like hp.1 (fun x hx => by rw [hp.2] at hx; cases hx) hQ
  | n + 1 => cal_of G.f__law_like sc__law_like (fun _ _ F => F.bindsN fun _ _ _ _ _ _ us hl => match us, hl with | [_, _], _ => rfl) (fun _ _ _ _ ⟨_, e, _⟩ => by rw [e]; rfl) (w__law_like G (c_like G n)) fun ds h Qp Ep ⟨d, e, hp, hQ⟩ => by
    subst e
    exact v_like hp.1 (fun x hx h Q Ex hq => ⟨x, rfl, hp.2 x hx, hq⟩) hQ
abbrev sp__law_like : Spec := sp_like 5
theorem c__law_like (G : GE K mg) : Cal P w K mg base "_law_like" ["_law_one", "_law_two"] 6 sp__law_like := c_like G 5
end Pu.L70
set_option Elab.async false
set_option linter.all false
set_option maxRecDepth 100000
set_option maxHeartbeats 4000000
set_option autoImplicit false
namespace Pu.L70
open PySem PySem.Spec PyProof.Rows L2
variable {P : Program} {w : World} {K : PySem.W.Frag} {mg : Str → Option Value} {base : Heap}
def sp__law_sums : Spec := fun ds h Q Ex => ds = [.sto] ∧ Q (.bl true) h
theorem sc__law_sums : FnScope ["_law_store_here", "_law_text_here", "_law_at", "_law_sign", "_law_bent", "_law_due", "_law_more"] ["_law_store_here"] (defScope s__law_sums) := ⟨rfl, rfl, rfl, by decide +kernel, rfl, by decide +kernel, by decide +kernel⟩
def q__law_sums__4 : RS := (qSeq (qSet 4 (qBin addD (qBin addD (qCut (qPeek 1) qNoPart (qPart (qVar 2))) (qPeek 3)) (qCut (qPeek 1) (qPart (qBin addD (qPeek 2) (qC (.int 1)))) qNoPart)))
  (qSeq (qSet 5 (qCall sp__law_due_sum (qCons (qVar 1) qNil)))
  (qSeq (qIfS (qOr (qNot (qTest (qCall sp__law_like (qCons (qCall sp_record_sum (qCons (qVar 1) qNil)) (qCons (qVar 5) qNil))))) (qNot (qTest (qCall sp__law_like (qCons (qCall sp_record_sum (qCons (qVar 4) qNil)) (qCons (qCall sp__law_due_sum (qCons (qVar 4) qNil)) qNil)))))) (qRet (qC (.bl false))) qNext)
  (qSeq (qSet 6 (qBin addD (qCut (qPeek 1) qNoPart (qPart (qC (.int 19999)))) (qPeek 3)))
  (qRet (qCall sp__law_like (qCons (qLst (qCons (qCall sp_record_sum (qCons (qVar 6) qNil)) (qCons (qCall sp_record_sum (qCons (qVar 1) qNil)) (qCons (qCall sp_record_sum (qCons (qC (.str (Str.ofString ""))) qNil)) qNil)))) (qCons (qLst (qCons (qCall sp__law_due_sum (qCons (qVar 6) qNil)) (qCons (qVar 5) (qCons (qC (.int 7)) qNil)))) qNil))))))))
def q__law_sums__2 : RS := (qSeq (qSet 2 (qCall sp__law_take (qCons (qVar 0) (qCons (qUn lenD (qPeek 1)) qNil))))
  (qSeq (qSet 3 (qOrT (qCall sp__law_text (qCons (qVar 0) (qCons (qC (.int 1)) qNil))) (qC (.str (Str.ofString " ")))))
  q__law_sums__4))
def q__law_sums : RS := (qSeq (qSet 1 (qCall sp__law_text (qCons (qVar 0) (qCons (qC (.int 200)) qNil))))
  (qSeq (qIfS (qTest (qBin eqD (qCall sp__law_take (qCons (qVar 0) (qCons (qC (.int 30)) qNil))) (qC (.int 1)))) (qSet 1 (qBin mulD (qOrT (qCall sp__law_text (qCons (qVar 0) (qCons (qC (.int 1)) qNil))) (qC (.str (Str.ofString "z")))) (qC (.int 20000)))) qNext)
  q__law_sums__2))
theorem w__law_sums (G : GE K mg) (C__law_like : Cal P w K mg base "_law_like" ["_law_one", "_law_two"] 6 sp__law_like) (C__law_due_sum : Cal P w K mg base "_law_due_sum" ["_law_text_here"] 1 sp__law_due_sum) (C_record_sum : Cal P w K mg base "record_sum" ["text"] 1 sp_record_sum) (C__law_text : Cal P w K mg base "_law_text" ["_law_store_here", "_law_most"] 3 sp__law_text) (C__law_take : Cal P w K mg base "_law_take" ["_law_store_here", "_law_many"] 1 sp__law_take) : WkOk P w K mg base ["_law_store_here", "_law_text_here", "_law_at", "_law_sign", "_law_bent", "_law_due", "_law_more"] "_law_sums" s__law_sums 6 q__law_sums := fun f cdv A outer s H E hr tk => by
  have S := sc__law_sums
  unfold q__law_sums q__law_sums__2 q__law_sums__4
  exact (qss_cons (qs_set 1 (qe_callC C__law_text hr tk (qa_cons (qe_var 0) (qa_cons qe_int qa_nil))) S.nd)
    (qss_cons (qs_if (qt_cmp op_eq ops_eq (qe_callC C__law_take hr tk (qa_cons (qe_var 0) (qa_cons qe_int qa_nil))).k (qe_int).k (by rfl)) (qss_one (qs_set 1 (qe_bin op_mulAll ops_mul (qe_orT (qe_callC C__law_text hr tk (qa_cons (qe_var 0) (qa_cons qe_int qa_nil))) (qe_one qe_str)).k (qe_int).k) S.nd)) qss_nil)
    (qss_cons (qs_set 2 (qe_callC C__law_take hr tk (qa_cons (qe_var 0) (qa_cons (qe_b1 call_lenAll cs_len G.n_len (qk_var 1)) qa_nil))) S.nd)
    (qss_cons (qs_set 3 (qe_orT (qe_callC C__law_text hr tk (qa_cons (qe_var 0) (qa_cons qe_int qa_nil))) (qe_one qe_str)) S.nd)
    (qss_cons (qs_set 4 (qe_bin op_addAll ops_add (qe_bin op_addAll ops_add (qe_cut (qk_var 1) qo_none (qo_some (qe_var 2))).k (qk_var 3)).k (qe_cut (qk_var 1) (qo_some (qe_bin op_addAll ops_add (qk_var 2) (qe_int).k)) qo_none).k) S.nd)
    (qss_cons (qs_set 5 (qe_callC C__law_due_sum hr tk (qa_cons (qe_var 1) qa_nil)) S.nd)
    (qss_cons (qs_if (qw_or (qt_not (qt_val (qe_callC C__law_like hr tk (qa_cons (qe_callC C_record_sum hr tk (qa_cons (qe_var 1) qa_nil)) (qa_cons (qe_var 5) qa_nil))).k)) (qw_or1 (qt_not (qt_val (qe_callC C__law_like hr tk (qa_cons (qe_callC C_record_sum hr tk (qa_cons (qe_var 4) qa_nil)) (qa_cons (qe_callC C__law_due_sum hr tk (qa_cons (qe_var 4) qa_nil)) qa_nil))).k)))).t (qss_one (qs_ret qe_bl)) qss_nil)
    (qss_cons (qs_set 6 (qe_bin op_addAll ops_add (qe_cut (qk_var 1) qo_none (qo_some qe_int)).k (qk_var 3)) S.nd)
    (qss_one (qs_ret (qe_callC C__law_like hr tk (qa_cons ((qn_lst (qa_cons (qe_callC C_record_sum hr tk (qa_cons (qe_var 6) qa_nil)) (qa_cons (qe_callC C_record_sum hr tk (qa_cons (qe_var 1) qa_nil)) (qa_cons (qe_callC C_record_sum hr tk (qa_cons qe_str qa_nil)) qa_nil))))).e (qa_cons ((qn_lst (qa_cons (qe_callC C__law_due_sum hr tk (qa_cons (qe_var 6) qa_nil)) (qa_cons (qe_var 5) (qa_cons qe_int qa_nil))))).e qa_nil)))))))))))))
theorem sums4 {z s : Str} {a : Int} {h : PHp} {Qp : D → PHp → Prop} {Ep : XP} (hz : z.length ≤ 20000) (hs : s.length ≤ 200) (a0 : 0 ≤ a) (hQ : Qp (.bl true) h) :
    q__law_sums__4 (PE0 Qp Ep) [.fro .sto, .fro (.str z), .fro (.int a), .fro (.str s), .no, .no, .no] h := by
  simp only [q__law_sums__4, startC, qVar, qPeek, qC, qBin, qUn, qNil, qCons, qTup, qLst, qCall, asB, qTest, qAnd, qOr, qNot, qAndV, qOrV, qNotV, qIfE, deref, qNext, qSeq, qSet, qSetN, qSetP, qRet, qRetN, qDrop, qIfS, qFreeze, qApp, onOwnL, qAsg, gqName, gqNil, gqCons, gqTup, qM1, qRng1, qEnum, qAny, asI, asL, itemsD, qPart, qNoPart, qCut, cutD, qCutL, cutLD, addD, subD, mulD, modD, fdivD, eqD, neD, eqS, onB, ltD, leD, gtD, geD, isND, lenD, intD, strD, ordD, listD, tupleD, ixD, PEnds.at, wipeC, qYes,
    List.map_cons, List.map_nil, List.replicate, List.cons_append, List.nil_append, List.append_assoc, List.getElem?_cons_zero, List.getElem?_cons_succ, List.set_cons_zero, List.set_cons_succ, List.length_cons, List.length_nil, Option.map_some, if_true, if_false, Bool.not_true, Bool.not_false, decide_eq_true_eq, Bool.not_eq_true', decide_eq_false_iff_not, Nat.reduceAdd, Nat.reduceSub, List.replicate_succ, List.replicate_zero, true_and, and_true, reduceCtorEq, isStr, qPutS, putS, powD, CPow, qPut, onOwn, setD, qPutP, onPtr, qDelP, delD, qPutF, setF, qProp, qMeth, qMake, isObj, fldD, minD, maxD, qChain, revD, lrevD, isiD, tyD, qOrT, qAndT, onTru, truD, qJoined, qjCons, qjNil, fmtD, fmt5D, D.int.injEq, D.str.injEq, D.lst.injEq, D.tup.injEq, D.bl.injEq, false_implies, true_implies, ne_eq, not_false_eq_true, not_true_eq_false, forall_const, implies_true, false_and, and_false, exists_eq_left, exists_eq_left', Int.reduceEq, Int.reduceLT, Int.reduceNe, Int.reduceLE, or_false, false_or, or_true, true_or, qLc, qFor, qWhile, allD, sortAD, wipeC, isiS, List.any_cons, List.any_nil, Bool.or_false, Bool.or_true, Bool.true_or, Bool.false_or, Bool.and_self, Bool.false_and, Bool.and_false, Bool.and_true, Bool.true_and, String.reduceBEq, Bool.false_eq_true, Bool.true_eq_false]
  have hl : z.length ≤ sizeLine := by rw [sizeLine_eq]; omega
  have c1 := cutS_length z none (some a)
  have c2 := cutS_length z (some (a + 1)) none
  have c3 := cutS_length z none (some 19999)
  have lkI : ∀ (i : Int) (Q : D → PHp → Prop) (Ex : XP), Q (.bl true) h → sp__law_like [.int i, .int i] h Q Ex := fun i Q Ex hq => ⟨.int i, rfl, ⟨trivial, fun x hx => by cases hx⟩, hq⟩
  have bl : (cutS z none (some a) ++ s ++ cutS z (some (a + 1)) none).length ≤ 60000 := by
    simp only [tl_len, tl_cat, List.length_append] at *
    omega
  have ml : (cutS z none (some 19999) ++ s).length ≤ 60000 := by
    simp only [tl_len, tl_cat, List.length_append] at *
    omega
  have al : (cutS z none (some a) ++ s).length ≤ 40000 := by
    simp only [tl_len, tl_cat, List.length_append] at *
    omega
  rw [sizeLine_eq]
  refine ⟨by omega, by omega, by omega, by omega, z, rfl, hl, ?_⟩
  refine ⟨z, rfl, lkI _ _ _ ?_⟩
  simp only [startC, qVar, qPeek, qC, qBin, qUn, qNil, qCons, qTup, qLst, qCall, asB, qTest, qAnd, qOr, qNot, qAndV, qOrV, qNotV, qIfE, deref, qNext, qSeq, qSet, qSetN, qSetP, qRet, qRetN, qDrop, qIfS, qFreeze, qApp, onOwnL, qAsg, gqName, gqNil, gqCons, gqTup, qM1, qRng1, qEnum, qAny, asI, asL, itemsD, qPart, qNoPart, qCut, cutD, qCutL, cutLD, addD, subD, mulD, modD, fdivD, eqD, neD, eqS, onB, ltD, leD, gtD, geD, isND, lenD, intD, strD, ordD, listD, tupleD, ixD, PEnds.at, wipeC, qYes,
    List.map_cons, List.map_nil, List.replicate, List.cons_append, List.nil_append, List.append_assoc, List.getElem?_cons_zero, List.getElem?_cons_succ, List.set_cons_zero, List.set_cons_succ, List.length_cons, List.length_nil, Option.map_some, if_true, if_false, Bool.not_true, Bool.not_false, decide_eq_true_eq, Bool.not_eq_true', decide_eq_false_iff_not, Nat.reduceAdd, Nat.reduceSub, List.replicate_succ, List.replicate_zero, true_and, and_true, reduceCtorEq, isStr, qPutS, putS, powD, CPow, qPut, onOwn, setD, qPutP, onPtr, qDelP, delD, qPutF, setF, qProp, qMeth, qMake, isObj, fldD, minD, maxD, qChain, revD, lrevD, isiD, tyD, qOrT, qAndT, onTru, truD, qJoined, qjCons, qjNil, fmtD, fmt5D, D.int.injEq, D.str.injEq, D.lst.injEq, D.tup.injEq, D.bl.injEq, false_implies, true_implies, ne_eq, not_false_eq_true, not_true_eq_false, forall_const, implies_true, false_and, and_false, exists_eq_left, exists_eq_left', Int.reduceEq, Int.reduceLT, Int.reduceNe, Int.reduceLE, or_false, false_or, or_true, true_or, qLc, qFor, qWhile, allD, sortAD, wipeC, isiS, List.any_cons, List.any_nil, Bool.or_false, Bool.or_true, Bool.true_or, Bool.false_or, Bool.and_self, Bool.false_and, Bool.and_false, Bool.and_true, Bool.true_and, String.reduceBEq, Bool.false_eq_true, Bool.true_eq_false]
  refine ⟨_, rfl, _, rfl, by rw [sizeLine_eq]; omega, lkI _ _ _ ?_⟩
  simp only [startC, qVar, qPeek, qC, qBin, qUn, qNil, qCons, qTup, qLst, qCall, asB, qTest, qAnd, qOr, qNot, qAndV, qOrV, qNotV, qIfE, deref, qNext, qSeq, qSet, qSetN, qSetP, qRet, qRetN, qDrop, qIfS, qFreeze, qApp, onOwnL, qAsg, gqName, gqNil, gqCons, gqTup, qM1, qRng1, qEnum, qAny, asI, asL, itemsD, qPart, qNoPart, qCut, cutD, qCutL, cutLD, addD, subD, mulD, modD, fdivD, eqD, neD, eqS, onB, ltD, leD, gtD, geD, isND, lenD, intD, strD, ordD, listD, tupleD, ixD, PEnds.at, wipeC, qYes,
    List.map_cons, List.map_nil, List.replicate, List.cons_append, List.nil_append, List.append_assoc, List.getElem?_cons_zero, List.getElem?_cons_succ, List.set_cons_zero, List.set_cons_succ, List.length_cons, List.length_nil, Option.map_some, if_true, if_false, Bool.not_true, Bool.not_false, decide_eq_true_eq, Bool.not_eq_true', decide_eq_false_iff_not, Nat.reduceAdd, Nat.reduceSub, List.replicate_succ, List.replicate_zero, true_and, and_true, reduceCtorEq, isStr, qPutS, putS, powD, CPow, qPut, onOwn, setD, qPutP, onPtr, qDelP, delD, qPutF, setF, qProp, qMeth, qMake, isObj, fldD, minD, maxD, qChain, revD, lrevD, isiD, tyD, qOrT, qAndT, onTru, truD, qJoined, qjCons, qjNil, fmtD, fmt5D, D.int.injEq, D.str.injEq, D.lst.injEq, D.tup.injEq, D.bl.injEq, false_implies, true_implies, ne_eq, not_false_eq_true, not_true_eq_false, forall_const, implies_true, false_and, and_false, exists_eq_left, exists_eq_left', Int.reduceEq, Int.reduceLT, Int.reduceNe, Int.reduceLE, or_false, false_or, or_true, true_or, qLc, qFor, qWhile, allD, sortAD, wipeC, isiS, List.any_cons, List.any_nil, Bool.or_false, Bool.or_true, Bool.true_or, Bool.false_or, Bool.and_self, Bool.false_and, Bool.and_false, Bool.and_true, Bool.true_and, String.reduceBEq, Bool.false_eq_true, Bool.true_eq_false]
  refine ⟨by omega, by omega, _, rfl, _, rfl, _, rfl, _, rfl, by rw [sizeLine_eq]; omega, ?_⟩
  refine ⟨_, rfl, ⟨(by decide : 3 ≤ 100000), fun x hx => ?_⟩, hQ⟩
  rcases List.mem_cons.mp hx with rfl | hx
  · exact ⟨trivial, fun x hx => by cases hx⟩
  · rcases List.mem_cons.mp hx with rfl | hx
    · exact ⟨trivial, fun x hx => by cases hx⟩
    · rw [List.mem_singleton.mp hx]
      exact ⟨trivial, fun x hx => by cases hx⟩
theorem sums2 {z : Str} {h : PHp} {Qp : D → PHp → Prop} {Ep : XP} (hz : z.length ≤ 20000) (hQ : Qp (.bl true) h) :
    q__law_sums__2 (PE0 Qp Ep) [.fro .sto, .fro (.str z), .no, .no, .no, .no, .no] h := by
  have hl : z.length ≤ sizeLine := by rw [sizeLine_eq]; omega
  simp only [q__law_sums__2, startC, qVar, qPeek, qC, qBin, qUn, qNil, qCons, qTup, qLst, qCall, asB, qTest, qAnd, qOr, qNot, qAndV, qOrV, qNotV, qIfE, deref, qNext, qSeq, qSet, qSetN, qSetP, qRet, qRetN, qDrop, qIfS, qFreeze, qApp, onOwnL, qAsg, gqName, gqNil, gqCons, gqTup, qM1, qRng1, qEnum, qAny, asI, asL, itemsD, qPart, qNoPart, qCut, cutD, qCutL, cutLD, addD, subD, mulD, modD, fdivD, eqD, neD, eqS, onB, ltD, leD, gtD, geD, isND, lenD, intD, strD, ordD, listD, tupleD, ixD, PEnds.at, wipeC, qYes,
    List.map_cons, List.map_nil, List.replicate, List.cons_append, List.nil_append, List.append_assoc, List.getElem?_cons_zero, List.getElem?_cons_succ, List.set_cons_zero, List.set_cons_succ, List.length_cons, List.length_nil, Option.map_some, if_true, if_false, Bool.not_true, Bool.not_false, decide_eq_true_eq, Bool.not_eq_true', decide_eq_false_iff_not, Nat.reduceAdd, Nat.reduceSub, List.replicate_succ, List.replicate_zero, true_and, and_true, reduceCtorEq, isStr, qPutS, putS, powD, CPow, qPut, onOwn, setD, qPutP, onPtr, qDelP, delD, qPutF, setF, qProp, qMeth, qMake, isObj, fldD, minD, maxD, qChain, revD, lrevD, isiD, tyD, qOrT, qAndT, onTru, truD, qJoined, qjCons, qjNil, fmtD, fmt5D, D.int.injEq, D.str.injEq, D.lst.injEq, D.tup.injEq, D.bl.injEq, false_implies, true_implies, ne_eq, not_false_eq_true, not_true_eq_false, forall_const, implies_true, false_and, and_false, exists_eq_left, exists_eq_left', Int.reduceEq, Int.reduceLT, Int.reduceNe, Int.reduceLE, or_false, false_or, or_true, true_or, qLc, qFor, qWhile, allD, sortAD, wipeC, isiS, List.any_cons, List.any_nil, Bool.or_false, Bool.or_true, Bool.true_or, Bool.false_or, Bool.and_self, Bool.false_and, Bool.and_false, Bool.and_true, Bool.true_and, String.reduceBEq, Bool.false_eq_true, Bool.true_eq_false]
  refine ⟨hl, _, rfl, by omega, fun a a0 a1 => ?_⟩
  refine ⟨1, rfl, by decide, by decide, fun s hs => ?_⟩
  simp only [startC, qVar, qPeek, qC, qBin, qUn, qNil, qCons, qTup, qLst, qCall, asB, qTest, qAnd, qOr, qNot, qAndV, qOrV, qNotV, qIfE, deref, qNext, qSeq, qSet, qSetN, qSetP, qRet, qRetN, qDrop, qIfS, qFreeze, qApp, onOwnL, qAsg, gqName, gqNil, gqCons, gqTup, qM1, qRng1, qEnum, qAny, asI, asL, itemsD, qPart, qNoPart, qCut, cutD, qCutL, cutLD, addD, subD, mulD, modD, fdivD, eqD, neD, eqS, onB, ltD, leD, gtD, geD, isND, lenD, intD, strD, ordD, listD, tupleD, ixD, PEnds.at, wipeC, qYes,
    List.map_cons, List.map_nil, List.replicate, List.cons_append, List.nil_append, List.append_assoc, List.getElem?_cons_zero, List.getElem?_cons_succ, List.set_cons_zero, List.set_cons_succ, List.length_cons, List.length_nil, Option.map_some, if_true, if_false, Bool.not_true, Bool.not_false, decide_eq_true_eq, Bool.not_eq_true', decide_eq_false_iff_not, Nat.reduceAdd, Nat.reduceSub, List.replicate_succ, List.replicate_zero, true_and, and_true, reduceCtorEq, isStr, qPutS, putS, powD, CPow, qPut, onOwn, setD, qPutP, onPtr, qDelP, delD, qPutF, setF, qProp, qMeth, qMake, isObj, fldD, minD, maxD, qChain, revD, lrevD, isiD, tyD, qOrT, qAndT, onTru, truD, qJoined, qjCons, qjNil, fmtD, fmt5D, D.int.injEq, D.str.injEq, D.lst.injEq, D.tup.injEq, D.bl.injEq, false_implies, true_implies, ne_eq, not_false_eq_true, not_true_eq_false, forall_const, implies_true, false_and, and_false, exists_eq_left, exists_eq_left', Int.reduceEq, Int.reduceLT, Int.reduceNe, Int.reduceLE, or_false, false_or, or_true, true_or, qLc, qFor, qWhile, allD, sortAD, wipeC, isiS, List.any_cons, List.any_nil, Bool.or_false, Bool.or_true, Bool.true_or, Bool.false_or, Bool.and_self, Bool.false_and, Bool.and_false, Bool.and_true, Bool.true_and, String.reduceBEq, Bool.false_eq_true, Bool.true_eq_false]
  have hs1 : s.length ≤ 1 := hs
  refine ⟨by rw [sizeLine_eq]; omega, ?_⟩
  split
  · exact sums4 hz (by omega) a0 hQ
  · exact sums4 hz (by decide) a0 hQ
theorem v__law_sums (ds : List D) (h : PHp) (Qp : D → PHp → Prop) (Ep : XP) : sp__law_sums ds h Qp Ep → q__law_sums (PE0 Qp Ep) (startC 7 ds) h := by
  rintro ⟨rfl, hQ⟩
  simp only [q__law_sums, startC, qVar, qPeek, qC, qBin, qUn, qNil, qCons, qTup, qLst, qCall, asB, qTest, qAnd, qOr, qNot, qAndV, qOrV, qNotV, qIfE, deref, qNext, qSeq, qSet, qSetN, qSetP, qRet, qRetN, qDrop, qIfS, qFreeze, qApp, onOwnL, qAsg, gqName, gqNil, gqCons, gqTup, qM1, qRng1, qEnum, qAny, asI, asL, itemsD, qPart, qNoPart, qCut, cutD, qCutL, cutLD, addD, subD, mulD, modD, fdivD, eqD, neD, eqS, onB, ltD, leD, gtD, geD, isND, lenD, intD, strD, ordD, listD, tupleD, ixD, PEnds.at, wipeC, qYes,
    List.map_cons, List.map_nil, List.replicate, List.cons_append, List.nil_append, List.append_assoc, List.getElem?_cons_zero, List.getElem?_cons_succ, List.set_cons_zero, List.set_cons_succ, List.length_cons, List.length_nil, Option.map_some, if_true, if_false, Bool.not_true, Bool.not_false, decide_eq_true_eq, Bool.not_eq_true', decide_eq_false_iff_not, Nat.reduceAdd, Nat.reduceSub, List.replicate_succ, List.replicate_zero, true_and, and_true, reduceCtorEq, isStr, qPutS, putS, powD, CPow, qPut, onOwn, setD, qPutP, onPtr, qDelP, delD, qPutF, setF, qProp, qMeth, qMake, isObj, fldD, minD, maxD, qChain, revD, lrevD, isiD, tyD, qOrT, qAndT, onTru, truD, qJoined, qjCons, qjNil, fmtD, fmt5D, D.int.injEq, D.str.injEq, D.lst.injEq, D.tup.injEq, D.bl.injEq, false_implies, true_implies, ne_eq, not_false_eq_true, not_true_eq_false, forall_const, implies_true, false_and, and_false, exists_eq_left, exists_eq_left', Int.reduceEq, Int.reduceLT, Int.reduceNe, Int.reduceLE, or_false, false_or, or_true, true_or, qLc, qFor, qWhile, allD, sortAD, wipeC, isiS, List.any_cons, List.any_nil, Bool.or_false, Bool.or_true, Bool.true_or, Bool.false_or, Bool.and_self, Bool.false_and, Bool.and_false, Bool.and_true, Bool.true_and, String.reduceBEq, Bool.false_eq_true, Bool.true_eq_false]
  refine ⟨200, rfl, by decide, by decide, fun z hz => ?_⟩
  refine ⟨30, rfl, by decide, fun r r0 r1 => ?_⟩
  have hz1 : z.length ≤ 200 := hz
  simp only [startC, qVar, qPeek, qC, qBin, qUn, qNil, qCons, qTup, qLst, qCall, asB, qTest, qAnd, qOr, qNot, qAndV, qOrV, qNotV, qIfE, deref, qNext, qSeq, qSet, qSetN, qSetP, qRet, qRetN, qDrop, qIfS, qFreeze, qApp, onOwnL, qAsg, gqName, gqNil, gqCons, gqTup, qM1, qRng1, qEnum, qAny, asI, asL, itemsD, qPart, qNoPart, qCut, cutD, qCutL, cutLD, addD, subD, mulD, modD, fdivD, eqD, neD, eqS, onB, ltD, leD, gtD, geD, isND, lenD, intD, strD, ordD, listD, tupleD, ixD, PEnds.at, wipeC, qYes,
    List.map_cons, List.map_nil, List.replicate, List.cons_append, List.nil_append, List.append_assoc, List.getElem?_cons_zero, List.getElem?_cons_succ, List.set_cons_zero, List.set_cons_succ, List.length_cons, List.length_nil, Option.map_some, if_true, if_false, Bool.not_true, Bool.not_false, decide_eq_true_eq, Bool.not_eq_true', decide_eq_false_iff_not, Nat.reduceAdd, Nat.reduceSub, List.replicate_succ, List.replicate_zero, true_and, and_true, reduceCtorEq, isStr, qPutS, putS, powD, CPow, qPut, onOwn, setD, qPutP, onPtr, qDelP, delD, qPutF, setF, qProp, qMeth, qMake, isObj, fldD, minD, maxD, qChain, revD, lrevD, isiD, tyD, qOrT, qAndT, onTru, truD, qJoined, qjCons, qjNil, fmtD, fmt5D, D.int.injEq, D.str.injEq, D.lst.injEq, D.tup.injEq, D.bl.injEq, false_implies, true_implies, ne_eq, not_false_eq_true, not_true_eq_false, forall_const, implies_true, false_and, and_false, exists_eq_left, exists_eq_left', Int.reduceEq, Int.reduceLT, Int.reduceNe, Int.reduceLE, or_false, false_or, or_true, true_or, qLc, qFor, qWhile, allD, sortAD, wipeC, isiS, List.any_cons, List.any_nil, Bool.or_false, Bool.or_true, Bool.true_or, Bool.false_or, Bool.and_self, Bool.false_and, Bool.and_false, Bool.and_true, Bool.true_and, String.reduceBEq, Bool.false_eq_true, Bool.true_eq_false]
  split
  · refine ⟨1, rfl, by decide, by decide, fun s hs => ?_⟩
    simp only [startC, qVar, qPeek, qC, qBin, qUn, qNil, qCons, qTup, qLst, qCall, asB, qTest, qAnd, qOr, qNot, qAndV, qOrV, qNotV, qIfE, deref, qNext, qSeq, qSet, qSetN, qSetP, qRet, qRetN, qDrop, qIfS, qFreeze, qApp, onOwnL, qAsg, gqName, gqNil, gqCons, gqTup, qM1, qRng1, qEnum, qAny, asI, asL, itemsD, qPart, qNoPart, qCut, cutD, qCutL, cutLD, addD, subD, mulD, modD, fdivD, eqD, neD, eqS, onB, ltD, leD, gtD, geD, isND, lenD, intD, strD, ordD, listD, tupleD, ixD, PEnds.at, wipeC, qYes,
    List.map_cons, List.map_nil, List.replicate, List.cons_append, List.nil_append, List.append_assoc, List.getElem?_cons_zero, List.getElem?_cons_succ, List.set_cons_zero, List.set_cons_succ, List.length_cons, List.length_nil, Option.map_some, if_true, if_false, Bool.not_true, Bool.not_false, decide_eq_true_eq, Bool.not_eq_true', decide_eq_false_iff_not, Nat.reduceAdd, Nat.reduceSub, List.replicate_succ, List.replicate_zero, true_and, and_true, reduceCtorEq, isStr, qPutS, putS, powD, CPow, qPut, onOwn, setD, qPutP, onPtr, qDelP, delD, qPutF, setF, qProp, qMeth, qMake, isObj, fldD, minD, maxD, qChain, revD, lrevD, isiD, tyD, qOrT, qAndT, onTru, truD, qJoined, qjCons, qjNil, fmtD, fmt5D, D.int.injEq, D.str.injEq, D.lst.injEq, D.tup.injEq, D.bl.injEq, false_implies, true_implies, ne_eq, not_false_eq_true, not_true_eq_false, forall_const, implies_true, false_and, and_false, exists_eq_left, exists_eq_left', Int.reduceEq, Int.reduceLT, Int.reduceNe, Int.reduceLE, or_false, false_or, or_true, true_or, qLc, qFor, qWhile, allD, sortAD, wipeC, isiS, List.any_cons, List.any_nil, Bool.or_false, Bool.or_true, Bool.true_or, Bool.false_or, Bool.and_self, Bool.false_and, Bool.and_false, Bool.and_true, Bool.true_and, String.reduceBEq, Bool.false_eq_true, Bool.true_eq_false]
    have hs1 : s.length ≤ 1 := hs
    refine ⟨by rw [sizeLine_eq]; omega, ?_⟩
    split
    · refine ⟨by decide, by decide, ?_, by omega, sums2 ?_ hQ⟩
      · show s.length * 20000 ≤ _
        omega
      · rw [rptS_len]
        show s.length * 20000 ≤ _
        omega
    · refine ⟨by decide, by decide, by decide, by decide, sums2 ?_ hQ⟩
      rw [rptS_len]
      decide
  · exact sums2 (by omega) hQ
theorem c__law_sums (G : GE K mg) : Cal P w K mg base "_law_sums" ["_law_store_here"] 7 sp__law_sums :=
  cal_of G.f__law_sums sc__law_sums (fun _ _ F => F.bindsN fun _ _ _ _ _ _ us hl => match us, hl with | [_], _ => rfl) (fun _ _ _ _ ⟨e, _⟩ => by rw [e]; rfl) (w__law_sums G (c__law_like G) (c__law_due_sum G) (c_record_sum G) (c__law_text G) (c__law_take G)) v__law_sums
end Pu.L70
set_option Elab.async false
set_option linter.all false
set_option maxRecDepth 100000
set_option maxHeartbeats 4000000
set_option autoImplicit false
namespace Pu.L70
open PySem PySem.Spec PyProof.Rows L2
theorem numL_last (n : Nat) : ∃ l, TL.numL n = l ++ [48 + n % 10] := by
  by_cases h : n < 10
  · exact ⟨[], by rw [TL.numL_lt h, Nat.mod_eq_of_lt h]; rfl⟩
  · exact ⟨_, TL.numL_step (by omega)⟩
def d5 (s : Nat) : List Nat := [48 + s / 10000 % 10, 48 + s / 1000 % 10, 48 + s / 100 % 10, 48 + s / 10 % 10, 48 + s % 10]
theorem pad5L_eq {s : Nat} (h : s < 100000) : pad5L (s : Int) = d5 s := by
  show List.replicate (5 - (Nat.toDigits 10 s).length) 48 ++ TL.numL s = d5 s
  have hl : (Nat.toDigits 10 s).length = (TL.numL s).length := by unfold TL.numL; rw [List.length_map]
  rw [hl]
  unfold d5
  by_cases h1 : s < 10
  · rw [TL.numL_lt h1]
    rw [show s / 10000 = 0 by omega, show s / 1000 = 0 by omega, show s / 100 = 0 by omega, show s / 10 = 0 by omega, show s % 10 = s by omega]
    rfl
  · rw [TL.numL_step (by omega : 10 ≤ s)]
    by_cases h2 : s < 100
    · rw [TL.numL_lt (by omega : s / 10 < 10)]
      rw [show s / 10000 = 0 by omega, show s / 1000 = 0 by omega, show s / 100 = 0 by omega, show s / 10 % 10 = s / 10 by omega]
      rfl
    · rw [TL.numL_step (by omega : 10 ≤ s / 10)]
      by_cases h3 : s < 1000
      · rw [TL.numL_lt (by omega : s / 10 / 10 < 10)]
        rw [show s / 10000 = 0 by omega, show s / 1000 = 0 by omega, show s / 100 % 10 = s / 10 / 10 by omega]
        rfl
      · rw [TL.numL_step (by omega : 10 ≤ s / 10 / 10)]
        by_cases h4 : s < 10000
        · rw [TL.numL_lt (by omega : s / 10 / 10 / 10 < 10)]
          rw [show s / 10000 = 0 by omega, show s / 1000 % 10 = s / 10 / 10 / 10 by omega, show s / 100 % 10 = s / 10 / 10 % 10 by omega]
          rfl
        · rw [TL.numL_step (by omega : 10 ≤ s / 10 / 10 / 10), TL.numL_lt (by omega : s / 10 / 10 / 10 / 10 < 10)]
          rw [show s / 10000 % 10 = s / 10 / 10 / 10 / 10 by omega, show s / 1000 % 10 = s / 10 / 10 / 10 % 10 by omega, show s / 100 % 10 = s / 10 / 10 % 10 by omega]
          rfl
theorem d5_int {s : Nat} (h : s < 100000) : intText? (mkS (d5 s)) = some (s : Int) := by
  have e := SX.int_S (a := d5 s) (by simp [d5]; omega) (by simp [d5]) (by simp [d5])
  have e2 : NumText.digitsVal (d5 s) = s := by
    unfold NumText.digitsVal d5
    simp only [List.foldl_cons, List.foldl_nil]
    omega
  rw [show mkS (d5 s) = SX.S (d5 s) from rfl, e, e2]
/-- a row without its end -/
def rowC (n : Nat) (b : List Nat) : List Nat := TL.numL n ++ (32 :: (pad5L (rs 7 (TL.numL n ++ (32 :: b))) ++ (32 :: b)))
theorem rowL_C (n : Nat) (b : List Nat) : rowL n b = rowC n b ++ [10] := by
  unfold rowL rowC
  simp
def rowsC : Nat → List (List Nat) → List (List Nat)
  | _, [] => []
  | n, b :: r => rowC n b :: rowsC (n + 1) r
theorem joinL_rows : ∀ (bs : List (List Nat)) (n : Nat), (rowsL n bs).flatten = TL.joinL [10] (rowsC n bs ++ [[]])
  | [], n => rfl
  | [b], n => by
    show (rowL n b ++ []) = TL.joinL [10] [rowC n b, []]
    rw [rowL_C, List.append_nil]
    rfl
  | b :: c :: r, n => by
    have ih := joinL_rows (c :: r) (n + 1)
    show rowL n b ++ (rowsL (n + 1) (c :: r)).flatten = rowC n b ++ ([10] ++ TL.joinL [10] (rowsC (n + 1) (c :: r) ++ [[]]))
    rw [ih, rowL_C, List.append_assoc]
theorem rowsC_get : ∀ {bs : List (List Nat)} {n i : Nat} {b : List Nat}, bs[i]? = some b → (rowsC n bs)[i]? = some (rowC (n + i) b)
  | c :: r, n, 0, b, h => by
    have : c = b := by simpa using h
    subst this
    rfl
  | c :: r, n, i + 1, b, h => by
    have := rowsC_get (bs := r) (n := n + 1) (i := i) (b := b) (by simpa using h)
    show (rowsC (n + 1) r)[i]? = _
    rw [this, show n + 1 + i = n + (i + 1) by omega]
theorem rowsC_len : ∀ (bs : List (List Nat)) (n : Nat), (rowsC n bs).length = bs.length
  | [], n => rfl
  | c :: r, n => congrArg Nat.succ (rowsC_len r (n + 1))
theorem rowsC_mem : ∀ {bs : List (List Nat)} {n : Nat} {r : List Nat}, r ∈ rowsC n bs → ∃ k b, b ∈ bs ∧ k < n + bs.length ∧ r = rowC k b
  | [], n, r, h => by cases h
  | c :: l, n, r, h => by
    rcases List.mem_cons.mp (show r ∈ rowC n c :: rowsC (n + 1) l from h) with rfl | h
    · exact ⟨n, c, List.mem_cons_self .., by rw [List.length_cons]; omega, rfl⟩
    · obtain ⟨k, b, h1, h2, h3⟩ := rowsC_mem h
      exact ⟨k, b, List.mem_cons_of_mem _ h1, by rw [List.length_cons]; omega, h3⟩
theorem rowC_free {n : Nat} {b : List Nat} (h : 10 ∉ b) : 10 ∉ rowC n b := by
  have h1 := rs_small (TL.numL n ++ (32 :: b)) 7 (by decide) (by decide)
  have h2 : pad5L (rs 7 (TL.numL n ++ (32 :: b))) = d5 (rs 7 (TL.numL n ++ (32 :: b))).toNat := by
    rw [← pad5L_eq (by omega), Int.toNat_of_nonneg h1.1]
  have h3 : 10 ∉ TL.numL n := TL.numL_free (.inl (by decide))
  unfold rowC
  rw [h2]
  intro z
  rcases List.mem_append.mp z with z | z
  · exact h3 z
  · rcases List.mem_cons.mp z with z | z
    · cases z
    · rcases List.mem_append.mp z with z | z
      · unfold d5 at z
        simp at z
        omega
      · rcases List.mem_cons.mp z with z | z
        · cases z
        · exact h z
theorem split_rows {bs : List (List Nat)} {n : Nat} (h : ∀ b ∈ bs, 10 ∉ b) : Txt.split (mkS (rowsL n bs).flatten) (Str.ofString "\n") = (rowsC n bs ++ [[]]).map mkS := by
  have e : Str.ofString "\n" = SX.S [10] := rfl
  rw [e, joinL_rows]
  rw [show mkS (TL.joinL [10] (rowsC n bs ++ [[]])) = SX.S (TL.joinL [10] (rowsC n bs ++ [[]])) from rfl]
  rw [SX.split_S (by simp) (by decide), TL.spl_join (by simp)]
  · rfl
  · intro p hp
    rcases List.mem_append.mp hp with hp | hp
    · obtain ⟨k, b, h1, _, rfl⟩ := rowsC_mem hp
      exact rowC_free (h b h1)
    · rw [List.mem_singleton.mp hp]; exact List.not_mem_nil
theorem joinL_free {S : List Nat} {c : Nat} (hS : c ∉ S) : ∀ {l : List (List Nat)}, (∀ p ∈ l, c ∉ p) → c ∉ TL.joinL S l
  | [], _ => List.not_mem_nil
  | [p], h => h p (List.mem_singleton.mpr rfl)
  | p :: q :: r, h => by
    show c ∉ p ++ (S ++ TL.joinL S (q :: r))
    intro z
    rcases List.mem_append.mp z with z | z
    · exact h p (List.mem_cons_self ..) z
    · rcases List.mem_append.mp z with z | z
      · exact hS z
      · exact joinL_free hS (fun p hp => h p (List.mem_cons_of_mem _ hp)) z
theorem nameB_free {s : Str} (h : nameB s = true) : 10 ∉ tl s := by
  unfold nameB at h
  simp only [Bool.and_eq_true, List.all_eq_true] at h
  intro z
  have := h.2 10 z
  exact absurd this (by decide)
theorem rising_pw : ∀ (r : List Str) (p : Str), risingS p r = true → (∀ x ∈ r, ltCps x.cps.toList p.cps.toList = false) ∧ r.Pairwise (fun a b => ltCps b.cps.toList a.cps.toList = false)
  | [], p, _ => ⟨(fun _ h => by cases h), List.Pairwise.nil⟩
  | x :: r, p, h => by
    unfold risingS at h
    rw [Bool.and_eq_true, Bool.not_eq_true'] at h
    obtain ⟨h1, h2⟩ := rising_pw r x h.2
    refine ⟨fun y hy => ?_, List.pairwise_cons.mpr ⟨h1, h2⟩⟩
    rcases List.mem_cons.mp hy with rfl | hy
    · exact h.1
    · have h3 := h1 y hy
      have h4 := h.1
      rw [ltCps_eq, decide_eq_false_iff_not, List.not_lt] at h3 h4 ⊢
      exact List.le_trans h4 h3
theorem sorted_pw : ∀ {a : List Str}, sortedS a = true → a.Pairwise (fun a b => ltCps b.cps.toList a.cps.toList = false)
  | [], _ => List.Pairwise.nil
  | x :: r, h => by
    obtain ⟨h1, h2⟩ := rising_pw r x h
    exact List.pairwise_cons.mpr ⟨h1, h2⟩
theorem sorted_uniq {a b : List Str} (p : a.Perm b) (ha : sortedS a = true) (hb : sortedS b = true) : a = b := by
  refine List.Perm.eq_of_pairwise (le := fun a b : Str => ltCps b.cps.toList a.cps.toList = false) (fun x y _ _ h1 h2 => ?_) (sorted_pw ha) (sorted_pw hb) p
  rw [ltCps_eq, decide_eq_false_iff_not, List.not_lt] at h1 h2
  exact tl_ext (List.le_antisymm h1 h2)
end Pu.L70
set_option Elab.async false
set_option linter.all false
set_option maxRecDepth 100000
set_option maxHeartbeats 4000000
set_option autoImplicit false
namespace Pu.L70
open PySem PySem.Spec PyProof.Rows L2
variable {P : Program} {w : World} {K : PySem.W.Frag} {mg : Str → Option Value} {base : Heap}
def sp__law_rows : Spec := fun ds h Q Ex => ∃ (ys : List Str) (es : List Deed) (mo : Int), ds = [jd ys es, .lst ((bodies ys es).map fun b => .str (mkS b)), .int mo] ∧ ys.length ≤ 32 ∧ (∀ s ∈ ys, nameB s = true) ∧ es.length ≤ 240 ∧ (∀ e ∈ es, ∀ s ∈ e.row, s.length ≤ 12 ∧ 10 ∉ tl s) ∧ Q (.bl true) h
theorem sc__law_rows : FnScope ["_law_journal", "_law_bodies_here", "_law_moment", "_law_told", "_law_rows_here", "_law_k", "_law_body", "_law_due", "_law_digits", "_law_power"] ["_law_journal", "_law_bodies_here", "_law_moment"] (defScope s__law_rows) := ⟨rfl, rfl, rfl, by decide +kernel, rfl, by decide +kernel, by decide +kernel⟩
def q__law_rows__4 : RS := (qSeq (qFor (qRng1 (qUn lenD (qPeek 1))) (gqName 5) (qSeq (qSet 6 (qBin addD (qBin addD (qUn strD (qPeek 5)) (qC (.str (Str.ofString " ")))) (qBin ixD (qPeek 1) (qPeek 5))))
  (qSeq (qSet 7 (qCall sp__law_due_sum (qCons (qVar 6) qNil)))
  (qSeq (qSet 8 (qM1 joinD (qC (.str (Str.ofString ""))) (qLc (qAny (qLst (qCons (qC (.int 10000)) (qCons (qC (.int 1000)) (qCons (qC (.int 100)) (qCons (qC (.int 10)) (qCons (qC (.int 1)) qNil))))))) (gqName 9) qYes (qBin ixD (qUn strD (qBin fdivD (qPeek 7) (qPeek 9))) (qC (.int (-1)))) [9])))
  (qSeq (qIfS (qTest (qBin neD (qBin ixD (qPeek 4) (qPeek 5)) (qBin addD (qBin addD (qBin addD (qBin addD (qUn strD (qPeek 5)) (qC (.str (Str.ofString " ")))) (qPeek 8)) (qC (.str (Str.ofString " ")))) (qBin ixD (qPeek 1) (qPeek 5))))) (qRet (qC (.bl false))) qNext)
  (qIfS (qAnd (qTest (qBin eqD (qPeek 5) (qPeek 2))) (qNot (qTest (qCall sp__law_like (qCons (qCall sp_record_sum (qCons (qVar 6) qNil)) (qCons (qUn intD (qPeek 8)) qNil)))))) (qRet (qC (.bl false))) qNext))))))
  (qRet (qC (.bl true))))
def q__law_rows : RS := (qSeq (qSet 3 (qCall sp_write_log (qCons (qVar 0) qNil)))
  (qSeq (qIfS (qNot (qTest (qUn (isiD ["str"]) (qPeek 3)))) (qRet (qC (.bl false))) qNext)
  (qSeq (qSet 4 (qM1 splitD (qPeek 3) (qC (.str (Str.ofString "\n")))))
  (qSeq (qIfS (qOr (qTest (qBin neD (qUn lenD (qPeek 4)) (qBin addD (qUn lenD (qPeek 1)) (qC (.int 1))))) (qTest (qBin neD (qBin ixD (qPeek 4) (qC (.int (-1)))) (qC (.str (Str.ofString "")))))) (qRet (qC (.bl false))) qNext)
  q__law_rows__4))))
theorem w__law_rows (G : GE K mg) (C__law_due_sum : Cal P w K mg base "_law_due_sum" ["_law_text_here"] 1 sp__law_due_sum) (C__law_like : Cal P w K mg base "_law_like" ["_law_one", "_law_two"] 6 sp__law_like) (C_record_sum : Cal P w K mg base "record_sum" ["text"] 1 sp_record_sum) (C_write_log : Cal P w K mg base "write_log" ["journal"] 4 sp_write_log) : WkOk P w K mg base ["_law_journal", "_law_bodies_here", "_law_moment", "_law_told", "_law_rows_here", "_law_k", "_law_body", "_law_due", "_law_digits", "_law_power"] "_law_rows" s__law_rows 6 q__law_rows := fun f cdv A outer s H E hr tk => by
  have S := sc__law_rows
  unfold q__law_rows q__law_rows__4
  exact (qss_cons (qs_set 3 (qe_callC C_write_log hr tk (qa_cons (qe_var 0) qa_nil)) S.nd)
    (qss_cons (qs_if (qt_not (qt_val (qe_isi1 "str" G.n_isinstance G.n_str (qk_var 3)).k)) (qss_one (qs_ret qe_bl)) qss_nil)
    (qss_cons (qs_set 4 ((qn_m1 PySem.F.slot_str_split PySem.F.type_str_split mt_split mn_split (qk_var 3) (qe_str).k)).e S.nd)
    (qss_cons (qs_if (qw_or (qt_cmp op_ne ops_ne (qe_b1 call_lenAll cs_len G.n_len (qk_var 4)).k (qe_bin op_addAll ops_add (qe_b1 call_lenAll cs_len G.n_len (qk_var 1)).k (qe_int).k).k (by rfl)) (qw_or1 (qt_cmp op_ne ops_ne (qe_ix (ix_all hr.u1) ops_ix (qk_var 4) (qe_neg).k).k (qe_str).k (by rfl)))).t (qss_one (qs_ret qe_bl)) qss_nil)
    (qss_cons (qs_for (passes_of rfl) rfl (qi_rng1 (qe_b1 call_lenAll cs_len G.n_len (qk_var 1)) G.n_range) (qg_name 5 S.nd) (qss_cons (qs_set 6 (qe_bin op_addAll ops_add (qe_bin op_addAll ops_add (qe_t1 call_strAll cs_str G.n_str (qk_var 5)).k (qe_str).k).k (qe_ix (ix_all hr.u1) ops_ix (qk_var 1) (qk_var 5)).k) S.nd)
    (qss_cons (qs_set 7 (qe_callC C__law_due_sum hr tk (qa_cons (qe_var 6) qa_nil)) S.nd)
    (qss_cons (qs_set 8 (qe_m1 PySem.F.slot_str_join PySem.F.type_str_join mt_join ms_join (qe_str).k ((qn_lc rfl S.nd (qi_any ((qn_lst (qa_cons qe_int (qa_cons qe_int (qa_cons qe_int (qa_cons qe_int (qa_cons qe_int qa_nil))))))).e) (L2.blkOk_by (own := [("_law_power", 9)]) (by rfl)) (fun _ _ _ _ _ => (qg_name 9 S.nd)) (fun _ _ _ _ _ => qts_nil) (fun _ _ _ _ _ => (qe_ix (ix_all hr.u1) ops_ix (qe_t1 call_strAll cs_str G.n_str (qe_bin op_fdivN ops_fdiv (qk_var 7) (qk_var 9)).k).k (qe_neg).k)))).e.k) S.nd)
    (qss_cons (qs_if (qt_cmp op_ne ops_ne (qe_ix (ix_all hr.u1) ops_ix (qk_var 4) (qk_var 5)).k (qe_bin op_addAll ops_add (qe_bin op_addAll ops_add (qe_bin op_addAll ops_add (qe_bin op_addAll ops_add (qe_t1 call_strAll cs_str G.n_str (qk_var 5)).k (qe_str).k).k (qk_var 8)).k (qe_str).k).k (qe_ix (ix_all hr.u1) ops_ix (qk_var 1) (qk_var 5)).k).k (by rfl)) (qss_one (qs_ret qe_bl)) qss_nil)
    (qss_one (qs_if (qw_and (qt_cmp op_eq ops_eq (qk_var 5) (qk_var 2) (by rfl)) (qw_and1 (qt_not (qt_val (qe_callC C__law_like hr tk (qa_cons (qe_callC C_record_sum hr tk (qa_cons (qe_var 6) qa_nil)) (qa_cons (qe_t1 call_intAll cs_int G.n_int (qk_var 8)) qa_nil))).k)))).t (qss_one (qs_ret qe_bl)) qss_nil)))))))
    (qss_one (qs_ret qe_bl)))))))
theorem last_digit (n : Nat) : atI (Str.ofString (toString (n : Int))).cps.toList (-1) = some (48 + n % 10) := by
  show atI (tl (Str.ofString (toString (n : Int)))) (-1) = _
  rw [show tl (Str.ofString (toString (n : Int))) = TL.numL n from TL.tl_num n]
  obtain ⟨l, e⟩ := numL_last n
  rw [e]
  exact atI_last
theorem rows4 {ys : List Str} {es : List Deed} {bs : List (List Nat)} {mo : Int} {told : D} {h : PHp} {Qp : D → PHp → Prop} {Ep : XP} (hb : ∀ b ∈ bs, b.length ≤ 2000) (hl : bs.length ≤ 300) (hQ : Qp (.bl true) h) :
    q__law_rows__4 (PE0 Qp Ep) [.fro (jd ys es), .fro (.lst (bs.map fun b => .str (mkS b))), .fro (.int mo), .fro told, .fro (.lst (((rowsC 0 bs ++ [[]]).map mkS).map D.str)), .no, .no, .no, .no, .no] h := by
  simp only [q__law_rows__4, startC, qVar, qPeek, qC, qBin, qUn, qNil, qCons, qTup, qLst, qCall, asB, qTest, qAnd, qOr, qNot, qAndV, qOrV, qNotV, qIfE, deref, qNext, qSeq, qSet, qSetN, qSetP, qRet, qRetN, qDrop, qIfS, qFreeze, qApp, onOwnL, qAsg, gqName, gqNil, gqCons, gqTup, qM1, qRng1, qEnum, qAny, asI, asL, itemsD, qPart, qNoPart, qCut, cutD, qCutL, cutLD, addD, subD, mulD, modD, fdivD, eqD, neD, eqS, onB, ltD, leD, gtD, geD, isND, lenD, intD, strD, ordD, listD, tupleD, ixD, PEnds.at, wipeC, qYes,
    List.map_cons, List.map_nil, List.replicate, List.cons_append, List.nil_append, List.append_assoc, List.getElem?_cons_zero, List.getElem?_cons_succ, List.set_cons_zero, List.set_cons_succ, List.length_cons, List.length_nil, Option.map_some, if_true, if_false, Bool.not_true, Bool.not_false, decide_eq_true_eq, Bool.not_eq_true', decide_eq_false_iff_not, Nat.reduceAdd, Nat.reduceSub, List.replicate_succ, List.replicate_zero, true_and, and_true, reduceCtorEq, isStr, qPutS, putS, powD, CPow, qPut, onOwn, setD, qPutP, onPtr, qDelP, delD, qPutF, setF, qProp, qMeth, qMake, isObj, fldD, minD, maxD, qChain, revD, lrevD, isiD, tyD, qOrT, qAndT, onTru, truD, qJoined, qjCons, qjNil, fmtD, fmt5D, D.int.injEq, D.str.injEq, D.lst.injEq, D.tup.injEq, D.bl.injEq, false_implies, true_implies, ne_eq, not_false_eq_true, not_true_eq_false, forall_const, implies_true, false_and, and_false, exists_eq_left, exists_eq_left', Int.reduceEq, Int.reduceLT, Int.reduceNe, Int.reduceLE, or_false, false_or, or_true, true_or, qLc, qFor, qWhile, allD, sortAD, wipeC, isiS, List.any_cons, List.any_nil, Bool.or_false, Bool.or_true, Bool.true_or, Bool.false_or, Bool.and_self, Bool.false_and, Bool.and_false, Bool.and_true, Bool.true_and, String.reduceBEq, Bool.false_eq_true, Bool.true_eq_false]
  simp only [List.length_map]
  refine ⟨by omega, by omega, forK_i (fun i ρ' h' => h' = h ∧ ∃ c5 c6 c7 c8 c9, ρ' = [.fro (jd ys es), .fro (.lst (bs.map fun b => .str (mkS b))), .fro (.int mo), .fro told, .fro (.lst (((rowsC 0 bs ++ [[]]).map mkS).map D.str)), c5, c6, c7, c8, c9]) ⟨rfl, _, _, _, _, _, rfl⟩ ?_ ?_⟩
  · rintro i d ρ' h' hdd ⟨rfl, c5, c6, c7, c8, c9, rfl⟩
    obtain ⟨rfl, hi⟩ := rng_get hdd
    rw [Int.toNat_natCast] at hi
    have hbi := List.getElem?_eq_getElem hi
    have hb1 := hb _ (List.getElem_mem hi)
    have a1 : atI (bs.map fun b => D.str (mkS b)) (i : Int) = some (.str (mkS bs[i])) := atI_nat (by rw [List.getElem?_map, hbi]; rfl)
    have a2 : atI (((rowsC 0 bs ++ [[]]).map mkS).map D.str) (i : Int) = some (.str (mkS (rowC i bs[i]))) := by
      refine atI_nat ?_
      rw [List.getElem?_map, List.getElem?_map, List.getElem?_append_left (by rw [rowsC_len]; exact hi), rowsC_get hbi, Nat.zero_add]
      rfl
    have en : tl (Str.ofString (toString (i : Int))) = TL.numL i := TL.tl_num i
    have nl := numL_len (n := i) (by omega)
    have L : ∀ x : Str, (tl x).length ≤ 9000 → x.length ≤ sizeLine := fun x hx => by rw [tl_len, sizeLine_eq]; omega
    have small := rs_small (TL.numL i ++ (32 :: bs[i])) 7 (by decide) (by decide)
    have e1 : Str.ofString (toString (i : Int)) ++ Str.ofString " " ++ mkS bs[i] = mkS (TL.numL i ++ (32 :: bs[i])) := mkS_eq (by simp only [tl_cat, en, show tl (Str.ofString " ") = [32] from rfl, tl_mkS]; simp)
    simp only [startC, qVar, qPeek, qC, qBin, qUn, qNil, qCons, qTup, qLst, qCall, asB, qTest, qAnd, qOr, qNot, qAndV, qOrV, qNotV, qIfE, deref, qNext, qSeq, qSet, qSetN, qSetP, qRet, qRetN, qDrop, qIfS, qFreeze, qApp, onOwnL, qAsg, gqName, gqNil, gqCons, gqTup, qM1, qRng1, qEnum, qAny, asI, asL, itemsD, qPart, qNoPart, qCut, cutD, qCutL, cutLD, addD, subD, mulD, modD, fdivD, eqD, neD, eqS, onB, ltD, leD, gtD, geD, isND, lenD, intD, strD, ordD, listD, tupleD, ixD, PEnds.at, wipeC, qYes,
    List.map_cons, List.map_nil, List.replicate, List.cons_append, List.nil_append, List.append_assoc, List.getElem?_cons_zero, List.getElem?_cons_succ, List.set_cons_zero, List.set_cons_succ, List.length_cons, List.length_nil, Option.map_some, if_true, if_false, Bool.not_true, Bool.not_false, decide_eq_true_eq, Bool.not_eq_true', decide_eq_false_iff_not, Nat.reduceAdd, Nat.reduceSub, List.replicate_succ, List.replicate_zero, true_and, and_true, reduceCtorEq, isStr, qPutS, putS, powD, CPow, qPut, onOwn, setD, qPutP, onPtr, qDelP, delD, qPutF, setF, qProp, qMeth, qMake, isObj, fldD, minD, maxD, qChain, revD, lrevD, isiD, tyD, qOrT, qAndT, onTru, truD, qJoined, qjCons, qjNil, fmtD, fmt5D, D.int.injEq, D.str.injEq, D.lst.injEq, D.tup.injEq, D.bl.injEq, false_implies, true_implies, ne_eq, not_false_eq_true, not_true_eq_false, forall_const, implies_true, false_and, and_false, exists_eq_left, exists_eq_left', Int.reduceEq, Int.reduceLT, Int.reduceNe, Int.reduceLE, or_false, false_or, or_true, true_or, qLc, qFor, qWhile, allD, sortAD, wipeC, isiS, List.any_cons, List.any_nil, Bool.or_false, Bool.or_true, Bool.true_or, Bool.false_or, Bool.and_self, Bool.false_and, Bool.and_false, Bool.and_true, Bool.true_and, String.reduceBEq, Bool.false_eq_true, Bool.true_eq_false]
    have l1 : (Str.ofString (toString (i : Int))).length + (Str.ofString " ").length ≤ sizeLine := by
      rw [tl_len, en, sizeLine_eq, show (Str.ofString " ").length = 1 from rfl]
      omega
    have l2 : (Str.ofString (toString (i : Int)) ++ Str.ofString " ").length + (mkS bs[i]).length ≤ sizeLine := by
      rw [tl_len, tl_cat, en, sizeLine_eq, mkS_len, show tl (Str.ofString " ") = [32] from rfl, List.length_append, List.length_singleton]
      omega
    have l3 : (mkS (TL.numL i ++ (32 :: bs[i]))).length ≤ sizeLine := L _ (by rw [tl_mkS, List.length_append, List.length_cons]; omega)
    obtain ⟨s, hs⟩ : ∃ s : Nat, rs 7 (TL.numL i ++ (32 :: bs[i])) = (s : Int) := ⟨_, (Int.toNat_of_nonneg small.1).symm⟩
    have hs5 : s < 100000 := by omega
    refine ⟨nat_log (by omega), l1, _, a1, ?_⟩
    simp only [startC, qVar, qPeek, qC, qBin, qUn, qNil, qCons, qTup, qLst, qCall, asB, qTest, qAnd, qOr, qNot, qAndV, qOrV, qNotV, qIfE, deref, qNext, qSeq, qSet, qSetN, qSetP, qRet, qRetN, qDrop, qIfS, qFreeze, qApp, onOwnL, qAsg, gqName, gqNil, gqCons, gqTup, qM1, qRng1, qEnum, qAny, asI, asL, itemsD, qPart, qNoPart, qCut, cutD, qCutL, cutLD, addD, subD, mulD, modD, fdivD, eqD, neD, eqS, onB, ltD, leD, gtD, geD, isND, lenD, intD, strD, ordD, listD, tupleD, ixD, PEnds.at, wipeC, qYes,
    List.map_cons, List.map_nil, List.replicate, List.cons_append, List.nil_append, List.append_assoc, List.getElem?_cons_zero, List.getElem?_cons_succ, List.set_cons_zero, List.set_cons_succ, List.length_cons, List.length_nil, Option.map_some, if_true, if_false, Bool.not_true, Bool.not_false, decide_eq_true_eq, Bool.not_eq_true', decide_eq_false_iff_not, Nat.reduceAdd, Nat.reduceSub, List.replicate_succ, List.replicate_zero, true_and, and_true, reduceCtorEq, isStr, qPutS, putS, powD, CPow, qPut, onOwn, setD, qPutP, onPtr, qDelP, delD, qPutF, setF, qProp, qMeth, qMake, isObj, fldD, minD, maxD, qChain, revD, lrevD, isiD, tyD, qOrT, qAndT, onTru, truD, qJoined, qjCons, qjNil, fmtD, fmt5D, D.int.injEq, D.str.injEq, D.lst.injEq, D.tup.injEq, D.bl.injEq, false_implies, true_implies, ne_eq, not_false_eq_true, not_true_eq_false, forall_const, implies_true, false_and, and_false, exists_eq_left, exists_eq_left', Int.reduceEq, Int.reduceLT, Int.reduceNe, Int.reduceLE, or_false, false_or, or_true, true_or, qLc, qFor, qWhile, allD, sortAD, wipeC, isiS, List.any_cons, List.any_nil, Bool.or_false, Bool.or_true, Bool.true_or, Bool.false_or, Bool.and_self, Bool.false_and, Bool.and_false, Bool.and_true, Bool.true_and, String.reduceBEq, Bool.false_eq_true, Bool.true_eq_false]
    rw [e1]
    refine ⟨l2, _, rfl, l3, ?_⟩
    rw [show (mkS (TL.numL i ++ (32 :: bs[i]))).cps.toList = TL.numL i ++ (32 :: bs[i]) from rfl, hs]
    refine lcK_i (fun j acc h2 => h2 = h' ∧ acc = ((d5 s).take j).map fun c => D.str ⟨#[c]⟩) ⟨rfl, rfl⟩ ?_ ?_
    · rintro j d acc h2 hd2 ⟨rfl, rfl⟩
      obtain ⟨p, hp, rfl, hj, hj5⟩ : ∃ p : Nat, (p = 10000 ∨ p = 1000 ∨ p = 100 ∨ p = 10 ∨ p = 1) ∧ d = .int (p : Int) ∧ (d5 s)[j]? = some (48 + s / p % 10) ∧ j < 5 := by
        rcases j with _ | _ | _ | _ | _ | j
        · exact ⟨10000, by simp, by simpa using hd2.symm, rfl, by omega⟩
        · exact ⟨1000, by simp, by simpa using hd2.symm, rfl, by omega⟩
        · exact ⟨100, by simp, by simpa using hd2.symm, rfl, by omega⟩
        · exact ⟨10, by simp, by simpa using hd2.symm, rfl, by omega⟩
        · exact ⟨1, by simp, by simpa using hd2.symm, by rw [Nat.div_one]; rfl, by omega⟩
        · simp at hd2
      have ef : (s : Int).fdiv (p : Int) = ((s / p : Nat) : Int) := by
        rw [fdiv_ediv (by omega)]
        rfl
      simp only [startC, qVar, qPeek, qC, qBin, qUn, qNil, qCons, qTup, qLst, qCall, asB, qTest, qAnd, qOr, qNot, qAndV, qOrV, qNotV, qIfE, deref, qNext, qSeq, qSet, qSetN, qSetP, qRet, qRetN, qDrop, qIfS, qFreeze, qApp, onOwnL, qAsg, gqName, gqNil, gqCons, gqTup, qM1, qRng1, qEnum, qAny, asI, asL, itemsD, qPart, qNoPart, qCut, cutD, qCutL, cutLD, addD, subD, mulD, modD, fdivD, eqD, neD, eqS, onB, ltD, leD, gtD, geD, isND, lenD, intD, strD, ordD, listD, tupleD, ixD, PEnds.at, wipeC, qYes,
    List.map_cons, List.map_nil, List.replicate, List.cons_append, List.nil_append, List.append_assoc, List.getElem?_cons_zero, List.getElem?_cons_succ, List.set_cons_zero, List.set_cons_succ, List.length_cons, List.length_nil, Option.map_some, if_true, if_false, Bool.not_true, Bool.not_false, decide_eq_true_eq, Bool.not_eq_true', decide_eq_false_iff_not, Nat.reduceAdd, Nat.reduceSub, List.replicate_succ, List.replicate_zero, true_and, and_true, reduceCtorEq, isStr, qPutS, putS, powD, CPow, qPut, onOwn, setD, qPutP, onPtr, qDelP, delD, qPutF, setF, qProp, qMeth, qMake, isObj, fldD, minD, maxD, qChain, revD, lrevD, isiD, tyD, qOrT, qAndT, onTru, truD, qJoined, qjCons, qjNil, fmtD, fmt5D, D.int.injEq, D.str.injEq, D.lst.injEq, D.tup.injEq, D.bl.injEq, false_implies, true_implies, ne_eq, not_false_eq_true, not_true_eq_false, forall_const, implies_true, false_and, and_false, exists_eq_left, exists_eq_left', Int.reduceEq, Int.reduceLT, Int.reduceNe, Int.reduceLE, or_false, false_or, or_true, true_or, qLc, qFor, qWhile, allD, sortAD, wipeC, isiS, List.any_cons, List.any_nil, Bool.or_false, Bool.or_true, Bool.true_or, Bool.false_or, Bool.and_self, Bool.false_and, Bool.and_false, Bool.and_true, Bool.true_and, String.reduceBEq, Bool.false_eq_true, Bool.true_eq_false]
      rw [ef]
      have hlt : s / p ≤ s := Nat.div_le_self _ _
      refine ⟨⟨by omega, by omega⟩, nat_log (by omega), ?_, _, last_digit _, ?_, ?_⟩
      · rw [tl_len, show tl (Str.ofString (toString ((s / p : Nat) : Int))) = TL.numL (s / p) from TL.tl_num _, sizeLine_eq]
        have := numL_len (n := s / p) (by omega)
        omega
      · rw [List.length_map, List.length_take, sizeLine_eq]
        omega
      · rw [take_snoc hj, List.map_append]
        rfl
    · rintro acc h2 ⟨rfl, rfl⟩
      have ed : Txt.join (Str.ofString "") ((d5 s).map fun c => (⟨#[c]⟩ : Str)) = mkS (d5 s) := mkS_eq (by rw [tl_join, show tl (Str.ofString "") = [] from rfl, joinL_nil]; rfl)
      have one : ∀ x ∈ (d5 s).map fun c => (⟨#[c]⟩ : Str), x.length = 1 := fun x hx => by
        obtain ⟨c, _, rfl⟩ := List.mem_map.mp hx
        rfl
      have er : Str.ofString (toString (i : Int)) ++ Str.ofString " " ++ mkS (d5 s) ++ Str.ofString " " ++ mkS bs[i] = mkS (rowC i bs[i]) := mkS_eq (by
        unfold rowC
        rw [hs, pad5L_eq hs5]
        simp only [tl_cat, en, show tl (Str.ofString " ") = [32] from rfl, tl_mkS]
        simp)
      rw [show (List.take [D.int 10000, D.int 1000, D.int 100, D.int 10, D.int 1].length (d5 s)) = d5 s from rfl]
      refine ⟨Str.ofString "", (d5 s).map fun c => ⟨#[c]⟩, rfl, .inl (by rw [List.map_map]; rfl), ?_, ?_⟩
      · rw [sum_ones one]
        show (d5 s).length + _ * 0 ≤ _
        show 5 + _ * 0 ≤ _
        omega
      rw [ed]
      refine ⟨_, a2, nat_log (by omega), l1, ?_⟩
      simp only [startC, qVar, qPeek, qC, qBin, qUn, qNil, qCons, qTup, qLst, qCall, asB, qTest, qAnd, qOr, qNot, qAndV, qOrV, qNotV, qIfE, deref, qNext, qSeq, qSet, qSetN, qSetP, qRet, qRetN, qDrop, qIfS, qFreeze, qApp, onOwnL, qAsg, gqName, gqNil, gqCons, gqTup, qM1, qRng1, qEnum, qAny, asI, asL, itemsD, qPart, qNoPart, qCut, cutD, qCutL, cutLD, addD, subD, mulD, modD, fdivD, eqD, neD, eqS, onB, ltD, leD, gtD, geD, isND, lenD, intD, strD, ordD, listD, tupleD, ixD, PEnds.at, wipeC, qYes,
    List.map_cons, List.map_nil, List.replicate, List.cons_append, List.nil_append, List.append_assoc, List.getElem?_cons_zero, List.getElem?_cons_succ, List.set_cons_zero, List.set_cons_succ, List.length_cons, List.length_nil, Option.map_some, if_true, if_false, Bool.not_true, Bool.not_false, decide_eq_true_eq, Bool.not_eq_true', decide_eq_false_iff_not, Nat.reduceAdd, Nat.reduceSub, List.replicate_succ, List.replicate_zero, true_and, and_true, reduceCtorEq, isStr, qPutS, putS, powD, CPow, qPut, onOwn, setD, qPutP, onPtr, qDelP, delD, qPutF, setF, qProp, qMeth, qMake, isObj, fldD, minD, maxD, qChain, revD, lrevD, isiD, tyD, qOrT, qAndT, onTru, truD, qJoined, qjCons, qjNil, fmtD, fmt5D, D.int.injEq, D.str.injEq, D.lst.injEq, D.tup.injEq, D.bl.injEq, false_implies, true_implies, ne_eq, not_false_eq_true, not_true_eq_false, forall_const, implies_true, false_and, and_false, exists_eq_left, exists_eq_left', Int.reduceEq, Int.reduceLT, Int.reduceNe, Int.reduceLE, or_false, false_or, or_true, true_or, qLc, qFor, qWhile, allD, sortAD, wipeC, isiS, List.any_cons, List.any_nil, Bool.or_false, Bool.or_true, Bool.true_or, Bool.false_or, Bool.and_self, Bool.false_and, Bool.and_false, Bool.and_true, Bool.true_and, String.reduceBEq, Bool.false_eq_true, Bool.true_eq_false]
      have m5 : (mkS (d5 s)).length = 5 := by rw [mkS_len]; rfl
      have l4 : (Str.ofString (toString (i : Int)) ++ Str.ofString " ").length + (mkS (d5 s)).length ≤ sizeLine := by
        rw [m5, tl_len, tl_cat, en, sizeLine_eq, show tl (Str.ofString " ") = [32] from rfl, List.length_append, List.length_singleton]
        omega
      have l5 : (Str.ofString (toString (i : Int)) ++ Str.ofString " " ++ mkS (d5 s)).length + (Str.ofString " ").length ≤ sizeLine := by
        rw [show (Str.ofString " ").length = 1 from rfl, tl_len, tl_cat, tl_cat, en, sizeLine_eq, show tl (Str.ofString " ") = [32] from rfl, tl_mkS, List.length_append, List.length_append, List.length_singleton]
        show _ + 5 + 1 ≤ _
        omega
      have l6 : (Str.ofString (toString (i : Int)) ++ Str.ofString " " ++ mkS (d5 s) ++ Str.ofString " ").length + (mkS bs[i]).length ≤ sizeLine := by
        rw [mkS_len, tl_len, tl_cat, tl_cat, tl_cat, en, sizeLine_eq, show tl (Str.ofString " ") = [32] from rfl, tl_mkS, List.length_append, List.length_append, List.length_append, List.length_singleton]
        show _ + 5 + 1 + _ ≤ _
        omega
      refine ⟨l4, l5, _, a1, ?_⟩
      simp only [startC, qVar, qPeek, qC, qBin, qUn, qNil, qCons, qTup, qLst, qCall, asB, qTest, qAnd, qOr, qNot, qAndV, qOrV, qNotV, qIfE, deref, qNext, qSeq, qSet, qSetN, qSetP, qRet, qRetN, qDrop, qIfS, qFreeze, qApp, onOwnL, qAsg, gqName, gqNil, gqCons, gqTup, qM1, qRng1, qEnum, qAny, asI, asL, itemsD, qPart, qNoPart, qCut, cutD, qCutL, cutLD, addD, subD, mulD, modD, fdivD, eqD, neD, eqS, onB, ltD, leD, gtD, geD, isND, lenD, intD, strD, ordD, listD, tupleD, ixD, PEnds.at, wipeC, qYes,
    List.map_cons, List.map_nil, List.replicate, List.cons_append, List.nil_append, List.append_assoc, List.getElem?_cons_zero, List.getElem?_cons_succ, List.set_cons_zero, List.set_cons_succ, List.length_cons, List.length_nil, Option.map_some, if_true, if_false, Bool.not_true, Bool.not_false, decide_eq_true_eq, Bool.not_eq_true', decide_eq_false_iff_not, Nat.reduceAdd, Nat.reduceSub, List.replicate_succ, List.replicate_zero, true_and, and_true, reduceCtorEq, isStr, qPutS, putS, powD, CPow, qPut, onOwn, setD, qPutP, onPtr, qDelP, delD, qPutF, setF, qProp, qMeth, qMake, isObj, fldD, minD, maxD, qChain, revD, lrevD, isiD, tyD, qOrT, qAndT, onTru, truD, qJoined, qjCons, qjNil, fmtD, fmt5D, D.int.injEq, D.str.injEq, D.lst.injEq, D.tup.injEq, D.bl.injEq, false_implies, true_implies, ne_eq, not_false_eq_true, not_true_eq_false, forall_const, implies_true, false_and, and_false, exists_eq_left, exists_eq_left', Int.reduceEq, Int.reduceLT, Int.reduceNe, Int.reduceLE, or_false, false_or, or_true, true_or, qLc, qFor, qWhile, allD, sortAD, wipeC, isiS, List.any_cons, List.any_nil, Bool.or_false, Bool.or_true, Bool.true_or, Bool.false_or, Bool.and_self, Bool.false_and, Bool.and_false, Bool.and_true, Bool.true_and, String.reduceBEq, Bool.false_eq_true, Bool.true_eq_false]
      refine ⟨l6, ?_⟩
      rw [er, if_neg (fun z => z rfl)]
      split
      · refine ⟨_, rfl, ?_⟩
        rw [show (mkS (TL.numL i ++ (32 :: bs[i]))).cps.toList = TL.numL i ++ (32 :: bs[i]) from rfl, hs]
        refine ⟨(s : Int), d5_int hs5, by rw [m5]; decide, .int s, rfl, ⟨trivial, fun x hx => by cases hx⟩, ?_⟩
        simp only [startC, qVar, qPeek, qC, qBin, qUn, qNil, qCons, qTup, qLst, qCall, asB, qTest, qAnd, qOr, qNot, qAndV, qOrV, qNotV, qIfE, deref, qNext, qSeq, qSet, qSetN, qSetP, qRet, qRetN, qDrop, qIfS, qFreeze, qApp, onOwnL, qAsg, gqName, gqNil, gqCons, gqTup, qM1, qRng1, qEnum, qAny, asI, asL, itemsD, qPart, qNoPart, qCut, cutD, qCutL, cutLD, addD, subD, mulD, modD, fdivD, eqD, neD, eqS, onB, ltD, leD, gtD, geD, isND, lenD, intD, strD, ordD, listD, tupleD, ixD, PEnds.at, wipeC, qYes,
    List.map_cons, List.map_nil, List.replicate, List.cons_append, List.nil_append, List.append_assoc, List.getElem?_cons_zero, List.getElem?_cons_succ, List.set_cons_zero, List.set_cons_succ, List.length_cons, List.length_nil, Option.map_some, if_true, if_false, Bool.not_true, Bool.not_false, decide_eq_true_eq, Bool.not_eq_true', decide_eq_false_iff_not, Nat.reduceAdd, Nat.reduceSub, List.replicate_succ, List.replicate_zero, true_and, and_true, reduceCtorEq, isStr, qPutS, putS, powD, CPow, qPut, onOwn, setD, qPutP, onPtr, qDelP, delD, qPutF, setF, qProp, qMeth, qMake, isObj, fldD, minD, maxD, qChain, revD, lrevD, isiD, tyD, qOrT, qAndT, onTru, truD, qJoined, qjCons, qjNil, fmtD, fmt5D, D.int.injEq, D.str.injEq, D.lst.injEq, D.tup.injEq, D.bl.injEq, false_implies, true_implies, ne_eq, not_false_eq_true, not_true_eq_false, forall_const, implies_true, false_and, and_false, exists_eq_left, exists_eq_left', Int.reduceEq, Int.reduceLT, Int.reduceNe, Int.reduceLE, or_false, false_or, or_true, true_or, qLc, qFor, qWhile, allD, sortAD, wipeC, isiS, List.any_cons, List.any_nil, Bool.or_false, Bool.or_true, Bool.true_or, Bool.false_or, Bool.and_self, Bool.false_and, Bool.and_false, Bool.and_true, Bool.true_and, String.reduceBEq, Bool.false_eq_true, Bool.true_eq_false]
        exact ⟨_, _, _, _, _, rfl⟩
      · exact ⟨_, _, _, _, _, rfl⟩
  · rintro ρ' h' ⟨rfl, c5, c6, c7, c8, c9, rfl⟩
    simp only [startC, qVar, qPeek, qC, qBin, qUn, qNil, qCons, qTup, qLst, qCall, asB, qTest, qAnd, qOr, qNot, qAndV, qOrV, qNotV, qIfE, deref, qNext, qSeq, qSet, qSetN, qSetP, qRet, qRetN, qDrop, qIfS, qFreeze, qApp, onOwnL, qAsg, gqName, gqNil, gqCons, gqTup, qM1, qRng1, qEnum, qAny, asI, asL, itemsD, qPart, qNoPart, qCut, cutD, qCutL, cutLD, addD, subD, mulD, modD, fdivD, eqD, neD, eqS, onB, ltD, leD, gtD, geD, isND, lenD, intD, strD, ordD, listD, tupleD, ixD, PEnds.at, wipeC, qYes,
    List.map_cons, List.map_nil, List.replicate, List.cons_append, List.nil_append, List.append_assoc, List.getElem?_cons_zero, List.getElem?_cons_succ, List.set_cons_zero, List.set_cons_succ, List.length_cons, List.length_nil, Option.map_some, if_true, if_false, Bool.not_true, Bool.not_false, decide_eq_true_eq, Bool.not_eq_true', decide_eq_false_iff_not, Nat.reduceAdd, Nat.reduceSub, List.replicate_succ, List.replicate_zero, true_and, and_true, reduceCtorEq, isStr, qPutS, putS, powD, CPow, qPut, onOwn, setD, qPutP, onPtr, qDelP, delD, qPutF, setF, qProp, qMeth, qMake, isObj, fldD, minD, maxD, qChain, revD, lrevD, isiD, tyD, qOrT, qAndT, onTru, truD, qJoined, qjCons, qjNil, fmtD, fmt5D, D.int.injEq, D.str.injEq, D.lst.injEq, D.tup.injEq, D.bl.injEq, false_implies, true_implies, ne_eq, not_false_eq_true, not_true_eq_false, forall_const, implies_true, false_and, and_false, exists_eq_left, exists_eq_left', Int.reduceEq, Int.reduceLT, Int.reduceNe, Int.reduceLE, or_false, false_or, or_true, true_or, qLc, qFor, qWhile, allD, sortAD, wipeC, isiS, List.any_cons, List.any_nil, Bool.or_false, Bool.or_true, Bool.true_or, Bool.false_or, Bool.and_self, Bool.false_and, Bool.and_false, Bool.and_true, Bool.true_and, String.reduceBEq, Bool.false_eq_true, Bool.true_eq_false]
    exact hQ
theorem bodies_ok {ys : List Str} {es : List Deed} (hl : ys.length ≤ 32) (hn : ∀ s ∈ ys, nameB s = true) (hd : ∀ e ∈ es, ∀ s ∈ e.row, s.length ≤ 12 ∧ 10 ∉ tl s) : ∀ b ∈ bodies ys es, b.length ≤ 2000 ∧ 10 ∉ b := by
  intro b hb
  have e1 : (tl (Str.ofString " ")).length = 1 := rfl
  rcases List.mem_cons.mp hb with rfl | hb
  · have h12 : ∀ s ∈ Str.ofString "houses" :: ys, s.length ≤ 12 := fun s hs => by
      rcases List.mem_cons.mp hs with rfl | hs
      · decide
      · exact nameB_len (hn s hs)
    have b2 := join_le (a := Str.ofString " ") h12
    rw [List.length_cons, e1] at b2
    refine ⟨?_, ?_⟩
    · show (TL.joinL (tl (Str.ofString " ")) ((Str.ofString "houses" :: ys).map tl)).length ≤ _
      omega
    · refine joinL_free (by decide) fun p hp => ?_
      rcases List.mem_cons.mp hp with rfl | hp
      · decide
      · obtain ⟨s, hs, rfl⟩ := List.mem_map.mp hp
        exact nameB_free (hn s hs)
  · obtain ⟨e, he, rfl⟩ := List.mem_map.mp hb
    have b2 := join_le (a := Str.ofString " ") (fun s hs => (hd e he s hs).1)
    have hr := row_len e
    rw [e1] at b2
    refine ⟨?_, ?_⟩
    · show (TL.joinL (tl (Str.ofString " ")) (e.row.map tl)).length ≤ _
      omega
    · refine joinL_free (by decide) fun p hp => ?_
      obtain ⟨s, hs, rfl⟩ := List.mem_map.mp hp
      exact (hd e he s hs).2
theorem v__law_rows (ds : List D) (h : PHp) (Qp : D → PHp → Prop) (Ep : XP) : sp__law_rows ds h Qp Ep → q__law_rows (PE0 Qp Ep) (startC 10 ds) h := by
  rintro ⟨ys, es, mo, rfl, hl, hn, he, hd, hQ⟩
  simp only [q__law_rows, startC, qVar, qPeek, qC, qBin, qUn, qNil, qCons, qTup, qLst, qCall, asB, qTest, qAnd, qOr, qNot, qAndV, qOrV, qNotV, qIfE, deref, qNext, qSeq, qSet, qSetN, qSetP, qRet, qRetN, qDrop, qIfS, qFreeze, qApp, onOwnL, qAsg, gqName, gqNil, gqCons, gqTup, qM1, qRng1, qEnum, qAny, asI, asL, itemsD, qPart, qNoPart, qCut, cutD, qCutL, cutLD, addD, subD, mulD, modD, fdivD, eqD, neD, eqS, onB, ltD, leD, gtD, geD, isND, lenD, intD, strD, ordD, listD, tupleD, ixD, PEnds.at, wipeC, qYes,
    List.map_cons, List.map_nil, List.replicate, List.cons_append, List.nil_append, List.append_assoc, List.getElem?_cons_zero, List.getElem?_cons_succ, List.set_cons_zero, List.set_cons_succ, List.length_cons, List.length_nil, Option.map_some, if_true, if_false, Bool.not_true, Bool.not_false, decide_eq_true_eq, Bool.not_eq_true', decide_eq_false_iff_not, Nat.reduceAdd, Nat.reduceSub, List.replicate_succ, List.replicate_zero, true_and, and_true, reduceCtorEq, isStr, qPutS, putS, powD, CPow, qPut, onOwn, setD, qPutP, onPtr, qDelP, delD, qPutF, setF, qProp, qMeth, qMake, isObj, fldD, minD, maxD, qChain, revD, lrevD, isiD, tyD, qOrT, qAndT, onTru, truD, qJoined, qjCons, qjNil, fmtD, fmt5D, D.int.injEq, D.str.injEq, D.lst.injEq, D.tup.injEq, D.bl.injEq, false_implies, true_implies, ne_eq, not_false_eq_true, not_true_eq_false, forall_const, implies_true, false_and, and_false, exists_eq_left, exists_eq_left', Int.reduceEq, Int.reduceLT, Int.reduceNe, Int.reduceLE, or_false, false_or, or_true, true_or, qLc, qFor, qWhile, allD, sortAD, wipeC, isiS, List.any_cons, List.any_nil, Bool.or_false, Bool.or_true, Bool.true_or, Bool.false_or, Bool.and_self, Bool.false_and, Bool.and_false, Bool.and_true, Bool.true_and, String.reduceBEq, Bool.false_eq_true, Bool.true_eq_false]
  refine ⟨ys, es, rfl, hl, hn, he, fun e he' s hs => (hd e he' s hs).1, ?_⟩
  simp only [startC, qVar, qPeek, qC, qBin, qUn, qNil, qCons, qTup, qLst, qCall, asB, qTest, qAnd, qOr, qNot, qAndV, qOrV, qNotV, qIfE, deref, qNext, qSeq, qSet, qSetN, qSetP, qRet, qRetN, qDrop, qIfS, qFreeze, qApp, onOwnL, qAsg, gqName, gqNil, gqCons, gqTup, qM1, qRng1, qEnum, qAny, asI, asL, itemsD, qPart, qNoPart, qCut, cutD, qCutL, cutLD, addD, subD, mulD, modD, fdivD, eqD, neD, eqS, onB, ltD, leD, gtD, geD, isND, lenD, intD, strD, ordD, listD, tupleD, ixD, PEnds.at, wipeC, qYes,
    List.map_cons, List.map_nil, List.replicate, List.cons_append, List.nil_append, List.append_assoc, List.getElem?_cons_zero, List.getElem?_cons_succ, List.set_cons_zero, List.set_cons_succ, List.length_cons, List.length_nil, Option.map_some, if_true, if_false, Bool.not_true, Bool.not_false, decide_eq_true_eq, Bool.not_eq_true', decide_eq_false_iff_not, Nat.reduceAdd, Nat.reduceSub, List.replicate_succ, List.replicate_zero, true_and, and_true, reduceCtorEq, isStr, qPutS, putS, powD, CPow, qPut, onOwn, setD, qPutP, onPtr, qDelP, delD, qPutF, setF, qProp, qMeth, qMake, isObj, fldD, minD, maxD, qChain, revD, lrevD, isiD, tyD, qOrT, qAndT, onTru, truD, qJoined, qjCons, qjNil, fmtD, fmt5D, D.int.injEq, D.str.injEq, D.lst.injEq, D.tup.injEq, D.bl.injEq, false_implies, true_implies, ne_eq, not_false_eq_true, not_true_eq_false, forall_const, implies_true, false_and, and_false, exists_eq_left, exists_eq_left', Int.reduceEq, Int.reduceLT, Int.reduceNe, Int.reduceLE, or_false, false_or, or_true, true_or, qLc, qFor, qWhile, allD, sortAD, wipeC, isiS, List.any_cons, List.any_nil, Bool.or_false, Bool.or_true, Bool.true_or, Bool.false_or, Bool.and_self, Bool.false_and, Bool.and_false, Bool.and_true, Bool.true_and, String.reduceBEq, Bool.false_eq_true, Bool.true_eq_false, splitD]
  have bo := bodies_ok hl hn hd
  have bl : (bodies ys es).length = es.length + 1 := by
    show (bodyH ys :: es.map bodyD).length = _
    rw [List.length_cons, List.length_map]
  have fl : (rowsL 0 (bodies ys es)).flatten.length ≤ 241 * 2100 := by
    have hb : ∀ s ∈ (rowsL 0 (bodies ys es)).map mkS, s.length ≤ 2100 := fun s hs => by
      obtain ⟨r, hr, rfl⟩ := List.mem_map.mp hs
      obtain ⟨k, b, h1, h2, rfl⟩ := rowsL_mem hr
      have h3 := rowL_len (n := k) (b := b) (by omega)
      have h4 := (bo b h1).1
      rw [mkS_len]
      omega
    have h5 := sum_le hb
    rw [List.length_map, rowsL_len, List.map_map] at h5
    rw [List.length_flatten]
    have e6 : ((rowsL 0 (bodies ys es)).map ((fun x : Str => x.length) ∘ mkS)).sum = ((rowsL 0 (bodies ys es)).map List.length).sum := rfl
    omega
  rw [split_rows fun b hb => (bo b hb).2]
  refine ⟨rfl, by rw [mkS_len, sizeLine_eq]; omega, ?_⟩
  rw [if_neg (fun z => z (by simp only [List.length_map, List.length_append, rowsC_len, List.length_singleton]; omega))]
  refine ⟨.str (mkS []), by rw [List.map_append, List.map_append]; exact atI_last, ?_⟩
  simp only [startC, qVar, qPeek, qC, qBin, qUn, qNil, qCons, qTup, qLst, qCall, asB, qTest, qAnd, qOr, qNot, qAndV, qOrV, qNotV, qIfE, deref, qNext, qSeq, qSet, qSetN, qSetP, qRet, qRetN, qDrop, qIfS, qFreeze, qApp, onOwnL, qAsg, gqName, gqNil, gqCons, gqTup, qM1, qRng1, qEnum, qAny, asI, asL, itemsD, qPart, qNoPart, qCut, cutD, qCutL, cutLD, addD, subD, mulD, modD, fdivD, eqD, neD, eqS, onB, ltD, leD, gtD, geD, isND, lenD, intD, strD, ordD, listD, tupleD, ixD, PEnds.at, wipeC, qYes,
    List.map_cons, List.map_nil, List.replicate, List.cons_append, List.nil_append, List.append_assoc, List.getElem?_cons_zero, List.getElem?_cons_succ, List.set_cons_zero, List.set_cons_succ, List.length_cons, List.length_nil, Option.map_some, if_true, if_false, Bool.not_true, Bool.not_false, decide_eq_true_eq, Bool.not_eq_true', decide_eq_false_iff_not, Nat.reduceAdd, Nat.reduceSub, List.replicate_succ, List.replicate_zero, true_and, and_true, reduceCtorEq, isStr, qPutS, putS, powD, CPow, qPut, onOwn, setD, qPutP, onPtr, qDelP, delD, qPutF, setF, qProp, qMeth, qMake, isObj, fldD, minD, maxD, qChain, revD, lrevD, isiD, tyD, qOrT, qAndT, onTru, truD, qJoined, qjCons, qjNil, fmtD, fmt5D, D.int.injEq, D.str.injEq, D.lst.injEq, D.tup.injEq, D.bl.injEq, false_implies, true_implies, ne_eq, not_false_eq_true, not_true_eq_false, forall_const, implies_true, false_and, and_false, exists_eq_left, exists_eq_left', Int.reduceEq, Int.reduceLT, Int.reduceNe, Int.reduceLE, or_false, false_or, or_true, true_or, qLc, qFor, qWhile, allD, sortAD, wipeC, isiS, List.any_cons, List.any_nil, Bool.or_false, Bool.or_true, Bool.true_or, Bool.false_or, Bool.and_self, Bool.false_and, Bool.and_false, Bool.and_true, Bool.true_and, String.reduceBEq, Bool.false_eq_true, Bool.true_eq_false]
  rw [if_neg (fun z => z rfl)]
  exact rows4 (fun b hb => (bo b hb).1) (by omega) hQ
theorem c__law_rows (G : GE K mg) : Cal P w K mg base "_law_rows" ["_law_journal", "_law_bodies_here", "_law_moment"] 7 sp__law_rows :=
  cal_of G.f__law_rows sc__law_rows (fun _ _ F => F.bindsN fun _ _ _ _ _ _ us hl => match us, hl with | [_, _, _], _ => rfl) (fun _ _ _ _ ⟨_, _, _, e, _⟩ => by rw [e]; rfl) (w__law_rows G (c__law_due_sum G) (c__law_like G) (c_record_sum G) (c_write_log G)) v__law_rows
end Pu.L70
set_option Elab.async false
set_option linter.all false
set_option maxRecDepth 100000
set_option maxHeartbeats 4000000
set_option autoImplicit false
namespace Pu.L70
open PySem PySem.Spec PyProof.Rows L2
variable {P : Program} {w : World} {K : PySem.W.Frag} {mg : Str → Option Value} {base : Heap}
abbrev WkRest (n : Nat) (P : Program) (w : World) (K : PySem.W.Frag) (mg : Str → Option Value) (base : Heap) (N : List Str) (x : Str) (st : Stmt) (k : Nat) (q : RS) : Prop :=
  ∀ (f : Addr) (cdv : Value) (A : Around) (outer : List Env) (s : Shared) (H : Hp) (E : XK), Room k (A.deeper (envOfC x (defScope st) s.heap.objs.size f cdv)) → Takes (cxOf (L2.CX P w) P w K mg base N x (defScope st) f cdv A outer s H E) (WF E) →
    QSs (cxOf (L2.CX P w) P w K mg base N x (defScope st) f cdv A outer s H E) (WF E) ((defBody st).drop n) q
theorem sc_law : FnScope ["_law_script", "_law_store_here", "_law_houses_here", "_law_many", "_law_deeds", "_law_journal", "_law_bodies_here", "_law_moment", "_law_part"] ["_law_script"] (defScope s_law) := ⟨rfl, rfl, rfl, by decide +kernel, rfl, by decide +kernel, by decide +kernel⟩
def q_law__4 : RS := (qSeq (qSet 4 (qCall sp__law_doings (qCons (qVar 1) (qCons (qVar 2) (qCons (qVar 3) (qCons (qC (.int 12)) qNil))))))
  (qSeq (qSet 5 (qMake "Journal" sp_Journal____init__ (qCons (qCall sp__law_shuffled (qCons (qVar 1) (qCons (qVar 2) qNil))) (qCons (qCall sp__law_handed_deeds (qCons (qVar 1) (qCons (qVar 4) qNil))) qNil))))
  (qSeq (qSet 6 (qCall sp__law_bodies (qCons (qVar 2) (qCons (qVar 4) qNil))))
  (qSeq (qSet 7 (qCall sp__law_take (qCons (qVar 1) (qCons (qUn lenD (qPeek 6)) qNil))))
  (qSeq (qIfS (qNot (qTest (qCall sp__law_rows (qCons (qVar 5) (qCons (qVar 6) (qCons (qVar 7) qNil)))))) (qRet (qC (.bl false))) qNext)
  (qSeq (qSet 8 (qMeth "Journal" "prefix" sp_Journal__prefix (qVar 5) (qCons (qVar 7) qNil)))
  (qSeq (qIfS (qOr (qNot (qTest (qCall sp__law_rows (qCons (qVar 8) (qCons (qCut (qPeek 6) qNoPart (qPart (qBin addD (qPeek 7) (qC (.int 1))))) (qCons (qC (.int 0)) qNil)))))) (qNot (qTest (qM1 startsD (qCall sp_write_log (qCons (qVar 5) qNil)) (qCall sp_write_log (qCons (qVar 8) qNil)))))) (qRet (qC (.bl false))) qNext)
  (qSeq (qIfS (qNot (qTest (qCall sp__law_rows (qCons (qMake "Journal" sp_Journal____init__ (qCons (qLst qNil) (qCons (qLst qNil) qNil))) (qCons (qLst (qCons (qC (.str (Str.ofString "houses"))) qNil)) (qCons (qC (.int 0)) qNil)))))) (qRet (qC (.bl false))) qNext)
  (qRet (qCall sp__law_like (qCons (qLst (qCons (qProp "Journal" sp_Journal__deeds (qVar 5)) (qCons (qProp "Journal" sp_Journal__houses (qVar 5)) qNil))) (qCons (qLst (qCons (qVar 4) (qCons (qUn sortAD (qPeek 2)) qNil))) qNil))))))))))))
def q_law : RS := (qSeq (qIfS (qNot (qTest (qCall sp__law_sums (qCons (qVar 1) qNil)))) (qRet (qC (.bl false))) qNext)
  (qSeq (qSet 2 (qCall sp__law_houses (qCons (qVar 1) (qCons (qC (.int 32)) qNil))))
  (qSeq (qSet 3 (qCall sp__law_between (qCons (qVar 1) (qCons (qC (.int 0)) (qCons (qC (.int 30)) qNil)))))
  (qSeq (qIfS (qTest (qBin eqD (qCall sp__law_take (qCons (qVar 1) (qCons (qC (.int 20)) qNil))) (qC (.int 1)))) (qSet 3 (qCall sp__law_between (qCons (qVar 1) (qCons (qC (.int 99)) (qCons (qC (.int 240)) qNil))))) qNext)
  q_law__4))))
theorem w_law (G : GE K mg) (C__law_like : Cal P w K mg base "_law_like" ["_law_one", "_law_two"] 6 sp__law_like) (C_Journal__houses : CalP P w K mg base "Journal" "houses" 1 sp_Journal__houses) (C_Journal__deeds : CalP P w K mg base "Journal" "deeds" 1 sp_Journal__deeds) (C__law_rows : Cal P w K mg base "_law_rows" ["_law_journal", "_law_bodies_here", "_law_moment"] 7 sp__law_rows) (C_Journal____init__ : CalC P w K mg base "Journal" ["self", "houses", "deeds"] 7 sp_Journal____init__) (C_write_log : Cal P w K mg base "write_log" ["journal"] 4 sp_write_log) (C_Journal__prefix : CalM P w K mg base "Journal" "prefix" ["self", "count"] 9 sp_Journal__prefix) (C__law_take : Cal P w K mg base "_law_take" ["_law_store_here", "_law_many"] 1 sp__law_take) (C__law_bodies : Cal P w K mg base "_law_bodies" ["_law_houses_here", "_law_deeds"] 1 sp__law_bodies) (C__law_handed_deeds : Cal P w K mg base "_law_handed_deeds" ["_law_store_here", "_law_deeds"] 2 sp__law_handed_deeds) (C__law_shuffled : Cal P w K mg base "_law_shuffled" ["_law_store_here", "_law_items"] 2 sp__law_shuffled) (C__law_doings : Cal P w K mg base "_law_doings" ["_law_store_here", "_law_houses_here", "_law_many", "_law_cap"] 4 sp__law_doings) (C__law_between : Cal P w K mg base "_law_between" ["_law_store_here", "_law_least", "_law_most"] 2 sp__law_between) (C__law_houses : Cal P w K mg base "_law_houses" ["_law_store_here", "_law_most"] 4 sp__law_houses) (C__law_sums : Cal P w K mg base "_law_sums" ["_law_store_here"] 7 sp__law_sums) : WkRest 1 P w K mg base ["_law_script", "_law_store_here", "_law_houses_here", "_law_many", "_law_deeds", "_law_journal", "_law_bodies_here", "_law_moment", "_law_part"] "law" s_law 9 q_law := fun f cdv A outer s H E hr tk => by
  have S := sc_law
  unfold q_law q_law__4
  exact (qss_cons (qs_if (qt_not (qt_val (qe_callC C__law_sums hr tk (qa_cons (qe_var 1) qa_nil)).k)) (qss_one (qs_ret qe_bl)) qss_nil)
    (qss_cons (qs_set 2 (qe_callC C__law_houses hr tk (qa_cons (qe_var 1) (qa_cons qe_int qa_nil))) S.nd)
    (qss_cons (qs_set 3 (qe_callC C__law_between hr tk (qa_cons (qe_var 1) (qa_cons qe_int (qa_cons qe_int qa_nil)))) S.nd)
    (qss_cons (qs_if (qt_cmp op_eq ops_eq (qe_callC C__law_take hr tk (qa_cons (qe_var 1) (qa_cons qe_int qa_nil))).k (qe_int).k (by rfl)) (qss_one (qs_set 3 (qe_callC C__law_between hr tk (qa_cons (qe_var 1) (qa_cons qe_int (qa_cons qe_int qa_nil)))) S.nd)) qss_nil)
    (qss_cons (qs_set 4 (qe_callC C__law_doings hr tk (qa_cons (qe_var 1) (qa_cons (qe_var 2) (qa_cons (qe_var 3) (qa_cons qe_int qa_nil))))) S.nd)
    (qss_cons (qs_set 5 (qe_make C_Journal____init__ hr (qa_cons (qe_callC C__law_shuffled hr tk (qa_cons (qe_var 1) (qa_cons (qe_var 2) qa_nil))) (qa_cons (qe_callC C__law_handed_deeds hr tk (qa_cons (qe_var 1) (qa_cons (qe_var 4) qa_nil))) qa_nil))) S.nd)
    (qss_cons (qs_set 6 (qe_callC C__law_bodies hr tk (qa_cons (qe_var 2) (qa_cons (qe_var 4) qa_nil))) S.nd)
    (qss_cons (qs_set 7 (qe_callC C__law_take hr tk (qa_cons (qe_var 1) (qa_cons (qe_b1 call_lenAll cs_len G.n_len (qk_var 6)) qa_nil))) S.nd)
    (qss_cons (qs_if (qt_not (qt_val (qe_callC C__law_rows hr tk (qa_cons (qe_var 5) (qa_cons (qe_var 6) (qa_cons (qe_var 7) qa_nil)))).k)) (qss_one (qs_ret qe_bl)) qss_nil)
    (qss_cons (qs_set 8 (qe_meth C_Journal__prefix G.k_Journal hr (qe_var 5) (qa_cons (qe_var 7) qa_nil)) S.nd)
    (qss_cons (qs_if (qw_or (qt_not (qt_val (qe_callC C__law_rows hr tk (qa_cons (qe_var 8) (qa_cons (qe_cut (qk_var 6) qo_none (qo_some (qe_bin op_addAll ops_add (qk_var 7) (qe_int).k))) (qa_cons qe_int qa_nil)))).k)) (qw_or1 (qt_not (qt_val (qe_m1 PySem.F.slot_str_startswith PySem.F.type_str_startswith mt_startswith ms_starts (qe_callC C_write_log hr tk (qa_cons (qe_var 5) qa_nil)).k (qe_callC C_write_log hr tk (qa_cons (qe_var 8) qa_nil)).k).k)))).t (qss_one (qs_ret qe_bl)) qss_nil)
    (qss_cons (qs_if (qt_not (qt_val (qe_callC C__law_rows hr tk (qa_cons (qe_make C_Journal____init__ hr (qa_cons ((qn_lst qa_nil)).e (qa_cons ((qn_lst qa_nil)).e qa_nil))) (qa_cons ((qn_lst (qa_cons qe_str qa_nil))).e (qa_cons qe_int qa_nil)))).k)) (qss_one (qs_ret qe_bl)) qss_nil)
    (qss_one (qs_ret (qe_callC C__law_like hr tk (qa_cons ((qn_lst (qa_cons (qe_prop C_Journal__deeds G.k_Journal hr (qe_var 5)) (qa_cons (qe_prop C_Journal__houses G.k_Journal hr (qe_var 5)) qa_nil)))).e (qa_cons ((qn_lst (qa_cons (qe_var 4) (qa_cons ((qn_b1 (call_sortA rfl) cn_sortA G.n_sorted (qk_var 2))).e qa_nil)))).e qa_nil)))))))))))))))))
theorem okSeq_rows {hs : List Str} (hn : ∀ s ∈ hs, nameB s = true) : ∀ {es : List Deed} {ks : List Str}, okSeq hs ks es → ∀ e ∈ es, ∀ s ∈ e.row, s.length ≤ 12 ∧ 10 ∉ tl s
  | [], _, _, e, he, _, _ => by cases he
  | f :: r, ks, h, e, he, s, hs' => by
    rcases List.mem_cons.mp he with rfl | he
    · have nm : nameB s = true ∨ s = Str.ofString "put" ∨ s = Str.ofString "take" := by
        cases e with
        | put l a b =>
          have h1 := h.1
          rcases List.mem_cons.mp hs' with rfl | hs'
          · exact .inr (.inl rfl)
          · rcases List.mem_cons.mp hs' with rfl | hs'
            · exact .inl h1.1
            · rcases List.mem_cons.mp hs' with rfl | hs'
              · exact .inl (hn _ h1.2.1)
              · rw [List.mem_singleton.mp hs']
                exact .inl (hn _ h1.2.2.1)
        | take l =>
          have h1 := h.1
          rcases List.mem_cons.mp hs' with rfl | hs'
          · exact .inr (.inr rfl)
          · rw [List.mem_singleton.mp hs']
            exact .inl h1.1
      rcases nm with nm | rfl | rfl
      · exact ⟨nameB_len nm, nameB_free nm⟩
      · exact ⟨by decide, by decide⟩
      · exact ⟨by decide, by decide⟩
    · exact okSeq_rows hn h.2 e he s hs'
theorem sw_true (a b : List Nat) : Txt.startswith (mkS (a ++ b)) (mkS a) = true := by
  unfold Txt.startswith
  rw [PySem.StrLaws.subAt_eq, mkS_len, mkS_len, List.drop_zero]
  show (decide (0 + a.length ≤ (a ++ b).length) && ((a ++ b).take a.length == a)) = true
  simp
theorem rowsL_app : ∀ (a b : List (List Nat)) (n : Nat), rowsL n (a ++ b) = rowsL n a ++ rowsL (n + a.length) b
  | [], b, n => rfl
  | c :: r, b, n => by
    show rowL n c :: rowsL (n + 1) (r ++ b) = rowL n c :: (rowsL (n + 1) r ++ rowsL (n + (r.length + 1)) b)
    rw [rowsL_app r b (n + 1), show n + 1 + r.length = n + (r.length + 1) by omega]
theorem plain_str (x : Str) (n : Nat) : plainD n (.str x) := by
  cases n with
  | zero => exact ⟨trivial, rfl⟩
  | succ n => exact ⟨trivial, fun _ h => by cases h⟩
theorem law4 {ss : List Str} {m : Int} {h : PHp} {Qp : D → PHp → Prop} {Ep : XP} (hl : ss.length ≤ 32) (hnd : ss.Nodup) (hn : ∀ s ∈ ss, nameB s = true) (m0 : 0 ≤ m) (m1 : m ≤ 240) (hQ : ∀ h, Qp (.bl true) h) :
    q_law__4 (PE0 Qp Ep) [.no, .fro .sto, .fro (.lst (ss.map D.str)), .fro (.int m), .no, .no, .no, .no, .no] h := by
  simp only [q_law__4, startC, qVar, qPeek, qC, qBin, qUn, qNil, qCons, qTup, qLst, qCall, asB, qTest, qAnd, qOr, qNot, qAndV, qOrV, qNotV, qIfE, deref, qNext, qSeq, qSet, qSetN, qSetP, qRet, qRetN, qDrop, qIfS, qFreeze, qApp, onOwnL, qAsg, gqName, gqNil, gqCons, gqTup, qM1, qRng1, qEnum, qAny, asI, asL, itemsD, qPart, qNoPart, qCut, cutD, qCutL, cutLD, addD, subD, mulD, modD, fdivD, eqD, neD, eqS, onB, ltD, leD, gtD, geD, isND, lenD, intD, strD, ordD, listD, tupleD, ixD, PEnds.at, wipeC, qYes,
    List.map_cons, List.map_nil, List.replicate, List.cons_append, List.nil_append, List.append_assoc, List.getElem?_cons_zero, List.getElem?_cons_succ, List.set_cons_zero, List.set_cons_succ, List.length_cons, List.length_nil, Option.map_some, if_true, if_false, Bool.not_true, Bool.not_false, decide_eq_true_eq, Bool.not_eq_true', decide_eq_false_iff_not, Nat.reduceAdd, Nat.reduceSub, List.replicate_succ, List.replicate_zero, true_and, and_true, reduceCtorEq, isStr, qPutS, putS, powD, CPow, qPut, onOwn, setD, qPutP, onPtr, qDelP, delD, qPutF, setF, qProp, qMeth, qMake, isObj, fldD, minD, maxD, qChain, revD, lrevD, isiD, tyD, qOrT, qAndT, onTru, truD, qJoined, qjCons, qjNil, fmtD, fmt5D, D.int.injEq, D.str.injEq, D.lst.injEq, D.tup.injEq, D.bl.injEq, false_implies, true_implies, ne_eq, not_false_eq_true, not_true_eq_false, forall_const, implies_true, false_and, and_false, exists_eq_left, exists_eq_left', Int.reduceEq, Int.reduceLT, Int.reduceNe, Int.reduceLE, or_false, false_or, or_true, true_or, qLc, qFor, qWhile, allD, sortAD, wipeC, isiS, List.any_cons, List.any_nil, Bool.or_false, Bool.or_true, Bool.true_or, Bool.false_or, Bool.and_self, Bool.false_and, Bool.and_false, Bool.and_true, Bool.true_and, String.reduceBEq, Bool.false_eq_true, Bool.true_eq_false]
  refine ⟨ss, m, rfl, by omega, hnd, hn, m0, m1, fun es el ok => ?_⟩
  refine ⟨ss.map D.str, rfl, by rw [List.length_map, sizeLine_eq]; omega, fun xs hp => ?_⟩
  obtain ⟨hs2, rfl, hp2⟩ := perm_strs hp
  refine ⟨es, rfl, by omega, fun hd hdl hh => ?_⟩
  intro x hx
  refine ⟨x, hs2, hd, es, rfl, pset_same, by rw [hp2.length_eq]; exact hl, hp2.nodup_iff.mpr hnd, fun s hs => hn s (hp2.mem_iff.mp hs), hdl, hh, by omega, fun ys hy => okSeq_mem (fun s hs => hy.mem_iff.mpr (hp2.mem_iff.mpr hs)) ok, fun ys h' hy hys he' => ⟨rfl, _, he', ?_⟩⟩
  have hys2 := hy.trans hp2
  have rw_ := okSeq_rows hn ok
  refine ⟨ss, es, rfl, hl, hn, by omega, fun e he s hs => (rw_ e he s hs).1, fun zs hz hzs => ?_⟩
  have ez : zs = ys := sorted_uniq (hz.trans hys2.symm) hzs hys
  subst ez
  simp only [startC, qVar, qPeek, qC, qBin, qUn, qNil, qCons, qTup, qLst, qCall, asB, qTest, qAnd, qOr, qNot, qAndV, qOrV, qNotV, qIfE, deref, qNext, qSeq, qSet, qSetN, qSetP, qRet, qRetN, qDrop, qIfS, qFreeze, qApp, onOwnL, qAsg, gqName, gqNil, gqCons, gqTup, qM1, qRng1, qEnum, qAny, asI, asL, itemsD, qPart, qNoPart, qCut, cutD, qCutL, cutLD, addD, subD, mulD, modD, fdivD, eqD, neD, eqS, onB, ltD, leD, gtD, geD, isND, lenD, intD, strD, ordD, listD, tupleD, ixD, PEnds.at, wipeC, qYes,
    List.map_cons, List.map_nil, List.replicate, List.cons_append, List.nil_append, List.append_assoc, List.getElem?_cons_zero, List.getElem?_cons_succ, List.set_cons_zero, List.set_cons_succ, List.length_cons, List.length_nil, Option.map_some, if_true, if_false, Bool.not_true, Bool.not_false, decide_eq_true_eq, Bool.not_eq_true', decide_eq_false_iff_not, Nat.reduceAdd, Nat.reduceSub, List.replicate_succ, List.replicate_zero, true_and, and_true, reduceCtorEq, isStr, qPutS, putS, powD, CPow, qPut, onOwn, setD, qPutP, onPtr, qDelP, delD, qPutF, setF, qProp, qMeth, qMake, isObj, fldD, minD, maxD, qChain, revD, lrevD, isiD, tyD, qOrT, qAndT, onTru, truD, qJoined, qjCons, qjNil, fmtD, fmt5D, D.int.injEq, D.str.injEq, D.lst.injEq, D.tup.injEq, D.bl.injEq, false_implies, true_implies, ne_eq, not_false_eq_true, not_true_eq_false, forall_const, implies_true, false_and, and_false, exists_eq_left, exists_eq_left', Int.reduceEq, Int.reduceLT, Int.reduceNe, Int.reduceLE, or_false, false_or, or_true, true_or, qLc, qFor, qWhile, allD, sortAD, wipeC, isiS, List.any_cons, List.any_nil, Bool.or_false, Bool.or_true, Bool.true_or, Bool.false_or, Bool.and_self, Bool.false_and, Bool.and_false, Bool.and_true, Bool.true_and, String.reduceBEq, Bool.false_eq_true, Bool.true_eq_false]
  have blen : (bodies zs es).length = es.length + 1 := by
    show (bodyH zs :: es.map bodyD).length = _
    rw [List.length_cons, List.length_map]
  have zl : zs.length ≤ 32 := by rw [hys2.length_eq]; exact hl
  have zn : ∀ s ∈ zs, nameB s = true := fun s hs => hn s (hys2.mem_iff.mp hs)
  have okz : okSeq zs [] es := okSeq_mem (fun s hs => hys2.mem_iff.mpr hs) ok
  rw [List.length_map, blen]
  refine ⟨_, rfl, by omega, fun mo q0 q1 => ?_⟩
  refine ⟨zs, es, mo, rfl, zl, zn, by omega, rw_, ?_⟩
  simp only [startC, qVar, qPeek, qC, qBin, qUn, qNil, qCons, qTup, qLst, qCall, asB, qTest, qAnd, qOr, qNot, qAndV, qOrV, qNotV, qIfE, deref, qNext, qSeq, qSet, qSetN, qSetP, qRet, qRetN, qDrop, qIfS, qFreeze, qApp, onOwnL, qAsg, gqName, gqNil, gqCons, gqTup, qM1, qRng1, qEnum, qAny, asI, asL, itemsD, qPart, qNoPart, qCut, cutD, qCutL, cutLD, addD, subD, mulD, modD, fdivD, eqD, neD, eqS, onB, ltD, leD, gtD, geD, isND, lenD, intD, strD, ordD, listD, tupleD, ixD, PEnds.at, wipeC, qYes,
    List.map_cons, List.map_nil, List.replicate, List.cons_append, List.nil_append, List.append_assoc, List.getElem?_cons_zero, List.getElem?_cons_succ, List.set_cons_zero, List.set_cons_succ, List.length_cons, List.length_nil, Option.map_some, if_true, if_false, Bool.not_true, Bool.not_false, decide_eq_true_eq, Bool.not_eq_true', decide_eq_false_iff_not, Nat.reduceAdd, Nat.reduceSub, List.replicate_succ, List.replicate_zero, true_and, and_true, reduceCtorEq, isStr, qPutS, putS, powD, CPow, qPut, onOwn, setD, qPutP, onPtr, qDelP, delD, qPutF, setF, qProp, qMeth, qMake, isObj, fldD, minD, maxD, qChain, revD, lrevD, isiD, tyD, qOrT, qAndT, onTru, truD, qJoined, qjCons, qjNil, fmtD, fmt5D, D.int.injEq, D.str.injEq, D.lst.injEq, D.tup.injEq, D.bl.injEq, false_implies, true_implies, ne_eq, not_false_eq_true, not_true_eq_false, forall_const, implies_true, false_and, and_false, exists_eq_left, exists_eq_left', Int.reduceEq, Int.reduceLT, Int.reduceNe, Int.reduceLE, or_false, false_or, or_true, true_or, qLc, qFor, qWhile, allD, sortAD, wipeC, isiS, List.any_cons, List.any_nil, Bool.or_false, Bool.or_true, Bool.true_or, Bool.false_or, Bool.and_self, Bool.false_and, Bool.and_false, Bool.and_true, Bool.true_and, String.reduceBEq, Bool.false_eq_true, Bool.true_eq_false]
  refine ⟨(by decide : Str.ofString "prefix" ∉ [Str.ofString "house_row", Str.ofString "done_deeds"]), zs, es, mo, rfl, q0, by omega, zl, hys2.nodup_iff.mpr hnd, zn, by omega, okz, fun ys2 h2 hp3 hs3 => ?_⟩
  have ez : ys2 = zs := sorted_uniq hp3 hs3 hys
  subst ez
  simp only [startC, qVar, qPeek, qC, qBin, qUn, qNil, qCons, qTup, qLst, qCall, asB, qTest, qAnd, qOr, qNot, qAndV, qOrV, qNotV, qIfE, deref, qNext, qSeq, qSet, qSetN, qSetP, qRet, qRetN, qDrop, qIfS, qFreeze, qApp, onOwnL, qAsg, gqName, gqNil, gqCons, gqTup, qM1, qRng1, qEnum, qAny, asI, asL, itemsD, qPart, qNoPart, qCut, cutD, qCutL, cutLD, addD, subD, mulD, modD, fdivD, eqD, neD, eqS, onB, ltD, leD, gtD, geD, isND, lenD, intD, strD, ordD, listD, tupleD, ixD, PEnds.at, wipeC, qYes,
    List.map_cons, List.map_nil, List.replicate, List.cons_append, List.nil_append, List.append_assoc, List.getElem?_cons_zero, List.getElem?_cons_succ, List.set_cons_zero, List.set_cons_succ, List.length_cons, List.length_nil, Option.map_some, if_true, if_false, Bool.not_true, Bool.not_false, decide_eq_true_eq, Bool.not_eq_true', decide_eq_false_iff_not, Nat.reduceAdd, Nat.reduceSub, List.replicate_succ, List.replicate_zero, true_and, and_true, reduceCtorEq, isStr, qPutS, putS, powD, CPow, qPut, onOwn, setD, qPutP, onPtr, qDelP, delD, qPutF, setF, qProp, qMeth, qMake, isObj, fldD, minD, maxD, qChain, revD, lrevD, isiD, tyD, qOrT, qAndT, onTru, truD, qJoined, qjCons, qjNil, fmtD, fmt5D, D.int.injEq, D.str.injEq, D.lst.injEq, D.tup.injEq, D.bl.injEq, false_implies, true_implies, ne_eq, not_false_eq_true, not_true_eq_false, forall_const, implies_true, false_and, and_false, exists_eq_left, exists_eq_left', Int.reduceEq, Int.reduceLT, Int.reduceNe, Int.reduceLE, or_false, false_or, or_true, true_or, qLc, qFor, qWhile, allD, sortAD, wipeC, isiS, List.any_cons, List.any_nil, Bool.or_false, Bool.or_true, Bool.true_or, Bool.false_or, Bool.and_self, Bool.false_and, Bool.and_false, Bool.and_true, Bool.true_and, String.reduceBEq, Bool.false_eq_true, Bool.true_eq_false]
  have ecut : cutL ((bodies ys2 es).map fun b => D.str (mkS b)) none (some (mo + 1)) = (bodies ys2 (es.take mo.toNat)).map fun b => D.str (mkS b) := by
    unfold cutL HT.sIx
    dsimp only
    rw [if_neg (by omega), Nat.sub_zero, List.drop_zero, List.length_map, blen, ← List.map_take]
    congr 1
    show (bodyH ys2 :: es.map bodyD).take _ = bodyH ys2 :: (es.take mo.toNat).map bodyD
    rw [show min (mo + 1).toNat (es.length + 1) = mo.toNat + 1 by omega, List.take_succ_cons, List.map_take]
  rw [ecut]
  have tk : ∀ e ∈ es.take mo.toNat, ∀ s ∈ e.row, s.length ≤ 12 ∧ 10 ∉ tl s := fun e he => rw_ e (List.mem_of_mem_take he)
  refine ⟨ys2, es.take mo.toNat, 0, rfl, zl, zn, by rw [List.length_take]; omega, tk, ?_⟩
  simp only [startC, qVar, qPeek, qC, qBin, qUn, qNil, qCons, qTup, qLst, qCall, asB, qTest, qAnd, qOr, qNot, qAndV, qOrV, qNotV, qIfE, deref, qNext, qSeq, qSet, qSetN, qSetP, qRet, qRetN, qDrop, qIfS, qFreeze, qApp, onOwnL, qAsg, gqName, gqNil, gqCons, gqTup, qM1, qRng1, qEnum, qAny, asI, asL, itemsD, qPart, qNoPart, qCut, cutD, qCutL, cutLD, addD, subD, mulD, modD, fdivD, eqD, neD, eqS, onB, ltD, leD, gtD, geD, isND, lenD, intD, strD, ordD, listD, tupleD, ixD, PEnds.at, wipeC, qYes,
    List.map_cons, List.map_nil, List.replicate, List.cons_append, List.nil_append, List.append_assoc, List.getElem?_cons_zero, List.getElem?_cons_succ, List.set_cons_zero, List.set_cons_succ, List.length_cons, List.length_nil, Option.map_some, if_true, if_false, Bool.not_true, Bool.not_false, decide_eq_true_eq, Bool.not_eq_true', decide_eq_false_iff_not, Nat.reduceAdd, Nat.reduceSub, List.replicate_succ, List.replicate_zero, true_and, and_true, reduceCtorEq, isStr, qPutS, putS, powD, CPow, qPut, onOwn, setD, qPutP, onPtr, qDelP, delD, qPutF, setF, qProp, qMeth, qMake, isObj, fldD, minD, maxD, qChain, revD, lrevD, isiD, tyD, qOrT, qAndT, onTru, truD, qJoined, qjCons, qjNil, fmtD, fmt5D, D.int.injEq, D.str.injEq, D.lst.injEq, D.tup.injEq, D.bl.injEq, false_implies, true_implies, ne_eq, not_false_eq_true, not_true_eq_false, forall_const, implies_true, false_and, and_false, exists_eq_left, exists_eq_left', Int.reduceEq, Int.reduceLT, Int.reduceNe, Int.reduceLE, or_false, false_or, or_true, true_or, qLc, qFor, qWhile, allD, sortAD, wipeC, isiS, List.any_cons, List.any_nil, Bool.or_false, Bool.or_true, Bool.true_or, Bool.false_or, Bool.and_self, Bool.false_and, Bool.and_false, Bool.and_true, Bool.true_and, String.reduceBEq, Bool.false_eq_true, Bool.true_eq_false]
  refine ⟨ys2, es, rfl, zl, zn, by omega, fun e he s hs => (rw_ e he s hs).1, trivial, ?_⟩
  refine ⟨ys2, es.take mo.toNat, rfl, zl, zn, by rw [List.length_take]; omega, fun e he s hs => (tk e he s hs).1, ?_⟩
  simp only [startC, qVar, qPeek, qC, qBin, qUn, qNil, qCons, qTup, qLst, qCall, asB, qTest, qAnd, qOr, qNot, qAndV, qOrV, qNotV, qIfE, deref, qNext, qSeq, qSet, qSetN, qSetP, qRet, qRetN, qDrop, qIfS, qFreeze, qApp, onOwnL, qAsg, gqName, gqNil, gqCons, gqTup, qM1, qRng1, qEnum, qAny, asI, asL, itemsD, qPart, qNoPart, qCut, cutD, qCutL, cutLD, addD, subD, mulD, modD, fdivD, eqD, neD, eqS, onB, ltD, leD, gtD, geD, isND, lenD, intD, strD, ordD, listD, tupleD, ixD, PEnds.at, wipeC, qYes,
    List.map_cons, List.map_nil, List.replicate, List.cons_append, List.nil_append, List.append_assoc, List.getElem?_cons_zero, List.getElem?_cons_succ, List.set_cons_zero, List.set_cons_succ, List.length_cons, List.length_nil, Option.map_some, if_true, if_false, Bool.not_true, Bool.not_false, decide_eq_true_eq, Bool.not_eq_true', decide_eq_false_iff_not, Nat.reduceAdd, Nat.reduceSub, List.replicate_succ, List.replicate_zero, true_and, and_true, reduceCtorEq, isStr, qPutS, putS, powD, CPow, qPut, onOwn, setD, qPutP, onPtr, qDelP, delD, qPutF, setF, qProp, qMeth, qMake, isObj, fldD, minD, maxD, qChain, revD, lrevD, isiD, tyD, qOrT, qAndT, onTru, truD, qJoined, qjCons, qjNil, fmtD, fmt5D, D.int.injEq, D.str.injEq, D.lst.injEq, D.tup.injEq, D.bl.injEq, false_implies, true_implies, ne_eq, not_false_eq_true, not_true_eq_false, forall_const, implies_true, false_and, and_false, exists_eq_left, exists_eq_left', Int.reduceEq, Int.reduceLT, Int.reduceNe, Int.reduceLE, or_false, false_or, or_true, true_or, qLc, qFor, qWhile, allD, sortAD, wipeC, isiS, List.any_cons, List.any_nil, Bool.or_false, Bool.or_true, Bool.true_or, Bool.false_or, Bool.and_self, Bool.false_and, Bool.and_false, Bool.and_true, Bool.true_and, String.reduceBEq, Bool.false_eq_true, Bool.true_eq_false, startsD]
  have esw : (rowsL 0 (bodies ys2 es)).flatten = (rowsL 0 (bodies ys2 (es.take mo.toNat))).flatten ++ (rowsL (0 + (bodies ys2 (es.take mo.toNat)).length) ((es.drop mo.toNat).map bodyD)).flatten := by
    rw [← List.flatten_append, ← rowsL_app]
    congr 2
    show bodyH ys2 :: es.map bodyD = bodyH ys2 :: ((es.take mo.toNat).map bodyD ++ (es.drop mo.toNat).map bodyD)
    rw [← List.map_append, List.take_append_drop]
  rw [esw, sw_true, if_neg (by decide)]
  intro x2 hx2
  refine ⟨x2, [], [], [], rfl, pset_same, by decide, List.nodup_nil, (fun _ z => by cases z), rfl, (fun _ _ _ z => by simp at z), by decide, fun ys hy => trivial, fun ys3 h3 hp4 hs4 he4 => ⟨rfl, _, he4, ?_⟩⟩
  have e3 : ys3 = [] := hp4.eq_nil
  subst e3
  refine ⟨[], [], 0, rfl, by decide, (fun _ z => by cases z), by decide, (fun _ z => by cases z), ?_⟩
  simp only [startC, qVar, qPeek, qC, qBin, qUn, qNil, qCons, qTup, qLst, qCall, asB, qTest, qAnd, qOr, qNot, qAndV, qOrV, qNotV, qIfE, deref, qNext, qSeq, qSet, qSetN, qSetP, qRet, qRetN, qDrop, qIfS, qFreeze, qApp, onOwnL, qAsg, gqName, gqNil, gqCons, gqTup, qM1, qRng1, qEnum, qAny, asI, asL, itemsD, qPart, qNoPart, qCut, cutD, qCutL, cutLD, addD, subD, mulD, modD, fdivD, eqD, neD, eqS, onB, ltD, leD, gtD, geD, isND, lenD, intD, strD, ordD, listD, tupleD, ixD, PEnds.at, wipeC, qYes,
    List.map_cons, List.map_nil, List.replicate, List.cons_append, List.nil_append, List.append_assoc, List.getElem?_cons_zero, List.getElem?_cons_succ, List.set_cons_zero, List.set_cons_succ, List.length_cons, List.length_nil, Option.map_some, if_true, if_false, Bool.not_true, Bool.not_false, decide_eq_true_eq, Bool.not_eq_true', decide_eq_false_iff_not, Nat.reduceAdd, Nat.reduceSub, List.replicate_succ, List.replicate_zero, true_and, and_true, reduceCtorEq, isStr, qPutS, putS, powD, CPow, qPut, onOwn, setD, qPutP, onPtr, qDelP, delD, qPutF, setF, qProp, qMeth, qMake, isObj, fldD, minD, maxD, qChain, revD, lrevD, isiD, tyD, qOrT, qAndT, onTru, truD, qJoined, qjCons, qjNil, fmtD, fmt5D, D.int.injEq, D.str.injEq, D.lst.injEq, D.tup.injEq, D.bl.injEq, false_implies, true_implies, ne_eq, not_false_eq_true, not_true_eq_false, forall_const, implies_true, false_and, and_false, exists_eq_left, exists_eq_left', Int.reduceEq, Int.reduceLT, Int.reduceNe, Int.reduceLE, or_false, false_or, or_true, true_or, qLc, qFor, qWhile, allD, sortAD, wipeC, isiS, List.any_cons, List.any_nil, Bool.or_false, Bool.or_true, Bool.true_or, Bool.false_or, Bool.and_self, Bool.false_and, Bool.and_false, Bool.and_true, Bool.true_and, String.reduceBEq, Bool.false_eq_true, Bool.true_eq_false]
  refine ⟨ys2, es, rfl, ys2, es, rfl, ss, .inl rfl, by omega, fun ys5 hp5 hs5 => ?_⟩
  have e5 : ys5 = ys2 := sorted_uniq (hp5.trans hys2.symm) hs5 hys
  subst e5
  refine ⟨_, rfl, ⟨(by decide : 2 ≤ 100000), fun x hx => ?_⟩, hQ _⟩
  rcases List.mem_cons.mp hx with rfl | hx
  · refine ⟨show (es.map Deed.d).length ≤ 100000 by rw [List.length_map]; omega, fun y hy => ?_⟩
    obtain ⟨e, _, rfl⟩ := List.mem_map.mp hy
    refine ⟨show (e.row.map D.str).length ≤ 100000 by rw [List.length_map]; have := row_len e; omega, fun y hy => ?_⟩
    obtain ⟨s, _, rfl⟩ := List.mem_map.mp hy
    exact plain_str s _
  · rw [List.mem_singleton.mp hx]
    refine ⟨show (ys5.map D.str).length ≤ 100000 by rw [List.length_map]; omega, fun y hy => ?_⟩
    obtain ⟨s, _, rfl⟩ := List.mem_map.mp hy
    exact plain_str s _
theorem v_law {h : PHp} {Qp : D → PHp → Prop} {Ep : XP} (hQ : ∀ h, Qp (.bl true) h) : q_law (PE0 Qp Ep) (.no :: .fro .sto :: List.replicate 7 .no) h := by
  simp only [q_law, startC, qVar, qPeek, qC, qBin, qUn, qNil, qCons, qTup, qLst, qCall, asB, qTest, qAnd, qOr, qNot, qAndV, qOrV, qNotV, qIfE, deref, qNext, qSeq, qSet, qSetN, qSetP, qRet, qRetN, qDrop, qIfS, qFreeze, qApp, onOwnL, qAsg, gqName, gqNil, gqCons, gqTup, qM1, qRng1, qEnum, qAny, asI, asL, itemsD, qPart, qNoPart, qCut, cutD, qCutL, cutLD, addD, subD, mulD, modD, fdivD, eqD, neD, eqS, onB, ltD, leD, gtD, geD, isND, lenD, intD, strD, ordD, listD, tupleD, ixD, PEnds.at, wipeC, qYes,
    List.map_cons, List.map_nil, List.replicate, List.cons_append, List.nil_append, List.append_assoc, List.getElem?_cons_zero, List.getElem?_cons_succ, List.set_cons_zero, List.set_cons_succ, List.length_cons, List.length_nil, Option.map_some, if_true, if_false, Bool.not_true, Bool.not_false, decide_eq_true_eq, Bool.not_eq_true', decide_eq_false_iff_not, Nat.reduceAdd, Nat.reduceSub, List.replicate_succ, List.replicate_zero, true_and, and_true, reduceCtorEq, isStr, qPutS, putS, powD, CPow, qPut, onOwn, setD, qPutP, onPtr, qDelP, delD, qPutF, setF, qProp, qMeth, qMake, isObj, fldD, minD, maxD, qChain, revD, lrevD, isiD, tyD, qOrT, qAndT, onTru, truD, qJoined, qjCons, qjNil, fmtD, fmt5D, D.int.injEq, D.str.injEq, D.lst.injEq, D.tup.injEq, D.bl.injEq, false_implies, true_implies, ne_eq, not_false_eq_true, not_true_eq_false, forall_const, implies_true, false_and, and_false, exists_eq_left, exists_eq_left', Int.reduceEq, Int.reduceLT, Int.reduceNe, Int.reduceLE, or_false, false_or, or_true, true_or, qLc, qFor, qWhile, allD, sortAD, wipeC, isiS, List.any_cons, List.any_nil, Bool.or_false, Bool.or_true, Bool.true_or, Bool.false_or, Bool.and_self, Bool.false_and, Bool.and_false, Bool.and_true, Bool.true_and, String.reduceBEq, Bool.false_eq_true, Bool.true_eq_false]
  refine ⟨rfl, ?_⟩
  simp only [startC, qVar, qPeek, qC, qBin, qUn, qNil, qCons, qTup, qLst, qCall, asB, qTest, qAnd, qOr, qNot, qAndV, qOrV, qNotV, qIfE, deref, qNext, qSeq, qSet, qSetN, qSetP, qRet, qRetN, qDrop, qIfS, qFreeze, qApp, onOwnL, qAsg, gqName, gqNil, gqCons, gqTup, qM1, qRng1, qEnum, qAny, asI, asL, itemsD, qPart, qNoPart, qCut, cutD, qCutL, cutLD, addD, subD, mulD, modD, fdivD, eqD, neD, eqS, onB, ltD, leD, gtD, geD, isND, lenD, intD, strD, ordD, listD, tupleD, ixD, PEnds.at, wipeC, qYes,
    List.map_cons, List.map_nil, List.replicate, List.cons_append, List.nil_append, List.append_assoc, List.getElem?_cons_zero, List.getElem?_cons_succ, List.set_cons_zero, List.set_cons_succ, List.length_cons, List.length_nil, Option.map_some, if_true, if_false, Bool.not_true, Bool.not_false, decide_eq_true_eq, Bool.not_eq_true', decide_eq_false_iff_not, Nat.reduceAdd, Nat.reduceSub, List.replicate_succ, List.replicate_zero, true_and, and_true, reduceCtorEq, isStr, qPutS, putS, powD, CPow, qPut, onOwn, setD, qPutP, onPtr, qDelP, delD, qPutF, setF, qProp, qMeth, qMake, isObj, fldD, minD, maxD, qChain, revD, lrevD, isiD, tyD, qOrT, qAndT, onTru, truD, qJoined, qjCons, qjNil, fmtD, fmt5D, D.int.injEq, D.str.injEq, D.lst.injEq, D.tup.injEq, D.bl.injEq, false_implies, true_implies, ne_eq, not_false_eq_true, not_true_eq_false, forall_const, implies_true, false_and, and_false, exists_eq_left, exists_eq_left', Int.reduceEq, Int.reduceLT, Int.reduceNe, Int.reduceLE, or_false, false_or, or_true, true_or, qLc, qFor, qWhile, allD, sortAD, wipeC, isiS, List.any_cons, List.any_nil, Bool.or_false, Bool.or_true, Bool.true_or, Bool.false_or, Bool.and_self, Bool.false_and, Bool.and_false, Bool.and_true, Bool.true_and, String.reduceBEq, Bool.false_eq_true, Bool.true_eq_false]
  refine ⟨32, rfl, by decide, by decide, fun ss sl sn sb => ?_⟩
  refine ⟨0, 30, rfl, by decide, fun m m0 m1 => ?_⟩
  refine ⟨20, rfl, by decide, fun r r0 r1 => ?_⟩
  simp only [startC, qVar, qPeek, qC, qBin, qUn, qNil, qCons, qTup, qLst, qCall, asB, qTest, qAnd, qOr, qNot, qAndV, qOrV, qNotV, qIfE, deref, qNext, qSeq, qSet, qSetN, qSetP, qRet, qRetN, qDrop, qIfS, qFreeze, qApp, onOwnL, qAsg, gqName, gqNil, gqCons, gqTup, qM1, qRng1, qEnum, qAny, asI, asL, itemsD, qPart, qNoPart, qCut, cutD, qCutL, cutLD, addD, subD, mulD, modD, fdivD, eqD, neD, eqS, onB, ltD, leD, gtD, geD, isND, lenD, intD, strD, ordD, listD, tupleD, ixD, PEnds.at, wipeC, qYes,
    List.map_cons, List.map_nil, List.replicate, List.cons_append, List.nil_append, List.append_assoc, List.getElem?_cons_zero, List.getElem?_cons_succ, List.set_cons_zero, List.set_cons_succ, List.length_cons, List.length_nil, Option.map_some, if_true, if_false, Bool.not_true, Bool.not_false, decide_eq_true_eq, Bool.not_eq_true', decide_eq_false_iff_not, Nat.reduceAdd, Nat.reduceSub, List.replicate_succ, List.replicate_zero, true_and, and_true, reduceCtorEq, isStr, qPutS, putS, powD, CPow, qPut, onOwn, setD, qPutP, onPtr, qDelP, delD, qPutF, setF, qProp, qMeth, qMake, isObj, fldD, minD, maxD, qChain, revD, lrevD, isiD, tyD, qOrT, qAndT, onTru, truD, qJoined, qjCons, qjNil, fmtD, fmt5D, D.int.injEq, D.str.injEq, D.lst.injEq, D.tup.injEq, D.bl.injEq, false_implies, true_implies, ne_eq, not_false_eq_true, not_true_eq_false, forall_const, implies_true, false_and, and_false, exists_eq_left, exists_eq_left', Int.reduceEq, Int.reduceLT, Int.reduceNe, Int.reduceLE, or_false, false_or, or_true, true_or, qLc, qFor, qWhile, allD, sortAD, wipeC, isiS, List.any_cons, List.any_nil, Bool.or_false, Bool.or_true, Bool.true_or, Bool.false_or, Bool.and_self, Bool.false_and, Bool.and_false, Bool.and_true, Bool.true_and, String.reduceBEq, Bool.false_eq_true, Bool.true_eq_false]
  split
  · refine ⟨99, 240, rfl, by decide, fun m m0 m1 => ?_⟩
    exact law4 sl sn sb (by omega) (by omega) hQ
  · exact law4 sl sn sb (by omega) (by omega) hQ
end Pu.L70
set_option Elab.async false
set_option linter.all false
set_option maxRecDepth 100000
set_option maxHeartbeats 4000000
set_option autoImplicit false
namespace Pu.L70
open PySem PySem.Spec PyProof.Rows L2
variable {P : Program} {w : World} {K : PySem.W.Frag} {mg : Str → Option Value} {base : Heap}
theorem sc__law_store : FnScope ["_law_script", "_law_cells", "_law_state", "_law_cell"] ["_law_script"] (defScope s__law_store) := ⟨rfl, rfl, rfl, by decide +kernel, rfl, by decide +kernel, by decide +kernel⟩
def q__law_store : RS := (qSeq (qSet 2 (qBin addD (qC (.int 7)) (qUn lenD (qPeek 1))))
  (qSeq (qFor (qAny (qVar 1)) (gqName 3) (qSet 2 (qBin modD (qBin addD (qBin addD (qBin mulD (qPeek 2) (qC (.int 48271))) (qBin modD (qUn intD (qPeek 3)) (qC (.int 2147483629)))) (qC (.int 1))) (qC (.int 2147483647)))))
  (qRet (qLst (qCons (qVar 1) (qCons (qC (.int 0)) (qCons (qC (.int 0)) (qCons (qVar 2) (qCons (qC (.int 0)) qNil)))))))))
theorem w__law_store (G : GE K mg)  : WkRest 1 P w K mg base ["_law_script", "_law_cells", "_law_state", "_law_cell"] "_law_store" s__law_store 0 q__law_store := fun f cdv A outer s H E hr tk => by
  have S := sc__law_store
  unfold q__law_store
  exact (qss_cons (qs_set 2 (qe_bin op_addAll ops_add (qe_int).k (qe_b1 call_lenAll cs_len G.n_len (qk_var 1)).k) S.nd)
    (qss_cons (qs_for (passes_of rfl) rfl (qi_any (qe_var 1)) (qg_name 3 S.nd) (qss_one (qs_set 2 (qe_bin op_modN ops_mod (qe_bin op_addAll ops_add (qe_bin op_addAll ops_add (qe_bin op_mulAll ops_mul (qk_var 2) (qe_int).k).k (qe_bin op_modN ops_mod (qe_t1 call_intAll cs_int G.n_int (qk_var 3)).k (qe_int).k).k).k (qe_int).k).k (qe_int).k) S.nd)))
    (qss_one (qs_ret ((qn_lst (qa_cons (qe_var 1) (qa_cons qe_int (qa_cons qe_int (qa_cons (qe_var 2) (qa_cons qe_int qa_nil))))))).e))))
theorem v_store {ns : List Int} {h : PHp} {R : D → PHp → Prop} {Ep : XP} (hl : ns.length ≤ sizeLine) (hQ : ∀ st : Int, R (.lst [.lst (ns.map D.int), .int 0, .int 0, .int st, .int 0]) h) :
    q__law_store { nx := fun _ h' => R .non h', rt := R, ex := fun c fs vs _ h' => Ep c fs vs h' } [.no, .fro (.lst (ns.map D.int)), .no, .no] h := by
  simp only [q__law_store, startC, qVar, qPeek, qC, qBin, qUn, qNil, qCons, qTup, qLst, qCall, asB, qTest, qAnd, qOr, qNot, qAndV, qOrV, qNotV, qIfE, deref, qNext, qSeq, qSet, qSetN, qSetP, qRet, qRetN, qDrop, qIfS, qFreeze, qApp, onOwnL, qAsg, gqName, gqNil, gqCons, gqTup, qM1, qRng1, qEnum, qAny, asI, asL, itemsD, qPart, qNoPart, qCut, cutD, qCutL, cutLD, addD, subD, mulD, modD, fdivD, eqD, neD, eqS, onB, ltD, leD, gtD, geD, isND, lenD, intD, strD, ordD, listD, tupleD, ixD, PEnds.at, wipeC, qYes,
    List.map_cons, List.map_nil, List.replicate, List.cons_append, List.nil_append, List.append_assoc, List.getElem?_cons_zero, List.getElem?_cons_succ, List.set_cons_zero, List.set_cons_succ, List.length_cons, List.length_nil, Option.map_some, if_true, if_false, Bool.not_true, Bool.not_false, decide_eq_true_eq, Bool.not_eq_true', decide_eq_false_iff_not, Nat.reduceAdd, Nat.reduceSub, List.replicate_succ, List.replicate_zero, true_and, and_true, reduceCtorEq, isStr, qPutS, putS, powD, CPow, qPut, onOwn, setD, qPutP, onPtr, qDelP, delD, qPutF, setF, qProp, qMeth, qMake, isObj, fldD, minD, maxD, qChain, revD, lrevD, isiD, tyD, qOrT, qAndT, onTru, truD, qJoined, qjCons, qjNil, fmtD, fmt5D, D.int.injEq, D.str.injEq, D.lst.injEq, D.tup.injEq, D.bl.injEq, false_implies, true_implies, ne_eq, not_false_eq_true, not_true_eq_false, forall_const, implies_true, false_and, and_false, exists_eq_left, exists_eq_left', Int.reduceEq, Int.reduceLT, Int.reduceNe, Int.reduceLE, or_false, false_or, or_true, true_or, qLc, qFor, qWhile, allD, sortAD, wipeC, isiS, List.any_cons, List.any_nil, Bool.or_false, Bool.or_true, Bool.true_or, Bool.false_or, Bool.and_self, Bool.false_and, Bool.and_false, Bool.and_true, Bool.true_and, String.reduceBEq, Bool.false_eq_true, Bool.true_eq_false]
  refine forK_i (fun i ρ' h' => h' = h ∧ ∃ (st : Int) (c : Cell), ρ' = [.no, .fro (.lst (ns.map D.int)), .fro (.int st), c]) ⟨rfl, _, _, rfl⟩ ?_ ?_
  · rintro i d ρ' h' hd ⟨rfl, st, c, rfl⟩
    obtain ⟨n, _, rfl⟩ := map_get hd
    simp only [startC, qVar, qPeek, qC, qBin, qUn, qNil, qCons, qTup, qLst, qCall, asB, qTest, qAnd, qOr, qNot, qAndV, qOrV, qNotV, qIfE, deref, qNext, qSeq, qSet, qSetN, qSetP, qRet, qRetN, qDrop, qIfS, qFreeze, qApp, onOwnL, qAsg, gqName, gqNil, gqCons, gqTup, qM1, qRng1, qEnum, qAny, asI, asL, itemsD, qPart, qNoPart, qCut, cutD, qCutL, cutLD, addD, subD, mulD, modD, fdivD, eqD, neD, eqS, onB, ltD, leD, gtD, geD, isND, lenD, intD, strD, ordD, listD, tupleD, ixD, PEnds.at, wipeC, qYes,
    List.map_cons, List.map_nil, List.replicate, List.cons_append, List.nil_append, List.append_assoc, List.getElem?_cons_zero, List.getElem?_cons_succ, List.set_cons_zero, List.set_cons_succ, List.length_cons, List.length_nil, Option.map_some, if_true, if_false, Bool.not_true, Bool.not_false, decide_eq_true_eq, Bool.not_eq_true', decide_eq_false_iff_not, Nat.reduceAdd, Nat.reduceSub, List.replicate_succ, List.replicate_zero, true_and, and_true, reduceCtorEq, isStr, qPutS, putS, powD, CPow, qPut, onOwn, setD, qPutP, onPtr, qDelP, delD, qPutF, setF, qProp, qMeth, qMake, isObj, fldD, minD, maxD, qChain, revD, lrevD, isiD, tyD, qOrT, qAndT, onTru, truD, qJoined, qjCons, qjNil, fmtD, fmt5D, D.int.injEq, D.str.injEq, D.lst.injEq, D.tup.injEq, D.bl.injEq, false_implies, true_implies, ne_eq, not_false_eq_true, not_true_eq_false, forall_const, implies_true, false_and, and_false, exists_eq_left, exists_eq_left', Int.reduceEq, Int.reduceLT, Int.reduceNe, Int.reduceLE, or_false, false_or, or_true, true_or, qLc, qFor, qWhile, allD, sortAD, wipeC, isiS, List.any_cons, List.any_nil, Bool.or_false, Bool.or_true, Bool.true_or, Bool.false_or, Bool.and_self, Bool.false_and, Bool.and_false, Bool.and_true, Bool.true_and, String.reduceBEq, Bool.false_eq_true, Bool.true_eq_false]
    exact ⟨.inr ⟨by decide, by decide⟩, _, _, rfl⟩
  · rintro ρ' h' ⟨rfl, st, c, rfl⟩
    simp only [startC, qVar, qPeek, qC, qBin, qUn, qNil, qCons, qTup, qLst, qCall, asB, qTest, qAnd, qOr, qNot, qAndV, qOrV, qNotV, qIfE, deref, qNext, qSeq, qSet, qSetN, qSetP, qRet, qRetN, qDrop, qIfS, qFreeze, qApp, onOwnL, qAsg, gqName, gqNil, gqCons, gqTup, qM1, qRng1, qEnum, qAny, asI, asL, itemsD, qPart, qNoPart, qCut, cutD, qCutL, cutLD, addD, subD, mulD, modD, fdivD, eqD, neD, eqS, onB, ltD, leD, gtD, geD, isND, lenD, intD, strD, ordD, listD, tupleD, ixD, PEnds.at, wipeC, qYes,
    List.map_cons, List.map_nil, List.replicate, List.cons_append, List.nil_append, List.append_assoc, List.getElem?_cons_zero, List.getElem?_cons_succ, List.set_cons_zero, List.set_cons_succ, List.length_cons, List.length_nil, Option.map_some, if_true, if_false, Bool.not_true, Bool.not_false, decide_eq_true_eq, Bool.not_eq_true', decide_eq_false_iff_not, Nat.reduceAdd, Nat.reduceSub, List.replicate_succ, List.replicate_zero, true_and, and_true, reduceCtorEq, isStr, qPutS, putS, powD, CPow, qPut, onOwn, setD, qPutP, onPtr, qDelP, delD, qPutF, setF, qProp, qMeth, qMake, isObj, fldD, minD, maxD, qChain, revD, lrevD, isiD, tyD, qOrT, qAndT, onTru, truD, qJoined, qjCons, qjNil, fmtD, fmt5D, D.int.injEq, D.str.injEq, D.lst.injEq, D.tup.injEq, D.bl.injEq, false_implies, true_implies, ne_eq, not_false_eq_true, not_true_eq_false, forall_const, implies_true, false_and, and_false, exists_eq_left, exists_eq_left', Int.reduceEq, Int.reduceLT, Int.reduceNe, Int.reduceLE, or_false, false_or, or_true, true_or, qLc, qFor, qWhile, allD, sortAD, wipeC, isiS, List.any_cons, List.any_nil, Bool.or_false, Bool.or_true, Bool.true_or, Bool.false_or, Bool.and_self, Bool.false_and, Bool.and_false, Bool.and_true, Bool.true_and, String.reduceBEq, Bool.false_eq_true, Bool.true_eq_false]
    exact hQ st
end Pu.L70
set_option Elab.async false
set_option linter.all false
set_option maxRecDepth 100000
set_option maxHeartbeats 4000000
set_option autoImplicit false
namespace Pu.L70
open PySem PySem.Spec PyProof.Rows L2
variable {P : Program} {w : World} {K : PySem.W.Frag} {mg : Str → Option Value} {base : Heap}
def spStore (K : PySem.W.Frag) : Sp := fun vs H Q _ => ∃ (a : Addr) (ns : List Int), vs = [.ref a] ∧ SqL K H a (ns.map V.int) ∧ ns.length ≤ sizeLine ∧
  ∀ (H' : Hp) (s c : Addr) (st : Int), H' s = some (.lst [.ref c, .int 0, .int 0, .int st, .int 0]) → H' c = some (.lst (ns.map V.int)) → Q (.ref s) H'
theorem ok_store (G : GE K mg) : ∃ f fd, mg "_law_store" = some (.ref f) ∧ PySem.W.keepIn K (.ref f) = true ∧ Binds K fd ["_law_script"] [] ∧ FnOk P w K mg base (L2.CX P w) 1 f fd ["_law_script"] (spStore K) := by
  obtain ⟨f, fd, h1, F⟩ := G.f__law_store
  refine ⟨f, fd, h1, F.kp, F.bindsN fun _ _ _ _ _ _ us hl => match us, hl with | [_], _ => rfl, F.ok sc__law_store (fun vs H Q E h => ?_) (fun cdv A outer s H vs Q E hr h => ?_)⟩
  · obtain ⟨a, ns, rfl, _⟩ := h
    rfl
  · obtain ⟨a, ns, rfl, hS, hl, hQ⟩ := h
    obtain ⟨ts, hts, run⟩ := w__law_store (P := P) (w := w) (base := base) G f cdv A outer s H E hr (takes_of rfl rfl rfl rfl)
    refine ⟨_, pss_cons (ps_set (i := 1) sc__law_store.nd rfl (.inl rfl) (pe_callTy call_list_of rfl G.n_list (by decide +kernel) (pa_cons (pe_var (i := 0) rfl (.inl rfl)) pa_nil rfl)) rfl) hts, ?_⟩
    refine ⟨.ref a, rfl, a, ns.map V.int, rfl, .inl hS, fun c hc => ?_⟩
    have E0' : EnvR K { so := none, M := fun _ => False, H0 := fun _ => none } (fun _ => False) (upd H c (.lst (ns.map V.int))) ((L2.start ["_law_script", "_law_cells", "_law_state", "_law_cell"] [.ref a]).set 1 (some (.ref c))) [.no, .fro (.lst (ns.map D.int)), .no, .no] (fun _ => none) := by
      refine ⟨rfl, (fun _ _ e => by cases e), (fun S e => by cases e), (fun _ z => z.elim), (fun _ z => z.elim), (fun s ⟨S, e, _⟩ => by cases e), (fun _ z => z.elim), fun i c' hc' => ?_, fun i j p d d' h1 _ _ _ => ?_, (fun _ z => by cases z), (fun _ _ e => by cases e)⟩
      · rcases i with _ | _ | _ | _ | i
        · cases hc'; trivial
        · cases hc'
          refine ⟨.ref c, rfl, ?_⟩
          unfold Rep
          exact ⟨c, _, rfl, fun z => z.elim id id, upd_same, of_ints⟩
        · cases hc'; trivial
        · cases hc'; trivial
        · simp at hc'
      · rcases i with _ | _ | _ | _ | i <;> first | cases h1 | simp at h1
    refine run _ _ _ _ _ _ { nx := fun _ h' => False, rt := fun d _ => ∃ st : Int, d = .lst [.lst (ns.map D.int), .int 0, .int 0, .int st, .int 0], ex := fun _ _ _ _ _ => False } _ E0' (fun _ _ _ _ _ _ _ _ _ _ _ _ z => z.elim) ⟨(fun _ _ _ _ _ _ z => z.elim), fun O H' σ ρ h' d v E1 rv ⟨st, e⟩ => ?_, (fun _ _ _ _ _ _ z => z.elim), (fun _ _ _ _ _ _ z => z.elim)⟩ ?_
    · subst e
      obtain ⟨p, us, rfl, hp, r⟩ := rv.k.lst
      unfold Reps at r
      obtain ⟨u, r1, rfl, hu, r⟩ := r
      obtain ⟨c', cs, rfl, hc', rc⟩ := hu.k.lst
      rw [ints_of rc] at hc'
      unfold Reps at r
      obtain ⟨u2, r2, rfl, hu2, r⟩ := r
      unfold Reps at r
      obtain ⟨u3, r3, rfl, hu3, r⟩ := r
      unfold Reps at r
      obtain ⟨u4, r4, rfl, hu4, r⟩ := r
      unfold Reps at r
      obtain ⟨u5, r5, rfl, hu5, r⟩ := r
      unfold Reps at r
      subst r
      rw [hu2.k.int, hu3.k.int, hu4.k.int, hu5.k.int] at hp
      exact hQ H' p c' st hp hc'
    · exact v_store (R := fun d _ => ∃ st : Int, d = .lst [.lst (ns.map D.int), .int 0, .int 0, .int st, .int 0]) (Ep := fun _ _ _ _ => False) hl fun st => ⟨st, rfl⟩
end Pu.L70
set_option Elab.async false
set_option linter.all false
set_option maxRecDepth 100000
set_option maxHeartbeats 4000000
set_option autoImplicit false
namespace Pu.L70
open PySem PySem.Spec PyProof.Rows L2
variable {P : Program} {w : World} {K : PySem.W.Frag} {mg : Str → Option Value} {base : Heap}
def spLaw (K : PySem.W.Frag) : Sp := fun vs H Q _ => ∃ (a : Addr) (ns : List Int), vs = [.ref a] ∧ SqL K H a (ns.map V.int) ∧ ns.length ≤ sizeLine ∧ ∀ H', Q (.bl true) H'
theorem ok_law (G : GE K mg) {f : Addr} {fd : FuncData} (F : FunD K "law" "law" (defArgs s_law) (defBody s_law) (defScope s_law) [] [] f fd) : FnOk P w K mg base (L2.CX P w) 10 f fd ["_law_script"] (spLaw K) := by
  obtain ⟨fS, fdS, gS, kS, bS, FS⟩ := ok_store (P := P) (w := w) (base := base) G
  refine F.ok sc_law (fun vs H Q E h => ?_) (fun cdv A outer s H vs Q E hr h => ?_)
  · obtain ⟨a, ns, rfl, _⟩ := h
    rfl
  · obtain ⟨a, ns, rfl, hS, hl, hQ⟩ := h
    obtain ⟨ts, hts, run⟩ := w_law (P := P) (w := w) (base := base) G (c__law_like G) (c_Journal__houses G) (c_Journal__deeds G) (c__law_rows G) (c_Journal____init__ G) (c_write_log G) (c_Journal__prefix G) (c__law_take G) (c__law_bodies G) (c__law_handed_deeds G) (c__law_shuffled G) (c__law_doings G) (c__law_between G) (c__law_houses G) (c__law_sums G) f cdv A outer s H E hr (takes_of rfl rfl rfl rfl)
    refine ⟨_, pss_cons (ps_set (i := 1) sc_law.nd rfl (.inl rfl) (pe_call FS (hr.mono (by decide)) rfl gS kS bS .nil passLW (pa_cons (pe_var (i := 0) rfl (.inl rfl)) pa_nil rfl)) rfl) hts, ?_⟩
    refine ⟨.ref a, rfl, a, ns, rfl, hS, hl, fun H' sA cA st hs hc => ?_⟩
    have hne : cA ≠ sA := fun e => by
      subst e
      rw [hs] at hc
      injection hc with hc
      injection hc with hc
      cases ns with
      | nil => cases hc
      | cons n r => injection hc with h1 _; cases h1
    have E0' : EnvR K { so := some ⟨sA, cA, ns⟩, M := fun x => x = sA, H0 := fun _ => none } (fun _ => False) H' ((L2.start ["_law_script", "_law_store_here", "_law_houses_here", "_law_many", "_law_deeds", "_law_journal", "_law_bodies_here", "_law_moment", "_law_part"] [.ref a]).set 1 (some (.ref sA))) (.no :: .fro .sto :: List.replicate 7 .no) (fun _ => none) := by
      refine ⟨rfl, (fun _ _ e => by cases e), (fun S e => ?_), (fun x z => by rw [z, hs]; simp), (fun _ z => z.elim), (fun s ⟨S, e, e2⟩ => ?_), (fun _ z => z.elim), fun i c' hc' => ?_, fun i j p d d' h1 _ _ _ => ?_, (fun _ z => by cases z), (fun _ _ e => by cases e)⟩
      · cases e
        exact ⟨⟨0, 0, st, 0, hs, by decide⟩, fun z => z.elim hne id, hc⟩
      · cases e
        exact ⟨e2.symm, rfl⟩
      · rcases i with _ | _ | i
        · cases hc'; trivial
        · cases hc'
          refine ⟨.ref sA, rfl, ?_⟩
          unfold Rep
          exact ⟨_, rfl, rfl⟩
        · have := List.eq_of_mem_replicate (List.mem_of_getElem? (show (List.replicate 7 Cell.no)[i]? = some c' from hc'))
          rw [this]
          trivial
      · rcases i with _ | _ | i
        · cases h1
        · cases h1
        · have := List.eq_of_mem_replicate (List.mem_of_getElem? (show (List.replicate 7 Cell.no)[i]? = some _ from h1))
          cases this
    refine run _ _ _ _ _ _ (PE0 (fun d _ => d = .bl true) fun _ _ _ _ => False) _ E0' (fun _ _ _ _ _ _ _ _ _ _ _ _ z => z.elim) ⟨(fun _ _ _ _ _ _ z => by cases z), fun O H' σ ρ h' d v E1 rv e => ?_, (fun _ _ _ _ _ _ z => z.elim), (fun _ _ _ _ _ _ z => z.elim)⟩ ?_
    · subst e
      rw [rv.k.bl]
      exact hQ H'
    · exact v_law fun _ => rfl
end Pu.L70
set_option Elab.async false
set_option linter.all false
set_option maxRecDepth 100000
set_option maxHeartbeats 4000000
set_option autoImplicit false
namespace Pu.L70
open PySem PySem.Spec PyProof.Rows L2
theorem ge {K : PySem.W.Frag} {h : Heap} {mg : Str → Option Value} (X : K.In h) (G : h.Ns mainGlobals mg) (c : obsQ fa fn exB K = valQ fn) : GE K mg := by
  have c1 : He5.SaysA fa fn K := congrArg (fun z : He.AlD × Bool => z.1) c
  have c2 : exB K = true := congrArg (fun z : He.AlD × Bool => z.2) c
  unfold exB at c2
  rw [Bool.and_eq_true] at c2
  exact {
    f__wall := let ⟨fd, F⟩ := He5.SaysA.def_ c1 0 (d := d__wall) rfl; ⟨_, fd, He.glo_ok X G (He5.SaysA.fact c1 0 (f := .glo "_wall") rfl), F⟩
    f_is_letter := let ⟨fd, F⟩ := He5.SaysA.def_ c1 1 (d := d_is_letter) rfl; ⟨_, fd, He.glo_ok X G (He5.SaysA.fact c1 1 (f := .glo "is_letter") rfl), F⟩
    f_is_digit := let ⟨fd, F⟩ := He5.SaysA.def_ c1 2 (d := d_is_digit) rfl; ⟨_, fd, He.glo_ok X G (He5.SaysA.fact c1 2 (f := .glo "is_digit") rfl), F⟩
    f_is_name := let ⟨fd, F⟩ := He5.SaysA.def_ c1 3 (d := d_is_name) rfl; ⟨_, fd, He.glo_ok X G (He5.SaysA.fact c1 3 (f := .glo "is_name") rfl), F⟩
    f_check_name := let ⟨fd, F⟩ := He5.SaysA.def_ c1 4 (d := d_check_name) rfl; ⟨_, fd, He.glo_ok X G (He5.SaysA.fact c1 4 (f := .glo "check_name") rfl), F⟩
    f_check_number := let ⟨fd, F⟩ := He5.SaysA.def_ c1 5 (d := d_check_number) rfl; ⟨_, fd, He.glo_ok X G (He5.SaysA.fact c1 5 (f := .glo "check_number") rfl), F⟩
    f_check_houses := let ⟨fd, F⟩ := He5.SaysA.def_ c1 6 (d := d_check_houses) rfl; ⟨_, fd, He.glo_ok X G (He5.SaysA.fact c1 6 (f := .glo "check_houses") rfl), F⟩
    f_ordered := let ⟨fd, F⟩ := He5.SaysA.def_ c1 7 (d := d_ordered) rfl; ⟨_, fd, He.glo_ok X G (He5.SaysA.fact c1 7 (f := .glo "ordered") rfl), F⟩
    f_has_deed_form := let ⟨fd, F⟩ := He5.SaysA.def_ c1 8 (d := d_has_deed_form) rfl; ⟨_, fd, He.glo_ok X G (He5.SaysA.fact c1 8 (f := .glo "has_deed_form") rfl), F⟩
    f_need_houses := let ⟨fd, F⟩ := He5.SaysA.def_ c1 9 (d := d_need_houses) rfl; ⟨_, fd, He.glo_ok X G (He5.SaysA.fact c1 9 (f := .glo "need_houses") rfl), F⟩
    f_ready_put := let ⟨fd, F⟩ := He5.SaysA.def_ c1 10 (d := d_ready_put) rfl; ⟨_, fd, He.glo_ok X G (He5.SaysA.fact c1 10 (f := .glo "ready_put") rfl), F⟩
    f_ready_take := let ⟨fd, F⟩ := He5.SaysA.def_ c1 11 (d := d_ready_take) rfl; ⟨_, fd, He.glo_ok X G (He5.SaysA.fact c1 11 (f := .glo "ready_take") rfl), F⟩
    f_stand_after := let ⟨fd, F⟩ := He5.SaysA.def_ c1 12 (d := d_stand_after) rfl; ⟨_, fd, He.glo_ok X G (He5.SaysA.fact c1 12 (f := .glo "stand_after") rfl), F⟩
    f_next_deed := let ⟨fd, F⟩ := He5.SaysA.def_ c1 13 (d := d_next_deed) rfl; ⟨_, fd, He.glo_ok X G (He5.SaysA.fact c1 13 (f := .glo "next_deed") rfl), F⟩
    f_checked_deeds := let ⟨fd, F⟩ := He5.SaysA.def_ c1 14 (d := d_checked_deeds) rfl; ⟨_, fd, He.glo_ok X G (He5.SaysA.fact c1 14 (f := .glo "checked_deeds") rfl), F⟩
    f_record_sum := let ⟨fd, F⟩ := He5.SaysA.def_ c1 15 (d := d_record_sum) rfl; ⟨_, fd, He.glo_ok X G (He5.SaysA.fact c1 15 (f := .glo "record_sum") rfl), F⟩
    f_record_row := let ⟨fd, F⟩ := He5.SaysA.def_ c1 16 (d := d_record_row) rfl; ⟨_, fd, He.glo_ok X G (He5.SaysA.fact c1 16 (f := .glo "record_row") rfl), F⟩
    f_houses_row := let ⟨fd, F⟩ := He5.SaysA.def_ c1 17 (d := d_houses_row) rfl; ⟨_, fd, He.glo_ok X G (He5.SaysA.fact c1 17 (f := .glo "houses_row") rfl), F⟩
    f_deed_row := let ⟨fd, F⟩ := He5.SaysA.def_ c1 18 (d := d_deed_row) rfl; ⟨_, fd, He.glo_ok X G (He5.SaysA.fact c1 18 (f := .glo "deed_row") rfl), F⟩
    f_write_log := let ⟨fd, F⟩ := He5.SaysA.def_ c1 19 (d := d_write_log) rfl; ⟨_, fd, He.glo_ok X G (He5.SaysA.fact c1 19 (f := .glo "write_log") rfl), F⟩
    f__law_store := let ⟨fd, F⟩ := He5.SaysA.def_ c1 20 (d := d__law_store) rfl; ⟨_, fd, He.glo_ok X G (He5.SaysA.fact c1 20 (f := .glo "_law_store") rfl), F⟩
    f__law_take := let ⟨fd, F⟩ := He5.SaysA.def_ c1 21 (d := d__law_take) rfl; ⟨_, fd, He.glo_ok X G (He5.SaysA.fact c1 21 (f := .glo "_law_take") rfl), F⟩
    f__law_between := let ⟨fd, F⟩ := He5.SaysA.def_ c1 22 (d := d__law_between) rfl; ⟨_, fd, He.glo_ok X G (He5.SaysA.fact c1 22 (f := .glo "_law_between") rfl), F⟩
    f__law_pick := let ⟨fd, F⟩ := He5.SaysA.def_ c1 23 (d := d__law_pick) rfl; ⟨_, fd, He.glo_ok X G (He5.SaysA.fact c1 23 (f := .glo "_law_pick") rfl), F⟩
    f__law_shuffled := let ⟨fd, F⟩ := He5.SaysA.def_ c1 24 (d := d__law_shuffled) rfl; ⟨_, fd, He.glo_ok X G (He5.SaysA.fact c1 24 (f := .glo "_law_shuffled") rfl), F⟩
    f__law_names := let ⟨fd, F⟩ := He5.SaysA.def_ c1 25 (d := d__law_names) rfl; ⟨_, fd, He.glo_ok X G (He5.SaysA.fact c1 25 (f := .glo "_law_names") rfl), F⟩
    f__law_text := let ⟨fd, F⟩ := He5.SaysA.def_ c1 26 (d := d__law_text) rfl; ⟨_, fd, He.glo_ok X G (He5.SaysA.fact c1 26 (f := .glo "_law_text") rfl), F⟩
    f__law_houses := let ⟨fd, F⟩ := He5.SaysA.def_ c1 27 (d := d__law_houses) rfl; ⟨_, fd, He.glo_ok X G (He5.SaysA.fact c1 27 (f := .glo "_law_houses") rfl), F⟩
    f__law_without := let ⟨fd, F⟩ := He5.SaysA.def_ c1 28 (d := d__law_without) rfl; ⟨_, fd, He.glo_ok X G (He5.SaysA.fact c1 28 (f := .glo "_law_without") rfl), F⟩
    f__law_handed_deeds := let ⟨fd, F⟩ := He5.SaysA.def_ c1 29 (d := d__law_handed_deeds) rfl; ⟨_, fd, He.glo_ok X G (He5.SaysA.fact c1 29 (f := .glo "_law_handed_deeds") rfl), F⟩
    f__law_like := let ⟨fd, F⟩ := He5.SaysA.def_ c1 30 (d := d__law_like) rfl; ⟨_, fd, He.glo_ok X G (He5.SaysA.fact c1 30 (f := .glo "_law_like") rfl), F⟩
    f__law_ends := let ⟨fd, F⟩ := He5.SaysA.def_ c1 31 (d := d__law_ends) rfl; ⟨_, fd, He.glo_ok X G (He5.SaysA.fact c1 31 (f := .glo "_law_ends") rfl), F⟩
    f__law_doings := let ⟨fd, F⟩ := He5.SaysA.def_ c1 32 (d := d__law_doings) rfl; ⟨_, fd, He.glo_ok X G (He5.SaysA.fact c1 32 (f := .glo "_law_doings") rfl), F⟩
    f__law_due_sum := let ⟨fd, F⟩ := He5.SaysA.def_ c1 33 (d := d__law_due_sum) rfl; ⟨_, fd, He.glo_ok X G (He5.SaysA.fact c1 33 (f := .glo "_law_due_sum") rfl), F⟩
    f__law_sums := let ⟨fd, F⟩ := He5.SaysA.def_ c1 34 (d := d__law_sums) rfl; ⟨_, fd, He.glo_ok X G (He5.SaysA.fact c1 34 (f := .glo "_law_sums") rfl), F⟩
    f__law_bodies := let ⟨fd, F⟩ := He5.SaysA.def_ c1 35 (d := d__law_bodies) rfl; ⟨_, fd, He.glo_ok X G (He5.SaysA.fact c1 35 (f := .glo "_law_bodies") rfl), F⟩
    f__law_rows := let ⟨fd, F⟩ := He5.SaysA.def_ c1 36 (d := d__law_rows) rfl; ⟨_, fd, He.glo_ok X G (He5.SaysA.fact c1 36 (f := .glo "_law_rows") rfl), F⟩
    n_len := He.free_ok X G (He5.SaysA.fact c1 38 (f := .free "len") rfl)
    n_int := He.free_ok X G (He5.SaysA.fact c1 39 (f := .free "int") rfl)
    n_str := He.free_ok X G (He5.SaysA.fact c1 40 (f := .free "str") rfl)
    n_ord := He.free_ok X G (He5.SaysA.fact c1 41 (f := .free "ord") rfl)
    n_tuple := He.free_ok X G (He5.SaysA.fact c1 42 (f := .free "tuple") rfl)
    n_all := He.free_ok X G (He5.SaysA.fact c1 43 (f := .free "all") rfl)
    n_list := He.free_ok X G (He5.SaysA.fact c1 44 (f := .free "list") rfl)
    n_sorted := He.free_ok X G (He5.SaysA.fact c1 45 (f := .free "sorted") rfl)
    n_min := He.free_ok X G (He5.SaysA.fact c1 46 (f := .free "min") rfl)
    n_max := He.free_ok X G (He5.SaysA.fact c1 47 (f := .free "max") rfl)
    n_isinstance := He.free_ok X G (He5.SaysA.fact c1 48 (f := .free "isinstance") rfl)
    n_bool := He.free_ok X G (He5.SaysA.fact c1 49 (f := .free "bool") rfl)
    n_dict := He.free_ok X G (He5.SaysA.fact c1 50 (f := .free "dict") rfl)
    n_range := He.free_ok X G (He5.SaysA.fact c1 51 (f := .free "range") rfl)
    n_enumerate := He.free_ok X G (He5.SaysA.fact c1 52 (f := .free "enumerate") rfl)
    n_reversed := He.free_ok X G (He5.SaysA.fact c1 53 (f := .free "reversed") rfl)
    c_MOST_HOUSES := He.int_ok X G (He5.SaysA.fact c1 54 (f := .int "MOST_HOUSES" 32) rfl)
    c_MOST_LINES := He.int_ok X G (He5.SaysA.fact c1 55 (f := .int "MOST_LINES" 96) rfl)
    c_MOST_DEEDS := He.int_ok X G (He5.SaysA.fact c1 56 (f := .int "MOST_DEEDS" 240) rfl)
    c_LONGEST_NAME := He.int_ok X G (He5.SaysA.fact c1 57 (f := .int "LONGEST_NAME" 12) rfl)
    k_Journal := He.cls_ok (He5.SaysA.fact c1 59 (f := .cls "Journal") rfl)
    na_Journal_house_row := He.noat_ok (He5.SaysA.fact c1 62 (f := .noat "Journal" "house_row") rfl)
    na_Journal_done_deeds := He.noat_ok (He5.SaysA.fact c1 63 (f := .noat "Journal" "done_deeds") rfl)
    i_Journal____init__ := let ⟨fd, F⟩ := He5.SaysA.def_ c1 38 (d := d_Journal____init__) rfl; ⟨He.glo_ok X G (He5.SaysA.fact c1 58 (f := .glo "Journal") rfl), _, fd, _, rfl, He.mkr_ok (He5.SaysA.fact c1 60 (f := .mkr "Journal") rfl), F⟩
    m_Journal__prefix := let ⟨fd, F⟩ := He5.SaysA.def_ c1 39 (d := d_Journal__prefix) rfl; ⟨_, fd, He.meth_ok (He5.SaysA.fact c1 61 (f := .meth "Journal" "prefix") rfl), F⟩
    p_Journal__houses := let ⟨fd, F⟩ := He5.SaysA.def_ c1 40 (d := d_Journal__houses) rfl; ⟨_, _, fd, propB_ok c2.1, F⟩
    p_Journal__deeds := let ⟨fd, F⟩ := He5.SaysA.def_ c1 41 (d := d_Journal__deeds) rfl; ⟨_, _, fd, propB_ok c2.2, F⟩
  }
theorem facts {P : Program} {w : World} {K : PySem.W.Frag} {h : Heap} {mg : Str → Option Value} {f : Addr} (X : K.In h) (G : h.Ns mainGlobals mg) (hfa : mg ("law" : Str) = some (.ref f)) (c : obsQ fa fn exB K = valQ fn) :
    ∃ fd : FuncData, (∀ (s : Shared) (v : Value), BindsTo s fd ⟨[v], []⟩ [("_law_script", v)]) ∧ ∀ base : Heap, K.In base → base.Ns mainGlobals mg → FnOk P w K mg base (L2.CX P w) 10 f fd ["_law_script"] (spLaw K) := by
  have c1 : He5.SaysA fa fn K := congrArg (fun z : He.AlD × Bool => z.1) c
  obtain ⟨fd, F⟩ := He5.SaysA.def_ c1 37 (d := d_law) rfl
  have e := hfa.symm.trans (He.glo_ok X G (He5.SaysA.fact c1 37 (f := .glo "law") rfl))
  cases e
  have b := FunD.bindsA (ps := ["_law_script"]) F fun _ _ _ _ _ _ us hl => match us, hl with | [_], _ => rfl
  exact ⟨fd, fun s v => b s [v] rfl, fun base _ _ => ok_law (ge X G c) F⟩
end Pu.L70
open PySem PySem.W PySem.Calls PyProof.Rows
set_option maxRecDepth 100000 in
set_option maxHeartbeats 0 in
theorem PySem.Challenge.cw_keptjoined_k70_record_sums_holds : PySem.Challenge.rw_keptjoined_k70_record_sums.Holds := by
  w_on; o_law
  refine HandSHeadRun.head_any (r := OpenLaw.row PySem.Challenge.rw_keptjoined_k70_record_sums) (q := view (OpenLaw.row PySem.Challenge.rw_keptjoined_k70_record_sums).prog [56]) (H := Pu.L70.hk) (ob := Pu.L70.ob) (M := 20000) (loose := Pu.L70.nms) (d := HandSHeadRun.topDef (OpenLaw.row PySem.Challenge.rw_keptjoined_k70_record_sums).prog 56) (kwd := []) Pu.L70.ob_eq
    (by kernel_rfl) (fun s => by kernel_rfl) Pu.L70.run (by kernel_rfl) (by kernel_rfl) (by kernel_rfl) (by rfl) (by first | assumption | decide +kernel) (by decide +kernel) ⟨rfl, rfl, rfl, rfl, rfl, by decide +kernel⟩ ?hw ?hc
  case hw => w_witness2
  case hc =>
    refine Pu.walk_ofX (l := PySem.Challenge.rw_keptjoined_k70_record_sums) (n := 63) (k := 10) (x := "_law_script") rfl (by decide) (by kernel_rfl) ⟨rfl, by decide, by decide⟩ ?F
    intro w mg fa h Y G hmg0
    obtain ⟨K, KX, c⟩ := Y
    have hmg : mg ("law" : PySem.Str) = some (.ref fa) := by
      have e : (HandSHeadRun.topDef (OpenLaw.row PySem.Challenge.rw_keptjoined_k70_record_sums).prog 56).name = ("law" : PySem.Str) := by kernel_rfl
      rw [← e]
      exact hmg0
    obtain ⟨fd, hb, hF⟩ := Pu.L70.facts (P := (PySem.Challenge.rw_keptjoined_k70_record_sums).prog) (w := w) KX G hmg c
    exact ⟨K, fd, Pu.L70.spLaw K, KX, hb, fun H a ns hl hS => ⟨a, ns, rfl, hS, Nat.le_trans hl (by rw [sizeLine_eq]; decide), fun _ => rfl⟩, hF⟩
#print axioms PySem.Challenge.cw_keptjoined_k70_record_sums_holds
