import PyProof.Rows.All
import Wide.All
import OpenK.AllK
import Wide.FinOn
import HandS.ForMost
import HandS.Conv
import HandS.Strs
import HandS.TupAny
import HandS.IsInst
import HandS.Zip
import HandS.Style
import HandS.Defaults
import KE.GoesMore
import KE.GoesEnum
import HandS.SortRule
import HandS.SortInts
import HandS.More
import HandS.SortOrd
import HandS.Head0
import HandS.Head1
import HandS.Head2
import HandS.HeadEnd
import HandS.HeadHook1
import HandS.HeadHook2
import HandS.Remove
import KE.DataFind
import PySem.Challenge.RW_cutstand_k54_whole_in_any_order
set_option Elab.async false
set_option linter.all false
set_option maxRecDepth 100000
set_option maxHeartbeats 4000000
/-! ## DA -/
/-! A layer of plain data over the hand layer: tuples are values, lists and dicts stand in a small store. -/
namespace Dl
open PySem PySem.Spec PyProof.Rows L2

/-! ### data -/
inductive D where
  | non | bl (b : Bool) | int (i : Int) | str (x : Str) | ref (a : Addr) | tup (xs : List D) | ftup (xs : List D)
instance : Inhabited D := ⟨.non⟩
mutual
def Is (H : Hp) : D → V → Prop
  | .non, v => v = .non
  | .bl b, v => v = .bl b
  | .int i, v => v = .int i
  | .str x, v => v = .str x
  | .ref a, v => v = .ref a
  | .tup ds, v => ∃ a vs, v = .ref a ∧ H a = some (.tup vs) ∧ Iss H ds vs
  | .ftup ds, v => ∃ a o vs, v = .ref a ∧ H a = some (.frz o (.tup vs)) ∧ o.dict = none ∧ Iss H ds vs
def Iss (H : Hp) : List D → List V → Prop
  | [], vs => vs = []
  | d :: ds, vs => ∃ v r, vs = v :: r ∧ Is H d v ∧ Iss H ds r
end
/-- what never changes stays -/
structure Tk (H H' : Hp) : Prop where
  tup : ∀ b xs, H b = some (.tup xs) → H' b = some (.tup xs)
  frz : ∀ b o u, H b = some (.frz o (.tup u)) → H' b = some (.frz o (.tup u))
theorem Tk.refl (H : Hp) : Tk H H := ⟨fun _ _ h => h, fun _ _ _ h => h⟩
theorem Tk.trans {H H1 H2 : Hp} (a : Tk H H1) (b : Tk H1 H2) : Tk H H2 := ⟨fun x y h => b.tup x y (a.tup x y h), fun x y z h => b.frz x y z (a.frz x y z h)⟩
mutual
theorem Is.mono {H H' : Hp} (t : Tk H H') : ∀ (d : D) {v : V}, Is H d v → Is H' d v
  | .non, _, h => by unfold Is at h ⊢; exact h
  | .bl _, _, h => by unfold Is at h ⊢; exact h
  | .int _, _, h => by unfold Is at h ⊢; exact h
  | .str _, _, h => by unfold Is at h ⊢; exact h
  | .ref _, _, h => by unfold Is at h ⊢; exact h
  | .tup ds, _, h => by
    unfold Is at h ⊢
    obtain ⟨a, vs, e, ha, hs⟩ := h
    exact ⟨a, vs, e, t.tup _ _ ha, Iss.mono t ds hs⟩
  | .ftup ds, _, h => by
    unfold Is at h ⊢
    obtain ⟨a, o, vs, e, ha, hd, hs⟩ := h
    exact ⟨a, o, vs, e, t.frz _ _ _ ha, hd, Iss.mono t ds hs⟩
theorem Iss.mono {H H' : Hp} (t : Tk H H') : ∀ (ds : List D) {vs : List V}, Iss H ds vs → Iss H' ds vs
  | [], _, h => by unfold Iss at h ⊢; exact h
  | d :: ds, _, h => by
    unfold Iss at h ⊢
    obtain ⟨v, r, e, hd, hs⟩ := h
    exact ⟨v, r, e, Is.mono t d hd, Iss.mono t ds hs⟩
end
section
variable {H : Hp} {v : V}
theorem is_non : Is H .non v ↔ v = .non := by unfold Is; exact Iff.rfl
theorem is_bl {b : Bool} : Is H (.bl b) v ↔ v = .bl b := by unfold Is; exact Iff.rfl
theorem is_int {i : Int} : Is H (.int i) v ↔ v = .int i := by unfold Is; exact Iff.rfl
theorem is_str {x : Str} : Is H (.str x) v ↔ v = .str x := by unfold Is; exact Iff.rfl
theorem is_ref {a : Addr} : Is H (.ref a) v ↔ v = .ref a := by unfold Is; exact Iff.rfl
theorem is_tup {ds : List D} : Is H (.tup ds) v ↔ ∃ a vs, v = .ref a ∧ H a = some (.tup vs) ∧ Iss H ds vs := by conv => lhs; unfold Is
theorem is_ftup {ds : List D} : Is H (.ftup ds) v ↔ ∃ a o vs, v = .ref a ∧ H a = some (.frz o (.tup vs)) ∧ o.dict = none ∧ Iss H ds vs := by conv => lhs; unfold Is
theorem iss_nil {vs : List V} : Iss H [] vs ↔ vs = [] := by conv => lhs; unfold Iss
theorem iss_cons {d : D} {ds : List D} {vs : List V} : Iss H (d :: ds) vs ↔ ∃ v r, vs = v :: r ∧ Is H d v ∧ Iss H ds r := by conv => lhs; unfold Iss
end
theorem Iss.len {H : Hp} : ∀ {ds : List D} {vs : List V}, Iss H ds vs → ds.length = vs.length
  | [], vs, h => by rw [iss_nil.mp h] <;> rfl
  | d :: ds, vs, h => by
    obtain ⟨v, r, rfl, _, hs⟩ := iss_cons.mp h
    rw [List.length_cons, List.length_cons, Iss.len hs]
theorem Iss.get {H : Hp} : ∀ {ds : List D} {vs : List V} {i : Nat} {d : D}, Iss H ds vs → ds[i]? = some d → ∃ v, vs[i]? = some v ∧ Is H d v
  | [], _, i, d, _, e => by simp at e
  | d0 :: ds, vs, i, d, h, e => by
    obtain ⟨v, r, rfl, hd, hs⟩ := iss_cons.mp h
    cases i with
    | zero =>
      have e' : d0 = d := Option.some.inj e
      subst e'
      exact ⟨v, rfl, hd⟩
    | succ i => exact Iss.get (ds := ds) (vs := r) (i := i) hs (by simpa using e)
theorem Iss.getV {H : Hp} : ∀ {ds : List D} {vs : List V} {i : Nat} {v : V}, Iss H ds vs → vs[i]? = some v → ∃ d, ds[i]? = some d ∧ Is H d v
  | [], vs, i, d, h, e => by rw [iss_nil.mp h] at e; simp at e
  | d0 :: ds, vs, i, v', h, e => by
    obtain ⟨v, r, rfl, hd, hs⟩ := iss_cons.mp h
    cases i with
    | zero =>
      have e' : v = v' := Option.some.inj e
      subst e'
      exact ⟨d0, rfl, hd⟩
    | succ i => exact Iss.getV (ds := ds) (vs := r) (i := i) hs (by simpa using e)
theorem Iss.app {H : Hp} : ∀ {ds es : List D} {vs ws : List V}, Iss H ds vs → Iss H es ws → Iss H (ds ++ es) (vs ++ ws)
  | [], es, vs, ws, h, g => by rw [iss_nil.mp h]; exact g
  | d :: ds, es, vs, ws, h, g => by
    obtain ⟨v, r, rfl, hd, hs⟩ := iss_cons.mp h
    exact iss_cons.mpr ⟨v, r ++ ws, rfl, hd, Iss.app hs g⟩
theorem Iss.one {H : Hp} {d : D} {v : V} (h : Is H d v) : Iss H [d] [v] := iss_cons.mpr ⟨v, [], rfl, h, iss_nil.mpr rfl⟩
theorem Iss.drop {H : Hp} : ∀ {ds : List D} {vs : List V} (n : Nat), Iss H ds vs → Iss H (ds.drop n) (vs.drop n)
  | ds, vs, 0, h => h
  | [], vs, n + 1, h => by rw [iss_nil.mp h]; exact iss_nil.mpr rfl
  | d :: ds, vs, n + 1, h => by
    obtain ⟨v, r, rfl, hd, hs⟩ := iss_cons.mp h
    exact Iss.drop n hs
theorem Iss.take {H : Hp} : ∀ {ds : List D} {vs : List V} (n : Nat), Iss H ds vs → Iss H (ds.take n) (vs.take n)
  | ds, vs, 0, h => iss_nil.mpr rfl
  | [], vs, n + 1, h => by rw [iss_nil.mp h]; exact iss_nil.mpr rfl
  | d :: ds, vs, n + 1, h => by
    obtain ⟨v, r, rfl, hd, hs⟩ := iss_cons.mp h
    exact iss_cons.mpr ⟨v, r.take n, rfl, hd, Iss.take n hs⟩
theorem Iss.set {H : Hp} {d : D} {v : V} (hv : Is H d v) : ∀ {ds : List D} {vs : List V} (n : Nat), Iss H ds vs → Iss H (ds.set n d) (vs.set n v)
  | [], vs, n, h => by rw [iss_nil.mp h]; exact iss_nil.mpr rfl
  | e :: ds, vs, 0, h => by
    obtain ⟨w, r, rfl, hd, hs⟩ := iss_cons.mp h
    exact iss_cons.mpr ⟨v, r, rfl, hv, hs⟩
  | e :: ds, vs, n + 1, h => by
    obtain ⟨w, r, rfl, hd, hs⟩ := iss_cons.mp h
    exact iss_cons.mpr ⟨w, r.set n v, rfl, hd, Iss.set hv n hs⟩
theorem Iss.erase {H : Hp} : ∀ {ds : List D} {vs : List V} (n : Nat), Iss H ds vs → Iss H (ds.eraseIdx n) (vs.eraseIdx n)
  | [], vs, n, h => by rw [iss_nil.mp h]; exact iss_nil.mpr rfl
  | e :: ds, vs, 0, h => by
    obtain ⟨w, r, rfl, hd, hs⟩ := iss_cons.mp h
    exact hs
  | e :: ds, vs, n + 1, h => by
    obtain ⟨w, r, rfl, hd, hs⟩ := iss_cons.mp h
    exact iss_cons.mpr ⟨w, r.eraseIdx n, rfl, hd, Iss.erase n hs⟩
theorem Iss.map {H : Hp} {α : Type} (f : α → D) (g : α → V) (hf : ∀ x, Is H (f x) (g x)) : ∀ l : List α, Iss H (l.map f) (l.map g)
  | [] => iss_nil.mpr rfl
  | x :: l => iss_cons.mpr ⟨g x, l.map g, rfl, hf x, Iss.map f g hf l⟩
theorem Iss.ints {H : Hp} : ∀ {ns : List Int} {vs : List V}, Iss H (ns.map D.int) vs → vs = ns.map V.int
  | [], vs, h => iss_nil.mp h
  | n :: ns, vs, h => by
    obtain ⟨v, r, rfl, hd, hs⟩ := iss_cons.mp h
    rw [is_int.mp hd, Iss.ints hs]
    rfl
theorem Iss.bls {H : Hp} : ∀ {ns : List Bool} {vs : List V}, Iss H (ns.map D.bl) vs → vs = ns.map V.bl
  | [], vs, h => iss_nil.mp h
  | n :: ns, vs, h => by
    obtain ⟨v, r, rfl, hd, hs⟩ := iss_cons.mp h
    rw [is_bl.mp hd, Iss.bls hs]
    rfl
def kD : Key → D
  | .inl i => .int i
  | .inr x => .str x
theorem is_kD {H : Hp} {k : Key} {v : V} : Is H (kD k) v ↔ v = kV k := by
  cases k with
  | inl i => exact is_int
  | inr x => exact is_str
theorem iss_kD {H : Hp} : ∀ {ks : List Key} {vs : List V}, Iss H (ks.map kD) vs → vs = ks.map kV
  | [], vs, h => iss_nil.mp h
  | k :: ks, vs, h => by
    obtain ⟨v, r, rfl, hd, hs⟩ := iss_cons.mp h
    rw [is_kD.mp hd, iss_kD hs]
    rfl
theorem is_key {H : Hp} {ks : List Key} {v : V} (h : Is H (.tup (ks.map kD)) v) : ∃ b, v = .ref b ∧ H b = some (.tup (ks.map kV)) := by
  obtain ⟨a, vs, e, ha, hs⟩ := is_tup.mp h
  rw [iss_kD hs] at ha
  exact ⟨a, e, ha⟩

/-! ### the store -/
inductive C where
  | lst (ds : List D) | dT (kvs : List (List Key × D)) | dK (kvs : List (Key × D)) | zK (ob : Obj) (ws : List (Key × V)) (kvs : List (Key × D)) | fL (ds : List D)
def Kvs {κ : Type} (H : Hp) : List (κ × D) → List (κ × V) → Prop
  | [], ws => ws = []
  | (k, d) :: r, ws => ∃ v t, ws = (k, v) :: t ∧ Is H d v ∧ Kvs H r t
theorem Kvs.mono {κ : Type} {H H' : Hp} (t : Tk H H') : ∀ {kvs : List (κ × D)} {ws : List (κ × V)}, Kvs H kvs ws → Kvs H' kvs ws
  | [], _, h => h
  | (k, d) :: r, _, ⟨v, s, e, hd, hs⟩ => ⟨v, s, e, Is.mono t d hd, Kvs.mono t hs⟩
def CIs (H : Hp) : C → Addr → Prop
  | .lst ds, a => ∃ xs, H a = some (.lst xs) ∧ Iss H ds xs
  | .dT kvs, a => ∃ ws, H a = some (.dT ws) ∧ Kvs H kvs ws
  | .dK kvs, a => ∃ ws, H a = some (.dK ws) ∧ Kvs H kvs ws
  | .zK o ws kvs, a => H a = some (.frz o (.dK ws)) ∧ Kvs H kvs ws
  | .fL ds, a => ∃ o xs, H a = some (.frz o (.lst xs)) ∧ Iss H ds xs
abbrev Mu := Addr → Option C
def updM (μ : Mu) (a : Addr) (c : C) : Mu := fun b => if b = a then some c else μ b
theorem updM_same {μ : Mu} {a : Addr} {c : C} : updM μ a c a = some c := by unfold updM; rw [if_pos rfl]
theorem updM_ne {μ : Mu} {a b : Addr} {c : C} (h : b ≠ a) : updM μ a c b = μ b := by unfold updM; rw [if_neg h]
theorem updM_updM {μ : Mu} {a : Addr} {c e : C} : updM (updM μ a c) a e = updM μ a e := by
  funext b; unfold updM; split <;> rfl
theorem mu_ne {μ : Mu} {a b : Addr} {c : C} (h : μ a = some c) (h' : μ b = none) : a ≠ b := by
  intro e; subst e; rw [h] at h'; cases h'
def Rel (μ : Mu) (H : Hp) : Prop := ∀ a c, μ a = some c → CIs H c a
/-- from one point to another: what the store does not know stays -/
structure Fr (μ : Mu) (H : Hp) (μ' : Mu) (H' : Hp) : Prop where
  keep : ∀ b o, μ b = none → H b = some o → H' b = some o
  new : ∀ a, μ' a ≠ none → μ a ≠ none ∨ H a = none
  tk : Tk H H'
  old : ∀ b, H' b = none → H b = none
theorem Fr.refl {μ : Mu} {H : Hp} : Fr μ H μ H := ⟨fun _ _ _ h => h, fun _ h => .inl h, Tk.refl H, fun _ h => h⟩
theorem Fr.trans {μ μ1 μ2 : Mu} {H H1 H2 : Hp} (a : Fr μ H μ1 H1) (b : Fr μ1 H1 μ2 H2) : Fr μ H μ2 H2 where
  keep := fun c o h1 h2 => by
    have n : μ1 c = none := by
      cases q : μ1 c with
      | none => rfl
      | some x =>
        rcases a.new c (by rw [q]; simp) with z | z
        · exact absurd h1 z
        · rw [h2] at z; cases z
    exact b.keep c o n (a.keep c o h1 h2)
  new := fun c h => by
    rcases b.new c h with z | z
    · exact a.new c z
    · cases q : μ c with
      | some x => exact .inl (by simp)
      | none => exact .inr (a.old c z)
  tk := a.tk.trans b.tk
  old := fun c h => a.old c (b.old c h)
theorem CIs.stay {H H' : Hp} {c : C} {a : Addr} (t : Tk H H') (e : ∀ o, H a = some o → H' a = some o) (h : CIs H c a) : CIs H' c a := by
  cases c with
  | lst ds => obtain ⟨xs, ha, hs⟩ := h; exact ⟨xs, e _ ha, hs.mono t⟩
  | dT kvs => obtain ⟨xs, ha, hs⟩ := h; exact ⟨xs, e _ ha, hs.mono t⟩
  | dK kvs => obtain ⟨xs, ha, hs⟩ := h; exact ⟨xs, e _ ha, hs.mono t⟩
  | zK o xs kvs => obtain ⟨ha, hs⟩ := h; exact ⟨e _ ha, hs.mono t⟩
  | fL ds => obtain ⟨o, xs, ha, hs⟩ := h; exact ⟨o, xs, e _ ha, hs.mono t⟩
theorem CIs.there {H : Hp} {c : C} {a : Addr} (h : CIs H c a) : ∃ o, H a = some o := by
  cases c with
  | lst ds => obtain ⟨xs, ha, hs⟩ := h; exact ⟨_, ha⟩
  | dT kvs => obtain ⟨xs, ha, hs⟩ := h; exact ⟨_, ha⟩
  | dK kvs => obtain ⟨xs, ha, hs⟩ := h; exact ⟨_, ha⟩
  | zK o xs kvs => obtain ⟨ha, hs⟩ := h; exact ⟨_, ha⟩
  | fL ds => obtain ⟨o, xs, ha, hs⟩ := h; exact ⟨_, ha⟩
theorem CIs.notTup {H : Hp} {c : C} {a : Addr} (h : CIs H c a) : (∀ xs, H a ≠ some (.tup xs)) ∧ ∀ o u, H a ≠ some (.frz o (.tup u)) := by
  cases c with
  | lst ds => obtain ⟨xs, ha, hs⟩ := h; rw [ha]; exact ⟨fun _ e => (by cases e), fun _ _ e => (by cases e)⟩
  | dT kvs => obtain ⟨xs, ha, hs⟩ := h; rw [ha]; exact ⟨fun _ e => (by cases e), fun _ _ e => (by cases e)⟩
  | dK kvs => obtain ⟨xs, ha, hs⟩ := h; rw [ha]; exact ⟨fun _ e => (by cases e), fun _ _ e => (by cases e)⟩
  | zK o xs kvs => obtain ⟨ha, hs⟩ := h; rw [ha]; exact ⟨fun _ e => (by cases e), fun _ _ e => (by cases e)⟩
  | fL ds => obtain ⟨o, xs, ha, hs⟩ := h; rw [ha]; exact ⟨fun _ e => (by cases e), fun _ _ e => (by cases e)⟩
section
variable {μ : Mu} {H : Hp} {p : Addr} {o : HO} {c : C}
theorem upd_old {b : Addr} (e : upd H p o b = none) : H b = none := by
  by_cases hb : b = p
  · subst hb; rw [upd_same] at e; cases e
  · rw [upd_ne hb] at e; exact e
theorem Rel.none_of (R : Rel μ H) (h : H p = none) : μ p = none := by
  cases q : μ p with
  | none => rfl
  | some c =>
    obtain ⟨o, e⟩ := (R p c q).there
    rw [h] at e; cases e
theorem Tk.new (h : H p = none) : Tk H (upd H p o) := ⟨fun b xs e => by rw [upd_ne (ne_of_none e h)]; exact e, fun b u x e => by rw [upd_ne (ne_of_none e h)]; exact e⟩
/-- a new thing that the store need not know (a tuple) -/
theorem Rel.new (R : Rel μ H) (h : H p = none) : Rel μ (upd H p o) := fun a c e =>
  (R a c e).stay (Tk.new h) fun u q => by rw [upd_ne (ne_of_none q h)]; exact q
theorem Fr.newT (h : H p = none) : Fr μ H μ (upd H p o) := ⟨fun b u _ e => by rw [upd_ne (ne_of_none e h)]; exact e, fun a e => .inl e, Tk.new h, fun _ z => upd_old z⟩
/-- a new thing that the store knows -/
theorem Rel.newC (R : Rel μ H) (h : H p = none) (hc : CIs (upd H p o) c p) : Rel (updM μ p c) (upd H p o) := fun a d e => by
  by_cases ha : a = p
  · subst ha
    rw [updM_same] at e
    cases e
    exact hc
  · rw [updM_ne ha] at e
    exact R.new h a d e
theorem Fr.newC (h : H p = none) : Fr μ H (updM μ p c) (upd H p o) := ⟨fun b u _ e => by rw [upd_ne (ne_of_none e h)]; exact e, fun a e => by
  by_cases ha : a = p
  · subst ha; exact .inr h
  · rw [updM_ne ha] at e; exact .inl e, Tk.new h, fun _ z => upd_old z⟩
/-- a thing of the store changes -/
theorem Tk.put {c0 : C} (h : CIs H c0 p) : Tk H (upd H p o) := ⟨fun b xs e => by
  by_cases hb : b = p
  · subst hb; exact absurd e (h.notTup.1 xs)
  · rw [upd_ne hb]; exact e, fun b u x e => by
  by_cases hb : b = p
  · subst hb; exact absurd e (h.notTup.2 u x)
  · rw [upd_ne hb]; exact e⟩
theorem Rel.put {c0 : C} (R : Rel μ H) (h : μ p = some c0) (hc : CIs (upd H p o) c p) : Rel (updM μ p c) (upd H p o) := fun a d e => by
  by_cases ha : a = p
  · subst ha
    rw [updM_same] at e
    cases e
    exact hc
  · rw [updM_ne ha] at e
    exact (R a d e).stay (Tk.put (R p c0 h)) fun u q => by rw [upd_ne ha]; exact q
theorem Fr.put {c0 : C} (R : Rel μ H) (h : μ p = some c0) : Fr μ H (updM μ p c) (upd H p o) := ⟨fun b u hb e => by
  rw [upd_ne (by intro z; subst z; rw [h] at hb; cases hb)]; exact e, fun a e => by
  by_cases ha : a = p
  · subst ha; exact .inl (by rw [h]; simp)
  · rw [updM_ne ha] at e; exact .inl e, Tk.put (R p c0 h), fun _ z => upd_old z⟩
/-- less is known -/
theorem Rel.less {μ' : Mu} (R : Rel μ' H) (h : ∀ a c, μ a = some c → μ' a = some c) : Rel μ H := fun a c e => R a c (h a c e)
end

/-! ### the state -/
abbrev DEnv := List (Option D)
structure S (σ : L2.St) (H : Hp) (ρ : DEnv) (μ : Mu) : Prop where
  sl : ∀ (i : Nat) (d : D), ρ[i]? = some (some d) → ∃ v : V, σ[i]? = some (some v) ∧ Is H d v
  ln : ρ.length = σ.length
  re : Rel μ H
section
variable {σ : L2.St} {H H' : Hp} {ρ : DEnv} {μ μ' : Mu}
theorem S.mono (s : S σ H ρ μ) (t : Tk H H') (R : Rel μ' H') : S σ H' ρ μ' := ⟨fun i d e => let ⟨v, h1, h2⟩ := s.sl i d e; ⟨v, h1, h2.mono t⟩, s.ln, R⟩
theorem S.set {i : Nat} {d : D} {v : V} (s : S σ H ρ μ) (h : Is H d v) : S (σ.set i (some v)) H (ρ.set i (some d)) μ := by
  refine ⟨fun j e q => ?_, by rw [List.length_set, List.length_set]; exact s.ln, s.re⟩
  by_cases hj : i = j
  · subst hj
    by_cases hl : i < ρ.length
    · rw [List.getElem?_set_self hl] at q
      have q' : d = e := Option.some.inj (Option.some.inj q)
      subst q'
      exact ⟨v, List.getElem?_set_self (by rw [← s.ln]; exact hl), h⟩
    · rw [List.getElem?_eq_none (by simpa using Nat.le_of_not_lt hl)] at q
      cases q
  · rw [List.getElem?_set_ne hj] at q
    obtain ⟨w, h1, h2⟩ := s.sl j e q
    exact ⟨w, by rw [List.getElem?_set_ne hj]; exact h1, h2⟩
def wipeD (ρ : DEnv) : List Nat → DEnv
  | [] => ρ
  | v :: vs => (wipeD ρ vs).set v none
theorem wipeD_length (ρ : DEnv) : ∀ vs : List Nat, (wipeD ρ vs).length = ρ.length
  | [] => rfl
  | v :: vs => by unfold wipeD; rw [List.length_set, wipeD_length ρ vs]
theorem wipe_at {σ : L2.St} : ∀ {vs : List Nat} {i : Nat} {x : Option V}, i ∉ vs → σ[i]? = some x → (wipe σ vs)[i]? = some x
  | [], i, x, _, h => h
  | v :: vs, i, x, n, h => by
    unfold wipe
    rw [List.getElem?_set_ne (fun e => n (by rw [e]; exact List.mem_cons_self))]
    exact wipe_at (fun m => n (List.mem_cons_of_mem _ m)) h
theorem wipeD_some {ρ : DEnv} : ∀ {vs : List Nat} {i : Nat} {d : D}, (wipeD ρ vs)[i]? = some (some d) → ρ[i]? = some (some d) ∧ i ∉ vs
  | [], i, d, h => ⟨h, by simp⟩
  | v :: vs, i, d, h => by
    unfold wipeD at h
    by_cases hi : v = i
    · subst hi
      by_cases hv : v < (wipeD ρ vs).length
      · rw [List.getElem?_set_self hv] at h; cases h
      · rw [List.getElem?_eq_none (by simpa using hv)] at h; cases h
    · rw [List.getElem?_set_ne hi] at h
      obtain ⟨h1, h2⟩ := wipeD_some h
      exact ⟨h1, by simp only [List.mem_cons, not_or]; exact ⟨fun e => hi e.symm, h2⟩⟩
theorem S.wipe (s : S σ H ρ μ) (vs : List Nat) : S (wipe σ vs) H (wipeD ρ vs) μ := by
  refine ⟨fun i d e => ?_, by rw [wipeD_length, wipe_length]; exact s.ln, s.re⟩
  obtain ⟨h1, h2⟩ := wipeD_some e
  obtain ⟨v, h3, h4⟩ := s.sl i d h1
  exact ⟨v, wipe_at h2 h3, h4⟩
end

/-! ### readings of data -/
abbrev DE := DEnv → Mu → (D → Mu → Prop) → Prop
abbrev DT := DEnv → Mu → (Bool → Mu → Prop) → Prop
abbrev DA := DEnv → Mu → (List D → Mu → Prop) → Prop
abbrev DG := D → DEnv → Mu → (DEnv → Mu → Prop) → Prop
structure DEnds where
  nx : DEnv → Mu → Prop
  rt : D → Mu → Prop
  bk : DEnv → Mu → Prop := fun _ _ => False
  ct : DEnv → Mu → Prop := fun _ _ => False
abbrev DS := DEnds → DEnv → Mu → Prop
abbrev DR2 := D → D → Mu → (D → Mu → Prop) → Prop
abbrev DRs := List D → Mu → (D → Mu → Prop) → Prop
def liE (t : DE) : TE := fun σ H Q => ∃ ρ μ Q', S σ H ρ μ ∧ t ρ μ Q' ∧ ∀ d v μ' H', S σ H' ρ μ' → Fr μ H μ' H' → Is H' d v → Q' d μ' → Q v H'
def liT (t : DT) : TT := fun σ H Q => ∃ ρ μ Q', S σ H ρ μ ∧ t ρ μ Q' ∧ ∀ b μ' H', S σ H' ρ μ' → Fr μ H μ' H' → Q' b μ' → Q b H'
def liA (t : DA) : TA := fun σ H Q => ∃ ρ μ Q', S σ H ρ μ ∧ t ρ μ Q' ∧ ∀ ds vs μ' H', S σ H' ρ μ' → Fr μ H μ' H' → Iss H' ds vs → Q' ds μ' → Q vs H'
def liR (r : DR2) : R2 := fun x y H Q => ∃ dx dy μ Q', Is H dx x ∧ Is H dy y ∧ Rel μ H ∧ r dx dy μ Q' ∧ ∀ d v μ' H', Rel μ' H' → Fr μ H μ' H' → Is H' d v → Q' d μ' → Q v H'
def liC (r : DRs) : List V → Hp → VK → Prop := fun xs H Q => ∃ ds μ Q', Iss H ds xs ∧ Rel μ H ∧ r ds μ Q' ∧ ∀ d v μ' H', Rel μ' H' → Fr μ H μ' H' → Is H' d v → Q' d μ' → Q v H'
structure Meet (μ : Mu) (H : Hp) (P : DEnds) (E : Ends) : Prop where
  nx : ∀ ρ' μ' σ' H', P.nx ρ' μ' → S σ' H' ρ' μ' → Fr μ H μ' H' → E.nx σ' H'
  rt : ∀ d μ' v H', P.rt d μ' → Rel μ' H' → Is H' d v → Fr μ H μ' H' → E.rt v H'
  bk : ∀ ρ' μ' σ' H', P.bk ρ' μ' → S σ' H' ρ' μ' → Fr μ H μ' H' → E.bk σ' H'
  ct : ∀ ρ' μ' σ' H', P.ct ρ' μ' → S σ' H' ρ' μ' → Fr μ H μ' H' → E.ct σ' H'
theorem Meet.from {μ μ1 : Mu} {H H1 : Hp} {P : DEnds} {E : Ends} (m : Meet μ H P E) (f : Fr μ H μ1 H1) : Meet μ1 H1 P E :=
  ⟨fun _ _ _ _ p s g => m.nx _ _ _ _ p s (f.trans g), fun _ _ _ _ p r i g => m.rt _ _ _ _ p r i (f.trans g), fun _ _ _ _ p s g => m.bk _ _ _ _ p s (f.trans g), fun _ _ _ _ p s g => m.ct _ _ _ _ p s (f.trans g)⟩
def liS (t : DS) : TS := fun E σ H => ∃ ρ μ P, S σ H ρ μ ∧ t P ρ μ ∧ Meet μ H P E
/-- the slots outside I stand as they stood -/
def Out (I : List Nat) (σ σ' : L2.St) : Prop := σ'.length = σ.length ∧ ∀ j, j ∉ I → σ'[j]? = σ[j]?
theorem Out.refl (I : List Nat) (σ : L2.St) : Out I σ σ := ⟨rfl, fun _ _ => rfl⟩
theorem Out.trans {I J : List Nat} {σ σ1 σ2 : L2.St} (a : Out I σ σ1) (b : Out J σ1 σ2) : Out (I ++ J) σ σ2 :=
  ⟨b.1.trans a.1, fun j n => (b.2 j fun m => n (List.mem_append_right _ m)).trans (a.2 j fun m => n (List.mem_append_left _ m))⟩
theorem Out.set (i : Nat) (x : Option V) (σ : L2.St) : Out [i] σ (σ.set i x) := ⟨List.length_set, fun j n => List.getElem?_set_ne fun e => n (by rw [e]; exact List.mem_singleton.mpr rfl)⟩
def liG (I : List Nat) (t : DG) : TG := fun v σ H Q => ∃ d ρ μ Q', S σ H ρ μ ∧ Is H d v ∧ t d ρ μ Q' ∧ ∀ ρ' μ' σ' H', Out I σ σ' → Q' ρ' μ' → S σ' H' ρ' μ' → Fr μ H μ' H' → Q σ' H'
abbrev DGs := List D → DEnv → Mu → (DEnv → Mu → Prop) → Prop
def liGs (I : List Nat) (t : DGs) : TGs := fun vs σ H Q => ∃ ds ρ μ Q', S σ H ρ μ ∧ Iss H ds vs ∧ t ds ρ μ Q' ∧ ∀ ρ' μ' σ' H', Out I σ σ' → Q' ρ' μ' → S σ' H' ρ' μ' → Fr μ H μ' H' → Q σ' H'
abbrev ME (X : Cx) (e : Expr) (t : DE) : Prop := PE X e (liE t)
abbrev MT (X : Cx) (e : Expr) (t : DT) : Prop := PT X e (liT t)
abbrev MW (X : Cx) (e : Expr) (t : DT) : Prop := PW X e (liT t)
abbrev MA (X : Cx) (es : List Expr) (t : DA) : Prop := PA X es (liA t)
abbrev MS (X : Cx) (st : Stmt) (t : DS) : Prop := PS X st (liS t)
abbrev MSs (X : Cx) (sts : List Stmt) (t : DS) : Prop := PSs X sts (liS t)
abbrev MG (X : Cx) (e : Expr) (I : List Nat) (t : DG) : Prop := PG X e (liG I t)
abbrev MGs (X : Cx) (es : List Expr) (I : List Nat) (t : DGs) : Prop := PGs X es (liGs I t)
abbrev MO2 (X : Cx) (f : Value → Value → Sem Value) (r : DR2) : Prop := OpR X f (liR r)
abbrev MC (X : Cx) (f : Value) (r : DRs) : Prop := CallR X f (liC r)
section
variable {X : Cx} {e : Expr} {es : List Expr} {st : Stmt} {sts : List Stmt}
theorem PE.imp {t t' : TE} (h : PE X e t) (i : ∀ σ H Q, t' σ H Q → t σ H Q) : PE X e t' := ⟨fun pins s σ H Q I q => h.run pins s σ H Q I (i σ H Q q)⟩
theorem PT.imp {t t' : TT} (h : PT X e t) (i : ∀ σ H Q, t' σ H Q → t σ H Q) : PT X e t' := ⟨fun pins s σ H Q I q => h.run pins s σ H Q I (i σ H Q q)⟩
theorem PW.imp {t t' : TT} (h : PW X e t) (i : ∀ σ H Q, t' σ H Q → t σ H Q) : PW X e t' := ⟨fun wh pins s σ H Q I q => h.run wh pins s σ H Q I (i σ H Q q)⟩
theorem PA.imp {t t' : TA} (h : PA X es t) (i : ∀ σ H Q, t' σ H Q → t σ H Q) : PA X es t' := ⟨fun pos pins s σ H Q I q => h.run pos pins s σ H Q I (i σ H Q q)⟩
theorem PS.imp {t t' : TS} (h : PS X st t) (i : ∀ E σ H, t' E σ H → t E σ H) : PS X st t' := ⟨fun pins s σ H E I q => h.run pins s σ H E I (i E σ H q)⟩
theorem PSs.imp {t t' : TS} (h : PSs X sts t) (i : ∀ E σ H, t' E σ H → t E σ H) : PSs X sts t' := ⟨fun pins s σ H E I q => h.run pins s σ H E I (i E σ H q)⟩
theorem PG.imp {t t' : TG} (h : PG X e t) (i : ∀ v σ H Q, t' v σ H Q → t v σ H Q) : PG X e t' := ⟨fun pins s σ H v u Q I r q => h.run pins s σ H v u Q I r (i v σ H Q q)⟩
theorem PGs.imp {t t' : TGs} (h : PGs X es t) (i : ∀ v σ H Q, t' v σ H Q → t v σ H Q) : PGs X es t' := ⟨fun pins s σ H v u Q I r q => h.run pins s σ H v u Q I r (i v σ H Q q)⟩
theorem OpR.imp {f : Value → Value → Sem Value} {r r' : R2} (h : OpR X f r) (i : ∀ x y H Q, r' x y H Q → r x y H Q) : OpR X f r' := fun pins s σ H x y v u Q I rx ry q => h pins s σ H x y v u Q I rx ry (i x y H Q q)
theorem CallR.imp {f : Value} {r r' : List V → Hp → VK → Prop} (h : CallR X f r) (i : ∀ xs H Q, r' xs H Q → r xs H Q) : CallR X f r' := fun pins s σ H xs us Q I r q => h pins s σ H xs us Q I r (i xs H Q q)
end
end Dl

/-! ## DB -/
/-! Rules for expressions and tests. -/
namespace Dl
open PySem PySem.Spec PyProof.Rows L2
theorem sl1000 {n : Nat} (h : n ≤ 1000) : n ≤ sizeLine := Nat.le_of_lt (small1000 h)
section
variable {X : Cx} {a b c e : Expr} {es rest : List Expr} {pos : Pos} {ta tb tc : DE}

/-! ### names and constants -/
def aVar (i : Nat) : DE := fun ρ μ Q => ∃ d, ρ[i]? = some (some d) ∧ Q d μ
def aC (d : D) : DE := fun _ μ Q => Q d μ
theorem me_var (i : Nat) {x : Str} (hN : X.N[i]? = some x := by rfl) (hv : Vis X.env.scope x := by first | exact Or.inl rfl | exact Or.inr (Or.inl rfl) | exact Or.inr (Or.inr rfl)) (hd : (x == ("__debug__" : Str)) = false := by decide)
    (hcd : (x == ("__classdict__" : Str)) = false := by decide) : ME X (.Name x pos) (aVar i) :=
  PE.imp (pe_var hN hv hd hcd) fun σ H Q ⟨ρ, μ, Q', s, ⟨d, e, q⟩, k⟩ => by
    obtain ⟨v, h1, h2⟩ := s.sl i d e
    exact ⟨v, h1, k d v μ H s Fr.refl h2 q⟩
theorem me_c {d : D} {v : V} (h : PE X e (tC v)) (hv : ∀ H, Is H d v) : ME X e (aC d) :=
  PE.imp h fun σ H Q ⟨ρ, μ, Q', s, q, k⟩ => k d v μ H s Fr.refl (hv H) q
theorem me_int {i j} : ME X (.Constant (.int i) j pos) (aC (.int i)) := me_c pe_int fun _ => is_int.mpr rfl
theorem me_bl {i j} : ME X (.Constant (.bool i) j pos) (aC (.bl i)) := me_c pe_bl fun _ => is_bl.mpr rfl
theorem me_non {j} : ME X (.Constant .none j pos) (aC .non) := me_c pe_non fun _ => is_non.mpr rfl
theorem me_str {i j} : ME X (.Constant (.str i) j pos) (aC (.str i)) := me_c pe_str fun _ => is_str.mpr rfl
theorem me_gint {x : Str} {i : Int} (hm : ∃ t, X.mg x = some (.int i t)) (hg : Gl X x := by rfl) (hd : (x == ("__debug__" : Str)) = false := by decide) : ME X (.Name x pos) (aC (.int i)) := by
  obtain ⟨t, hm⟩ := hm
  exact me_c (pe_glob hg hm (v := .int i) ⟨t, rfl⟩ hd) fun _ => is_int.mpr rfl
theorem me_gstr {x : Str} {i : Str} (hm : ∃ t, X.mg x = some (.str i t)) (hg : Gl X x := by rfl) (hd : (x == ("__debug__" : Str)) = false := by decide) : ME X (.Name x pos) (aC (.str i)) := by
  obtain ⟨t, hm⟩ := hm
  exact me_c (pe_glob hg hm (v := .str i) ⟨t, rfl⟩ hd) fun _ => is_str.mpr rfl

/-! ### two places -/
def aOp (r : DR2) (ta tb : DE) : DE := fun ρ μ Q => ta ρ μ fun x μ1 => tb ρ μ1 fun y μ2 => r x y μ2 Q
theorem li_op {r : DR2} {σ : L2.St} {H : Hp} {Q : VK} (h : liE (aOp r ta tb) σ H Q) : tOp (liR r) (liE ta) (liE tb) σ H Q := by
  obtain ⟨ρ, μ, Q', s, q, k⟩ := h
  refine ⟨ρ, μ, _, s, q, fun d v μ1 H1 s1 f1 i1 q1 => ⟨ρ, μ1, _, s1, q1, fun d2 v2 μ2 H2 s2 f2 i2 q2 => ⟨d, d2, μ2, Q', i1.mono f2.tk, i2, s2.re, q2, fun d3 v3 μ3 H3 R3 f3 i3 q3 => ?_⟩⟩⟩
  exact k d3 v3 μ3 H3 (s2.mono f3.tk R3) ((f1.trans f2).trans f3) i3 q3
theorem me_op {op : Operator} {r : DR2} (ho : MO2 X (binaryOp op) r) (ha : ME X a ta) (hb : ME X b tb) : ME X (.BinOp a op b pos) (aOp r ta tb) := PE.imp (pe_op ho ha hb) fun _ _ _ h => li_op h
theorem me_cmp {op : CmpOp} {r : DR2} (ho : MO2 X (compareOp op) r) (ha : ME X a ta) (hb : ME X b tb) (hm : behindInMarks op b = false) : ME X (.Compare a [op] [b] pos) (aOp r ta tb) := PE.imp (pe_cmpR ho ha hb hm) fun _ _ _ h => li_op h
def aTest (t : DE) : DT := fun ρ μ Q => t ρ μ fun x μ1 => ∃ k, x = .bl k ∧ Q k μ1
theorem mt_cmp {op : CmpOp} {r : DR2} (ho : MO2 X (compareOp op) r) (ha : ME X a ta) (hb : ME X b tb) (hm : behindInMarks op b = false) : MT X (.Compare a [op] [b] pos) (aTest (aOp r ta tb)) :=
  PT.imp (pt_cmpR ho ha hb hm) fun σ H Q h => by
    obtain ⟨ρ, μ, Q', s, q, k⟩ := h
    refine li_op (r := r) (ta := ta) (tb := tb) ⟨ρ, μ, _, s, q, fun d v μ' H' s' f' i' q' => ?_⟩
    obtain ⟨c, rfl, q'⟩ := q'
    exact ⟨c, is_bl.mp i', k c μ' H' s' f' q'⟩
/-- an expression whose value is a truth value, as a test -/
theorem mt_val (h : ME X e ta) (he : ∀ whole, isTrue e X.env whole = (do let v ← whole; standAt e.pos; holding [v] (truthy v)) := by intro _; rfl) : MT X e (aTest ta) :=
  PT.imp (pt_val h he) fun σ H Q h => by
    obtain ⟨ρ, μ, Q', s, q, k⟩ := h
    refine ⟨ρ, μ, _, s, q, fun d v μ' H' s' f' i' q' => ?_⟩
    obtain ⟨c, rfl, q'⟩ := q'
    exact ⟨c, is_bl.mp i', k c μ' H' s' f' q'⟩
/-- a op1 b op2 c -/
def aChain (r r' : DR2) (ta tb tc : DE) : DE := fun ρ μ Q => ta ρ μ fun x μ1 => tb ρ μ1 fun y μ2 => r x y μ2 fun z μ3 => ∃ k, z = .bl k ∧ (if k = true then tc ρ μ3 fun w μ4 => r' y w μ4 Q else Q (.bl false) μ3)
theorem me_chain {op op' : CmpOp} {r r' : DR2} (ho : MO2 X (compareOp op) r) (ho' : MO2 X (compareOp op') r') (ha : ME X a ta) (hb : ME X b tb) (hc : ME X c tc) (hm : lastMarks [op, op'] [b, c] = false) : ME X (.Compare a [op, op'] [b, c] pos) (aChain r r' ta tb tc) :=
  PE.imp (pe_chain ho ho' ha hb hc hm) fun σ H Q h => by
    obtain ⟨ρ, μ, Q', s, q, k⟩ := h
    refine ⟨ρ, μ, _, s, q, fun d v μ1 H1 s1 f1 i1 q1 => ⟨ρ, μ1, _, s1, q1, fun d2 v2 μ2 H2 s2 f2 i2 q2 => ⟨d, d2, μ2, _, i1.mono f2.tk, i2, s2.re, q2, fun d3 v3 μ3 H3 R3 f3 i3 q3 => ?_⟩⟩⟩
    obtain ⟨kk, rfl, q3⟩ := q3
    refine ⟨kk, is_bl.mp i3, ?_⟩
    have s3 := s2.mono f3.tk R3
    cases kk with
    | true =>
      refine ⟨ρ, μ3, _, s3, q3, fun d4 v4 μ4 H4 s4 f4 i4 q4 => ⟨d2, d4, μ4, Q', (i2.mono f3.tk).mono f4.tk, i4, s4.re, q4, fun d5 v5 μ5 H5 R5 f5 i5 q5 => ?_⟩⟩
      exact k d5 v5 μ5 H5 (s4.mono f5.tk R5) ((((f1.trans f2).trans f3).trans f4).trans f5) i5 q5
    | false => exact k _ _ μ3 H3 s3 ((f1.trans f2).trans f3) (is_bl.mpr rfl) q3

/-! ### and, or, not -/
variable {tA tB' : DT}
def aAnd (t u : DT) : DT := fun ρ μ Q => t ρ μ fun c μ1 => if c = true then u ρ μ1 Q else Q false μ1
def aOr (t u : DT) : DT := fun ρ μ Q => t ρ μ fun c μ1 => if c = true then Q true μ1 else u ρ μ1 Q
def aNot (t : DT) : DT := fun ρ μ Q => t ρ μ fun c μ1 => Q (!c) μ1
theorem mw_and1 (ha : MT X a tA) : MW X (.BoolOp .And [a] pos) tA := pw_and1 ha
theorem mw_or1 (ha : MT X a tA) : MW X (.BoolOp .Or [a] pos) tA := pw_or1 ha
theorem mw_and (ha : MT X a tA) (hb : MW X (.BoolOp .And (b :: rest) pos) tB') : MW X (.BoolOp .And (a :: b :: rest) pos) (aAnd tA tB') :=
  PW.imp (pw_and ha hb) fun σ H Q h => by
    obtain ⟨ρ, μ, Q', s, q, k⟩ := h
    refine ⟨ρ, μ, _, s, q, fun c μ1 H1 s1 f1 q1 => ?_⟩
    cases c with
    | true => exact ⟨ρ, μ1, Q', s1, q1, fun d μ' H' s' f' q' => k d μ' H' s' (f1.trans f') q'⟩
    | false => exact k _ _ _ s1 f1 q1
theorem mw_or (ha : MT X a tA) (hb : MW X (.BoolOp .Or (b :: rest) pos) tB') : MW X (.BoolOp .Or (a :: b :: rest) pos) (aOr tA tB') :=
  PW.imp (pw_or ha hb) fun σ H Q h => by
    obtain ⟨ρ, μ, Q', s, q, k⟩ := h
    refine ⟨ρ, μ, _, s, q, fun c μ1 H1 s1 f1 q1 => ?_⟩
    cases c with
    | false => exact ⟨ρ, μ1, Q', s1, q1, fun d μ' H' s' f' q' => k d μ' H' s' (f1.trans f') q'⟩
    | true => exact k _ _ _ s1 f1 q1
theorem mt_w {t : DT} (h : MW X e t) : MT X e t := PW.pt h
theorem mt_not (ha : MT X a tA) : MT X (.UnaryOp .Not a pos) (aNot tA) :=
  PT.imp (pt_not ha) fun σ H Q h => by
    obtain ⟨ρ, μ, Q', s, q, k⟩ := h
    exact ⟨ρ, μ, _, s, q, fun c μ1 H1 s1 f1 q1 => k _ _ _ s1 f1 q1⟩
def aAndV (ta tb : DE) : DE := fun ρ μ Q => ta ρ μ fun x μ1 => ∃ c, x = .bl c ∧ if c = true then tb ρ μ1 Q else Q (.bl false) μ1
def aOrV (ta tb : DE) : DE := fun ρ μ Q => ta ρ μ fun x μ1 => ∃ c, x = .bl c ∧ if c = true then Q (.bl true) μ1 else tb ρ μ1 Q
def aNotV (ta : DE) : DE := fun ρ μ Q => ta ρ μ fun x μ1 => ∃ c, x = .bl c ∧ Q (.bl (!c)) μ1
theorem me_one {op} {t : DE} (h : ME X a t) : ME X (.BoolOp op [a] pos) t := pe_one h
theorem me_and (ha : ME X a ta) (hb : ME X (.BoolOp .And (b :: rest) pos) tb) : ME X (.BoolOp .And (a :: b :: rest) pos) (aAndV ta tb) :=
  PE.imp (pe_and ha hb) fun σ H Q h => by
    obtain ⟨ρ, μ, Q', s, q, k⟩ := h
    refine ⟨ρ, μ, _, s, q, fun d v μ1 H1 s1 f1 i1 q1 => ?_⟩
    obtain ⟨c, rfl, q1⟩ := q1
    refine ⟨c, is_bl.mp i1, ?_⟩
    cases c with
    | true => exact ⟨ρ, μ1, Q', s1, q1, fun d v μ' H' s' f' i' q' => k d v μ' H' s' (f1.trans f') i' q'⟩
    | false => exact k _ _ _ _ s1 f1 (is_bl.mpr rfl) q1
theorem me_or (ha : ME X a ta) (hb : ME X (.BoolOp .Or (b :: rest) pos) tb) : ME X (.BoolOp .Or (a :: b :: rest) pos) (aOrV ta tb) :=
  PE.imp (pe_or ha hb) fun σ H Q h => by
    obtain ⟨ρ, μ, Q', s, q, k⟩ := h
    refine ⟨ρ, μ, _, s, q, fun d v μ1 H1 s1 f1 i1 q1 => ?_⟩
    obtain ⟨c, rfl, q1⟩ := q1
    refine ⟨c, is_bl.mp i1, ?_⟩
    cases c with
    | false => exact ⟨ρ, μ1, Q', s1, q1, fun d v μ' H' s' f' i' q' => k d v μ' H' s' (f1.trans f') i' q'⟩
    | true => exact k _ _ _ _ s1 f1 (is_bl.mpr rfl) q1
theorem me_not (ha : ME X a ta) : ME X (.UnaryOp .Not a pos) (aNotV ta) :=
  PE.imp (pe_not ha) fun σ H Q h => by
    obtain ⟨ρ, μ, Q', s, q, k⟩ := h
    refine ⟨ρ, μ, _, s, q, fun d v μ1 H1 s1 f1 i1 q1 => ?_⟩
    obtain ⟨c, rfl, q1⟩ := q1
    exact ⟨c, is_bl.mp i1, k _ _ _ _ s1 f1 (is_bl.mpr rfl) q1⟩
def aNeg (ta : DE) : DE := fun ρ μ Q => ta ρ μ fun x μ1 => ∃ i, x = .int i ∧ Q (.int (-i)) μ1
theorem me_neg (ha : ME X a ta) : ME X (.UnaryOp .USub a pos) (aNeg ta) :=
  PE.imp (pe_un un_neg ha) fun σ H Q h => by
    obtain ⟨ρ, μ, Q', s, q, k⟩ := h
    refine ⟨ρ, μ, _, s, q, fun d v μ1 H1 s1 f1 i1 q1 => ?_⟩
    obtain ⟨c, rfl, q1⟩ := q1
    exact ⟨c, is_int.mp i1, k _ _ _ _ s1 f1 (is_int.mpr rfl) q1⟩

/-! ### argument lists, tuples -/
def liAn (n : Nat) (t : DA) : TA := fun σ H Q => ∃ ρ μ Q', S σ H ρ μ ∧ t ρ μ Q' ∧ ∀ ds vs μ' H', ds.length = n → S σ H' ρ μ' → Fr μ H μ' H' → Iss H' ds vs → Q' ds μ' → Q vs H'
abbrev MAn (X : Cx) (n : Nat) (es : List Expr) (t : DA) : Prop := PA X es (liAn n t)
def aNil : DA := fun _ μ Q => Q [] μ
def aCons (ta : DE) (tr : DA) : DA := fun ρ μ Q => ta ρ μ fun x μ1 => tr ρ μ1 fun xs μ2 => Q (x :: xs) μ2
theorem ma_nil : MAn X 0 [] aNil := PA.imp pa_nil fun σ H Q ⟨ρ, μ, Q', s, q, k⟩ => k [] [] μ H rfl s Fr.refl (iss_nil.mpr rfl) q
theorem ma_cons {tr : DA} {n : Nat} (ha : ME X e ta) (hr : MAn X n es tr) (hs : starEach (e :: es) X.env = (false, eval e X.env) :: starEach es X.env := by rfl) : MAn X (n + 1) (e :: es) (aCons ta tr) :=
  PA.imp (pa_cons ha hr hs) fun σ H Q h => by
    obtain ⟨ρ, μ, Q', s, q, k⟩ := h
    refine ⟨ρ, μ, _, s, q, fun d v μ1 H1 s1 f1 i1 q1 => ⟨ρ, μ1, _, s1, q1, fun ds vs μ2 H2 hl s2 f2 i2 q2 => ?_⟩⟩
    exact k (d :: ds) (v :: vs) μ2 H2 (by rw [List.length_cons, hl]) s2 (f1.trans f2) (iss_cons.mpr ⟨v, vs, rfl, i1.mono f2.tk, i2⟩) q2
def aTup (t : DA) : DE := fun ρ μ Q => t ρ μ fun ds μ1 => Q (.tup ds) μ1
theorem me_tup {t : DA} {n k1 : Nat} (h : MAn X n es t) (hn : n ≤ 1000 := by decide) : ME X (.Tuple es k1 pos) (aTup t) :=
  PE.imp (pe_tup h) fun σ H Q h => by
    obtain ⟨ρ, μ, Q', s, q, k⟩ := h
    refine ⟨ρ, μ, _, s, q, fun ds vs μ1 H1 hl s1 f1 i1 q1 => ⟨by rw [← i1.len, hl]; exact sl1000 hn, fun p hp => ?_⟩⟩
    exact k (.tup ds) _ μ1 _ (s1.mono (Tk.new hp) (s1.re.new hp)) (f1.trans (Fr.newT hp)) (is_tup.mpr ⟨p, vs, rfl, upd_same, i1.mono (Tk.new hp)⟩) q1

/-! ### new lists -/
def liL (t : DA) : TE := fun σ H Q => ∃ ρ μ Q', S σ H ρ μ ∧ t ρ μ Q' ∧ ∀ ds p xs μ' H', S σ H' ρ μ' → Fr μ H μ' H' → μ' p = none → H p = none → H' p = some (.lst xs) → Iss H' ds xs → Q' ds μ' → Q (.ref p) H'
abbrev ML (X : Cx) (e : Expr) (t : DA) : Prop := PE X e (liL t)
def aNew (t : DA) : DE := fun ρ μ Q => t ρ μ fun ds μ1 => ∀ p, μ1 p = none → Q (.ref p) (updM μ1 p (.lst ds))
/-- a list that the store does not know, told to it -/
theorem tell_new {μ : Mu} {H : Hp} {p : Addr} {xs : List V} {ds : List D} (R : Rel μ H) (h : μ p = none) (hp : H p = some (.lst xs)) (i : Iss H ds xs) : Rel (updM μ p (.lst ds)) H := fun a c e => by
  by_cases ha : a = p
  · subst ha
    rw [updM_same] at e
    cases e
    exact ⟨xs, hp, i⟩
  · rw [updM_ne ha] at e
    exact R a c e
theorem Fr.tell {μ0 μ : Mu} {H0 H : Hp} {p : Addr} {c : C} (f : Fr μ0 H0 μ H) (h : H0 p = none) : Fr μ0 H0 (updM μ p c) H := ⟨f.keep, fun a e => (by
  by_cases ha : a = p
  · subst ha; exact .inr h
  · rw [updM_ne ha] at e; exact f.new a e), f.tk, f.old⟩
theorem S.tell {σ : L2.St} {μ : Mu} {H : Hp} {ρ : DEnv} {p : Addr} {xs : List V} {ds : List D} (s : S σ H ρ μ) (h : μ p = none) (hp : H p = some (.lst xs)) (i : Iss H ds xs) : S σ H ρ (updM μ p (.lst ds)) := ⟨s.sl, s.ln, tell_new s.re h hp i⟩
theorem me_new {t : DA} (h : ML X e t) : ME X e (aNew t) :=
  PE.imp h fun σ H Q h => by
    obtain ⟨ρ, μ, Q', s, q, k⟩ := h
    refine ⟨ρ, μ, _, s, q, fun ds p xs μ' H' s' f' hn hp0 hp i q' => ?_⟩
    exact k (.ref p) _ _ H' (s'.tell hn hp i) (f'.tell hp0) (is_ref.mpr rfl) (q' p hn)
/-- [a, b, ..] -/
theorem ml_lst {t : DA} {n : Nat} (h : MAn X n es t) (hn : n ≤ 1000 := by decide) : ML X (.List es pos) t :=
  PE.imp (pe_lst h) fun σ H Q h => by
    obtain ⟨ρ, μ, Q', s, q, k⟩ := h
    refine ⟨ρ, μ, Q', s, q, fun ds vs μ1 H1 hl s1 f1 i1 q1 => ⟨by rw [← i1.len, hl]; exact sl1000 hn, fun p hp => ?_⟩⟩
    exact k ds p vs μ1 _ (s1.mono (Tk.new hp) (s1.re.new hp)) (f1.trans (Fr.newT hp)) (s1.re.none_of hp) (f1.old p hp) upd_same (i1.mono (Tk.new hp)) q1
end
end Dl

/-! ## DC -/
/-! Statements, targets, loops, comprehensions, calls. -/
namespace Dl
open PySem PySem.Spec PyProof.Rows L2
section
variable {X : Cx} {e tg iter : Expr} {es : List Expr} {st : Stmt} {sts body : List Stmt} {pos : Pos} {ta : DE} {t u tb : DS}

/-! ### blocks -/
def aNext : DS := fun P ρ μ => P.nx ρ μ
def aSeq (t u : DS) : DS := fun P ρ μ => t { P with nx := u P } ρ μ
def aNever : DS := fun _ _ _ => False
def aDrop (t : DE) : DS := fun P ρ μ => t ρ μ fun _ μ1 => P.nx ρ μ1
def aRet (t : DE) : DS := fun P ρ μ => t ρ μ P.rt
def aIfS (c : DT) (t u : DS) : DS := fun P ρ μ => c ρ μ fun b μ1 => if b = true then t P ρ μ1 else u P ρ μ1
theorem mss_nil : MSs X [] aNext := PSs.imp pss_nil fun E σ H ⟨ρ, μ, P, s, q, m⟩ => m.nx _ _ _ _ q s Fr.refl
theorem li_seq {E : Ends} {σ : L2.St} {H : Hp} (h : liS (aSeq t u) E σ H) : tSeq (liS t) (liS u) E σ H := by
  obtain ⟨ρ, μ, P, s, q, m⟩ := h
  exact ⟨ρ, μ, _, s, q, ⟨fun ρ' μ' σ' H' p s' f' => ⟨ρ', μ', P, s', p, m.from f'⟩, m.rt, m.bk, m.ct⟩⟩
theorem mss_cons (h1 : MS X st t) (h2 : MSs X sts u) : MSs X (st :: sts) (aSeq t u) := PSs.imp (pss_cons h1 h2) fun _ _ _ h => li_seq h
theorem mss_one (h1 : MS X st t) : MSs X [st] t := pss_one h1
theorem ms_pass : MS X (.Pass pos) aNext := PS.imp ps_pass fun E σ H ⟨ρ, μ, P, s, q, m⟩ => m.nx _ _ _ _ q s Fr.refl
theorem ms_never : MS X st aNever := PS.imp ps_never fun E σ H ⟨ρ, μ, P, s, q, m⟩ => q
theorem mss_never : MSs X sts aNever := PSs.imp pss_never fun E σ H ⟨ρ, μ, P, s, q, m⟩ => q
theorem ms_expr (he : ME X e ta) (hs : swapsWith e none pos.line X.env = pure false := by rfl) : MS X (.Expr e pos) (aDrop ta) :=
  PS.imp (ps_expr he hs) fun E σ H ⟨ρ, μ, P, s, q, m⟩ => ⟨ρ, μ, _, s, q, fun d v μ1 H1 s1 f1 _ q1 => m.nx _ _ _ _ q1 s1 f1⟩
theorem ms_ret (he : ME X e ta) : MS X (.Return (some e) pos) (aRet ta) :=
  PS.imp (ps_ret he) fun E σ H ⟨ρ, μ, P, s, q, m⟩ => ⟨ρ, μ, _, s, q, fun d v μ1 H1 s1 f1 i1 q1 => m.rt _ _ _ _ q1 s1.re i1 f1⟩
theorem ms_if {c : Expr} {a b : List Stmt} {tc : DT} (hc : MT X c tc) (ha : MSs X a t) (hb : MSs X b u) : MS X (.If c a b pos) (aIfS tc t u) :=
  PS.imp (ps_if hc ha hb) fun E σ H ⟨ρ, μ, P, s, q, m⟩ => ⟨ρ, μ, _, s, q, fun b μ1 H1 s1 f1 q1 => by
    cases b with
    | true => exact ⟨ρ, μ1, P, s1, q1, m.from f1⟩
    | false => exact ⟨ρ, μ1, P, s1, q1, m.from f1⟩⟩
theorem MSs.nox (h : MSs X.nox sts t) : MSs X sts t := PSs.nox h

/-! ### targets -/
def aName (i : Nat) : DG := fun d ρ μ Q => Q (ρ.set i (some d)) μ
theorem mg_name {i : Nat} {x : Str} (hN : X.N.Nodup) (hi : X.N[i]? = some x) (hx : Loc X.env.scope x) (hf : X.fn x = true ∨ X.env.scope.names.lookup x = some .local := by first | exact .inl rfl | exact .inr rfl | assumption) : MG X (.Name x pos) [i] (aName i) :=
  PG.imp (pg_name hN hi hx hf) fun v σ H Q ⟨d, ρ, μ, Q', s, iv, q, k⟩ => k _ μ _ H (Out.set _ _ _) q (s.set iv) Fr.refl
def gNilD : DGs := fun ds ρ μ Q => ds = [] ∧ Q ρ μ
def gConsD (t : DG) (u : DGs) : DGs := fun ds ρ μ Q => ∃ d r, ds = d :: r ∧ t d ρ μ fun ρ' μ' => u r ρ' μ' Q
theorem mgs_nil : MGs X [] [] gNilD := PGs.imp pgs_nil fun vs σ H Q ⟨ds, ρ, μ, Q', s, iv, ⟨e, q⟩, k⟩ => by
  subst e
  exact ⟨iss_nil.mp iv, k _ _ _ _ (Out.refl _ _) q s Fr.refl⟩
theorem mgs_cons {g : DG} {gs : DGs} {I J : List Nat} (h1 : MG X e I g) (h2 : MGs X es J gs) (hs : (assignEach (e :: es) X.env).map (·.2) = assign e X.env :: (assignEach es X.env).map (·.2) := by rfl) : MGs X (e :: es) (I ++ J) (gConsD g gs) :=
  PGs.imp (pgs_cons h1 h2 hs) fun vs σ H Q ⟨ds, ρ, μ, Q', s, iv, ⟨d, r, ed, q⟩, k⟩ => by
    subst ed
    obtain ⟨v, r2, rfl, i1, i2⟩ := iss_cons.mp iv
    exact ⟨v, r2, rfl, d, ρ, μ, _, s, i1, q, fun ρ1 μ1 σ1 H1 o1 q1 s1 f1 => ⟨r, ρ1, μ1, _, s1, i2.mono f1.tk, q1, fun ρ2 μ2 σ2 H2 o2 q2 s2 f2 => k ρ2 μ2 σ2 H2 (o1.trans o2) q2 s2 (f1.trans f2)⟩⟩
def seqD : D → Option (List D)
  | .tup ds => some ds
  | .ftup ds => some ds
  | _ => none
theorem seqD_is {K : PySem.W.Frag} {H : Hp} {d : D} {ds : List D} {v : V} (h : seqD d = some ds) (i : Is H d v) : ∃ a vs, v = .ref a ∧ SqT K H a vs ∧ Iss H ds vs := by
  cases d with
  | tup es =>
    cases h
    obtain ⟨a, vs, e, ha, hs⟩ := is_tup.mp i
    exact ⟨a, vs, e, SqT.of ha, hs⟩
  | ftup es =>
    cases h
    obtain ⟨a, o, vs, e, ha, _, hs⟩ := is_ftup.mp i
    exact ⟨a, vs, e, .inl (.inr ⟨o, ha⟩), hs⟩
  | _ => cases h
def aTupG (n : Nat) (t : DGs) : DG := fun d ρ μ Q => ∃ ds, seqD d = some ds ∧ ds.length = n ∧ t ds ρ μ Q
theorem mg_tup {k n : Nat} {gs : DGs} {I : List Nat} (hc : X.calm = true) (h : MGs X es I gs) (hn : (assignEach es X.env).length = n := by rfl) (hst : (assignEach es X.env).findIdx? (·.1) = none := by rfl) : MG X (.Tuple es k pos) I (aTupG n gs) :=
  PG.imp (pg_tup hc h hn hst) fun v σ H Q ⟨d, ρ, μ, Q', s, iv, ⟨ds, e1, e2, q⟩, kk⟩ => by
    obtain ⟨a, vs, rfl, ha, hs⟩ := seqD_is (K := X.K) e1 iv
    exact ⟨a, vs, rfl, ha, by rw [← hs.len]; exact e2, ds, ρ, μ, Q', s, hs, q, kk⟩
/-- o[i] = v, by values -/
abbrev DSet := D → D → D → Mu → (Mu → Prop) → Prop
def liSet (t : DSet) : TSet := fun o i v H Q => ∃ do_ di dv μ Q', Is H do_ o ∧ Is H di i ∧ Is H dv v ∧ Rel μ H ∧ t do_ di dv μ Q' ∧ ∀ μ' H', Rel μ' H' → Fr μ H μ' H' → Q' μ' → Q H'
def aSubG (to ti : DE) (t : DSet) : DG := fun d ρ μ Q => to ρ μ fun o μ1 => ti ρ μ1 fun i μ2 => t o i d μ2 fun μ3 => Q ρ μ3
theorem mg_sub {o i : Expr} {to ti : DE} {t : DSet} (ho : ME X o to) (hi : ME X i ti) (hs : PSet X (liSet t))
    (ha : ∀ v, assign (.Subscript o i pos) X.env v = (do
      let ov ← holding [v] (eval o X.env)
      let iv ← holding [v, ov] (eval i X.env)
      standAt pos
      holding [v, ov, iv] (setItem ov iv v)
      release [v, ov, iv] []) := by intro _; rfl) : MG X (.Subscript o i pos) [] (aSubG to ti t) :=
  PG.imp (pg_sub ho hi hs ha) fun v σ H Q ⟨d, ρ, μ, Q', s, iv, q, k⟩ => ⟨ρ, μ, _, s, q, fun d1 v1 μ1 H1 s1 f1 i1 q1 => ⟨ρ, μ1, _, s1, q1, fun d2 v2 μ2 H2 s2 f2 i2 q2 =>
    ⟨d1, d2, d, μ2, _, i1.mono f2.tk, i2, (iv.mono f1.tk).mono f2.tk, s2.re, q2, fun μ3 H3 R3 f3 q3 => k ρ μ3 σ H3 (Out.refl _ _) q3 (s2.mono f3.tk R3) ((f1.trans f2).trans f3)⟩⟩⟩
def aAsg (ta : DE) (g : DG) : DS := fun P ρ μ => ta ρ μ fun d μ1 => g d ρ μ1 P.nx
theorem li_asg {g : DG} {I : List Nat} {E : Ends} {σ : L2.St} {H : Hp} (h : liS (aAsg ta g) E σ H) : tAsg (liE ta) (liG I g) E σ H := by
  obtain ⟨ρ, μ, P, s, q, m⟩ := h
  exact ⟨ρ, μ, _, s, q, fun d v μ1 H1 s1 f1 i1 q1 => ⟨d, ρ, μ1, _, s1, i1, q1, fun ρ2 μ2 σ2 H2 _ q2 s2 f2 => m.nx _ _ _ _ q2 s2 (f1.trans f2)⟩⟩
theorem ms_asg {g : DG} {I : List Nat} (he : ME X e ta) (hg : MG X tg I g) (hs : swapsWithSole [tg] e pos.line X.env = pure false := by rfl) (hw : swappedStores [tg] e X.env = pure none := by rfl)
    (h1 : (assignEach [tg] X.env).map (·.2) = [assign tg X.env] := by rfl) : MS X (.Assign [tg] e pos) (aAsg ta g) := PS.imp (ps_asg he hg hs hw h1) fun _ _ _ h => li_asg h
theorem ms_set {i : Nat} {x : Str} {pos' : Pos} (hN : X.N.Nodup) (hi : X.N[i]? = some x) (hx : Loc X.env.scope x) (he : ME X e ta) (hs : swapsWith e (some (.Name x pos')) pos.line X.env = pure false := by rfl) (hf : X.fn x = true ∨ X.env.scope.names.lookup x = some .local := by first | exact .inl rfl | exact .inr rfl | assumption) :
    MS X (.Assign [.Name x pos'] e pos) (aAsg ta (aName i)) :=
  PS.imp (ps_set hN hi hx he hs hf) fun E σ H ⟨ρ, μ, P, s, q, m⟩ => ⟨ρ, μ, _, s, q, fun d v μ1 H1 s1 f1 i1 q1 => m.nx _ _ _ _ q1 (s1.set i1) f1⟩

/-! ### what is walked -/
structure Sq where
  items : List D
  stab : Mu → Prop
def Runs (J : It) (q : Sq) (μ0 : Mu) (H0 : Hp) : Prop := ∀ (i : Nat) (H : Hp) (μ : Mu), Fr μ0 H0 μ H → Rel μ H → q.stab μ →
  (q.items.length ≤ i → J.stop i H) ∧ ∀ d, q.items[i]? = some d → J.go i H ∧ ∀ x H', J.yld i H x H' → Is H' d x ∧ Rel μ H' ∧ Fr μ H μ H'
abbrev DI := DEnv → Mu → (Sq → Mu → Prop) → Prop
def liI (t : DI) : TI := fun σ H R => ∃ ρ μ Q', S σ H ρ μ ∧ t ρ μ Q' ∧ ∀ J q μ' H', S σ H' ρ μ' → Fr μ H μ' H' → Runs J q μ' H' → q.stab μ' → Q' q μ' → R J H'
abbrev MI (X : Cx) (tg e : Expr) (t : DI) : Prop := PI X tg e (liI t)
theorem PI.imp {t t' : TI} (h : PI X tg e t) (i : ∀ σ H R, t' σ H R → t σ H R) : PI X tg e t' := ⟨fun pins s σ H R I q => h.run pins s σ H R I (i σ H R q)⟩
theorem runs_list {K : PySem.W.Frag} {p : Addr} {ds : List D} {μ0 : Mu} {H0 : Hp} : Runs (Itl K p) ⟨ds, fun μ => μ p = some (.lst ds)⟩ μ0 H0 := by
  intro i H μ f R st
  obtain ⟨xs, hp, hs⟩ := R p _ st
  have hl := hs.len
  refine ⟨fun h => ⟨xs, SqL.of hp, by rw [← hl]; exact h⟩, fun d hd => ?_⟩
  obtain ⟨x, hx, ix⟩ := hs.get hd
  refine ⟨⟨xs, x, SqL.of hp, hx⟩, fun y H' yl => ?_⟩
  obtain ⟨rfl, hy⟩ := yl
  have e := hy xs (SqL.of hp)
  rw [hx] at e
  cases e
  exact ⟨ix, R, Fr.refl⟩
theorem runs_new {K : PySem.W.Frag} {p : Addr} {ds : List D} {μ0 : Mu} {H0 : Hp} {xs : List V} (hp0 : H0 p = some (.lst xs)) (hn : μ0 p = none) (hs : Iss H0 ds xs) : Runs (Itl K p) ⟨ds, fun _ => True⟩ μ0 H0 := by
  intro i H μ f R st
  have hp := f.keep p _ hn hp0
  have hl := hs.len
  refine ⟨fun h => ⟨xs, SqL.of hp, by rw [← hl]; exact h⟩, fun d hd => ?_⟩
  obtain ⟨x, hx, ix⟩ := hs.get hd
  refine ⟨⟨xs, x, SqL.of hp, hx⟩, fun y H' yl => ?_⟩
  obtain ⟨rfl, hy⟩ := yl
  have e := hy xs (SqL.of hp)
  rw [hx] at e
  cases e
  exact ⟨ix.mono f.tk, R, Fr.refl⟩
theorem Is.tupK {K : PySem.W.Frag} {H H' : Hp} {d : D} {ds : List D} {a : Addr} (h : seqD d = some ds) (i : Is H d (.ref a)) (t : Tk H H') : ∃ vs, SqT K H' a vs ∧ Iss H' ds vs := by
  obtain ⟨b, vs, e, hb, hs⟩ := seqD_is (K := K) h (i.mono t)
  cases e
  exact ⟨vs, hb, hs⟩
theorem runs_tup {K : PySem.W.Frag} {a : Addr} {d0 : D} {ds : List D} {μ0 : Mu} {H0 : Hp} (h : seqD d0 = some ds) (i0 : Is H0 d0 (.ref a)) : Runs (Itt K a) ⟨ds, fun _ => True⟩ μ0 H0 := by
  intro i H μ f R st
  obtain ⟨xs, hp, hs⟩ := Is.tupK (K := K) h i0 f.tk
  have hl := hs.len
  refine ⟨fun h => ⟨xs, hp, by rw [← hl]; exact h⟩, fun d hd => ?_⟩
  obtain ⟨x, hx, ix⟩ := hs.get hd
  refine ⟨⟨xs, x, hp, hx⟩, fun y H' yl => ?_⟩
  obtain ⟨rfl, hy⟩ := yl
  have e := hy xs hp
  rw [hx] at e
  cases e
  exact ⟨ix, R, Fr.refl⟩
theorem runs_range {lo : Int} {n : Nat} {μ0 : Mu} {H0 : Hp} : Runs (Itr lo n) ⟨(List.range n).map fun i => .int (lo + (i : Nat)), fun _ => True⟩ μ0 H0 := by
  intro i H μ f R st
  refine ⟨fun h => (by
    have h' : n ≤ i := by simpa using h
    exact h'), fun d hd => ?_⟩
  rw [List.getElem?_map] at hd
  obtain ⟨j, hj, rfl⟩ := Option.map_eq_some_iff.mp hd
  obtain ⟨h1, h2⟩ := List.getElem?_eq_some_iff.mp hj
  rw [List.length_range] at h1
  rw [List.getElem_range] at h2
  subst h2
  refine ⟨h1, fun x H' yl => ?_⟩
  obtain ⟨rfl, rfl⟩ := yl
  exact ⟨is_int.mpr rfl, R, Fr.refl⟩
/-- a list of the store, or a tuple -/
def aSeqI (ta : DE) : DI := fun ρ μ Q => ta ρ μ fun d μ1 => match d with
  | .ref p => ∃ ds, μ1 p = some (.lst ds) ∧ Q ⟨ds, fun μ => μ p = some (.lst ds)⟩ μ1
  | d => ∃ ds, seqD d = some ds ∧ Q ⟨ds, fun _ => True⟩ μ1
theorem mi_seq (hl : ME X e ta) : MI X tg e (aSeqI ta) := by
  refine ⟨fun pins s σ H R I h => ?_⟩
  obtain ⟨ρ, μ, Q', st, q, k⟩ := h
  refine thn (hl.run pins s σ H (fun v H1 => ∃ d μ1, S σ H1 ρ μ1 ∧ Fr μ H μ1 H1 ∧ Is H1 d v ∧ (match d with
    | .ref p => ∃ ds, μ1 p = some (.lst ds) ∧ Q' ⟨ds, fun μ => μ p = some (.lst ds)⟩ μ1
    | d => ∃ ds, seqD d = some ds ∧ Q' ⟨ds, fun _ => True⟩ μ1)) I ⟨ρ, μ, _, st, q, fun d v μ1 H1 s1 f1 i1 q1 => ⟨d, μ1, s1, f1, i1, q1⟩⟩) fun v s1 hh => ?_
  obtain ⟨x, H1, I1, r1, d, μ1, S1, f1, i1, q1⟩ := hh
  have tup : ∀ ds, seqD d = some ds → Q' ⟨ds, fun _ => True⟩ μ1 → wpAny (model X.prog X.w) X.A (pyIter v) (PIE X pins σ tg R) X.xe s1 := by
    intro ds e q2
    obtain ⟨a, vs, rfl, ha, hs⟩ := seqD_is (K := X.K) e i1
    cases r1
    obtain ⟨its, rv, p, hz⟩ := I1.tuple ha
    refine wpAny_pyIter_tuple (show s1.heap.IsTuple a its.toArray from p) ?_
    refine ⟨s1.heap.objs.size, [s1.heap.objs.size], _, _, H1, rfl, I1.kept (t' := s1.toks) fun b o e => Heap.get?_push_of_some _ e, turn_tuple a _, ⟨_, Heap.get?_push_size _ rfl, rfl, rfl⟩, fun b hb => ?_, k _ _ μ1 H1 S1 f1 (runs_tup e i1) True.intro q2⟩
    have e : b = s1.heap.objs.size := by simpa using hb
    subst e
    exact I1.fpOk (Nat.le_refl _) (I1.hok.fresh (Nat.le_refl _))
  cases d with
  | ref p =>
    obtain ⟨ds, hm, q2⟩ := q1
    rw [is_ref] at i1
    subst i1
    cases r1
    obtain ⟨xs, hp, hs⟩ := S1.re p _ hm
    obtain ⟨its, rv, pl, hz⟩ := I1.list (SqL.of (K := X.K) hp)
    refine wpAny_pyIter_list pl.isList ?_
    refine ⟨s1.heap.objs.size, [s1.heap.objs.size], _, _, H1, rfl, I1.kept (t' := s1.toks) fun b o e => Heap.get?_push_of_some _ e, turn_list p _, ⟨_, Heap.get?_push_size _ rfl, rfl, rfl⟩, fun b hb => ?_, k _ _ μ1 H1 S1 f1 runs_list hm q2⟩
    have e : b = s1.heap.objs.size := by simpa using hb
    subst e
    exact I1.fpOk (Nat.le_refl _) (I1.hok.fresh (Nat.le_refl _))
  | tup es => obtain ⟨ds, e, q2⟩ := q1; exact tup ds e q2
  | ftup es => obtain ⟨ds, e, q2⟩ := q1; exact tup ds e q2
  | non => obtain ⟨ds, e, q2⟩ := q1; exact tup ds e q2
  | bl _ => obtain ⟨ds, e, q2⟩ := q1; exact tup ds e q2
  | int _ => obtain ⟨ds, e, q2⟩ := q1; exact tup ds e q2
  | str _ => obtain ⟨ds, e, q2⟩ := q1; exact tup ds e q2
/-- a new list that nobody else has -/
def aNewI (t : DA) : DI := fun ρ μ Q => t ρ μ fun ds μ1 => Q ⟨ds, fun _ => True⟩ μ1
theorem mi_new {t : DA} (hl : ML X e t) : MI X tg e (aNewI t) :=
  PI.imp (pi_list hl) fun σ H R ⟨ρ, μ, Q', s, q, k⟩ => ⟨ρ, μ, _, s, q, fun ds p xs μ1 H1 s1 f1 hn _ hp i1 q1 => ⟨p, rfl, ⟨xs, SqL.of hp⟩, k _ _ μ1 H1 s1 f1 (runs_new hp hn i1) True.intro q1⟩⟩
def rgD (lo : Int) (n : Nat) : List D := (List.range n).map fun i => .int (lo + (i : Nat))
def aRng1 (t : DA) : DI := fun ρ μ Q => t ρ μ fun ds μ1 => ∃ j : Int, ds = [.int j] ∧ (-(2 ^ 62) ≤ j ∧ j < 2 ^ 62) ∧ Q ⟨rgD 0 j.toNat, fun _ => True⟩ μ1
def aRng2 (t : DA) : DI := fun ρ μ Q => t ρ μ fun ds μ1 => ∃ i j : Int, ds = [.int i, .int j] ∧ (-(2 ^ 62) ≤ i ∧ i < 2 ^ 62 ∧ -(2 ^ 62) ≤ j ∧ j < 2 ^ 62) ∧ Q ⟨rgD i (j - i).toNat, fun _ => True⟩ μ1
theorem mi_range1 {a : Expr} {t : DA} {p : Pos} (hm : X.mg "range" = none) (ha : MAn X 1 [a] t) (hg : Gl X "range" := by rfl) (hs : starEach [a] X.env = [(false, eval a X.env)] := by rfl) : MI X tg (.Call (.Name "range" p) [a] [] pos) (aRng1 t) :=
  PI.imp (pi_range1 hg hm ha hs) fun σ H R ⟨ρ, μ, Q', s, q, k⟩ => ⟨ρ, μ, _, s, q, fun ds vs μ1 H1 _ s1 f1 i1 ⟨j, e, ⟨b1, b2⟩, q1⟩ => by
    subst e
    obtain ⟨v, r, rfl, iv, ir⟩ := iss_cons.mp i1
    rw [is_int] at iv
    rw [iss_nil] at ir
    subst iv ir
    exact ⟨j, rfl, b1, b2, k _ _ μ1 H1 s1 f1 runs_range True.intro q1⟩⟩
theorem mi_range2 {a b : Expr} {t : DA} {p : Pos} (hm : X.mg "range" = none) (ha : MAn X 2 [a, b] t) (hg : Gl X "range" := by rfl) (hs : starEach [a, b] X.env = [(false, eval a X.env), (false, eval b X.env)] := by rfl) (hs2 : starEach [b] X.env = [(false, eval b X.env)] := by rfl) : MI X tg (.Call (.Name "range" p) [a, b] [] pos) (aRng2 t) :=
  PI.imp (pi_range2 hg hm ha hs hs2) fun σ H R ⟨ρ, μ, Q', s, q, k⟩ => ⟨ρ, μ, _, s, q, fun ds vs μ1 H1 _ s1 f1 i1 ⟨i, j, e, b, q1⟩ => by
    subst e
    obtain ⟨v, r, rfl, iv, ir⟩ := iss_cons.mp i1
    obtain ⟨v2, r2, rfl, iv2, ir2⟩ := iss_cons.mp ir
    rw [is_int] at iv iv2
    rw [iss_nil] at ir2
    subst iv iv2 ir2
    exact ⟨i, j, rfl, b, k _ _ μ1 H1 s1 f1 runs_range True.intro q1⟩⟩

/-! ### for -/
def loopD (stab : Mu → Prop) (g : DG) (b : DS) (P : DEnds) : List D → DEnv → Mu → Prop
  | [], ρ, μ => P.nx ρ μ
  | d :: ds, ρ, μ => g d ρ μ fun ρ1 μ1 => b { P with nx := fun ρ2 μ2 => stab μ2 ∧ loopD stab g b P ds ρ2 μ2, ct := fun ρ2 μ2 => stab μ2 ∧ loopD stab g b P ds ρ2 μ2, bk := P.nx } ρ1 μ1
def aFor (i : DI) (g : DG) (b : DS) : DS := fun P ρ μ => i ρ μ fun q μ1 => loopD q.stab g b P q.items ρ μ1
theorem drop_at {α : Type} {l : List α} {i : Nat} (h : i < l.length) : l.drop i = l[i] :: l.drop (i + 1) := List.drop_eq_getElem_cons h
theorem li_for {i : DI} {g : DG} {b : DS} {I : List Nat} {E : Ends} {σ : L2.St} {H : Hp} (h : liS (aFor i g b) E σ H) : tFor (liI i) (liG I g) (liS b) E σ H := by
  obtain ⟨ρ, μ, P, s, q, m⟩ := h
  refine ⟨ρ, μ, _, s, q, fun J sq μ1 H1 s1 f1 run st q1 => ?_⟩
  refine ⟨fun i mm σ' H' => ∃ ρ' μ', S σ' H' ρ' μ' ∧ Fr μ1 H1 μ' H' ∧ sq.stab μ' ∧ mm = sq.items.length - i ∧ i ≤ sq.items.length ∧ loopD sq.stab g b P (sq.items.drop i) ρ' μ',
    ⟨sq.items.length, ρ, μ1, s1, Fr.refl, st, by simp, Nat.zero_le _, q1⟩, ?_⟩
  rintro i mm σ' H' ⟨ρ', μ', s', f', st', rfl, hi, hl⟩
  obtain ⟨r1, r2⟩ := run i H' μ' f' s'.re st'
  by_cases hlt : i < sq.items.length
  · rw [drop_at hlt] at hl
    obtain ⟨go, yl⟩ := r2 _ (List.getElem?_eq_getElem hlt)
    refine .inr ⟨go, fun σ2 H2 => ∃ ρ2 μ2, S σ2 H2 ρ2 μ2 ∧ Fr μ1 H1 μ2 H2 ∧ sq.stab μ2 ∧ loopD sq.stab g b P (sq.items.drop (i + 1)) ρ2 μ2, ?_, fun x H2 y => ?_⟩
    · rintro σ2 H2 ⟨ρ2, μ2, s2, f2, st2, l2⟩
      exact ⟨sq.items.length - (i + 1), by omega, ρ2, μ2, s2, f2, st2, rfl, hlt, l2⟩
    · obtain ⟨ix, R2, F2⟩ := yl x H2 y
      refine ⟨_, ρ', μ', _, s'.mono F2.tk R2, ix, hl, fun ρ3 μ3 σ3 H3 _ q3 s3 f3 => ⟨ρ3, μ3, _, s3, q3, ?_⟩⟩
      have ff := (f'.trans F2).trans f3
      have fm := f1.trans ff
      exact ⟨fun ρ4 μ4 σ4 H4 ⟨st4, l4⟩ s4 f4 => ⟨ρ4, μ4, s4, ff.trans f4, st4, l4⟩, fun d μ4 v H4 p R4 i4 f4 => m.rt d μ4 v H4 p R4 i4 (fm.trans f4),
        fun ρ4 μ4 σ4 H4 p s4 f4 => m.nx ρ4 μ4 σ4 H4 p s4 (fm.trans f4), fun ρ4 μ4 σ4 H4 ⟨st4, l4⟩ s4 f4 => ⟨ρ4, μ4, s4, ff.trans f4, st4, l4⟩⟩
  · have e : sq.items.drop i = [] := List.drop_eq_nil_iff.mpr (by omega)
    rw [e] at hl
    exact .inl ⟨r1 (by omega), m.nx ρ' μ' σ' H' hl s' (f1.trans f')⟩
theorem ms_for {i : DI} {g : DG} {I : List Nat} (hp : PassesOwn (model X.prog X.w) X.A X.env X.xe) (hc : X.calm = true) (hi : MI X tg iter i) (hg : MG X tg I g) (hb : MSs X body tb)
    (hs : ∀ x, foldedSetIterable iter X.env x = pure x := by intro _; rfl) : MS X (.For tg iter body [] pos) (aFor i g tb) := PS.imp (ps_for hp hc hi hg hb hs) fun _ _ _ h => li_for h
/-- while -/
def aWhile (c : DT) (b : DS) : DS := fun P ρ μ => ∃ W : Nat → DEnv → Mu → Prop, (∃ m, W m ρ μ) ∧ ∀ m ρ μ, W m ρ μ → c ρ μ fun k μ1 => if k = true then b { P with nx := fun ρ2 μ2 => ∃ m', m' < m ∧ W m' ρ2 μ2, ct := fun ρ2 μ2 => ∃ m', m' < m ∧ W m' ρ2 μ2, bk := P.nx } ρ μ1 else P.nx ρ μ1
theorem ms_while {c : Expr} {tc : DT} (hp : PassesOwn (model X.prog X.w) X.A X.env X.xe) (hc : MT X c tc) (hb : MSs X body tb) : MS X (.While c body [] pos) (aWhile tc tb) :=
  PS.imp (ps_while hp hc hb) fun E σ H ⟨ρ, μ, P, s, ⟨W, ⟨m0, w0⟩, q⟩, m⟩ => by
    refine ⟨fun mm σ' H' => ∃ ρ' μ', S σ' H' ρ' μ' ∧ Fr μ H μ' H' ∧ W mm ρ' μ', ⟨m0, ρ, μ, s, Fr.refl, w0⟩, ?_⟩
    rintro mm σ' H' ⟨ρ', μ', s', f', w'⟩
    refine ⟨ρ', μ', _, s', q mm ρ' μ' w', fun k μ1 H1 s1 f1 q1 => ?_⟩
    have fm := f'.trans f1
    cases k with
    | true =>
      refine ⟨fun σ2 H2 => ∃ m', m' < mm ∧ ∃ ρ2 μ2, S σ2 H2 ρ2 μ2 ∧ Fr μ H μ2 H2 ∧ W m' ρ2 μ2, fun σ2 H2 h => h, ρ', μ1, _, s1, q1, ?_⟩
      exact ⟨fun ρ4 μ4 σ4 H4 ⟨m', l, w4⟩ s4 f4 => ⟨m', l, ρ4, μ4, s4, fm.trans f4, w4⟩, fun d μ4 v H4 p R4 i4 f4 => m.rt d μ4 v H4 p R4 i4 (fm.trans f4),
        fun ρ4 μ4 σ4 H4 p s4 f4 => m.nx ρ4 μ4 σ4 H4 p s4 (fm.trans f4), fun ρ4 μ4 σ4 H4 ⟨m', l, w4⟩ s4 f4 => ⟨m', l, ρ4, μ4, s4, fm.trans f4, w4⟩⟩
    | false => exact m.nx ρ' μ1 σ' H1 q1 s1 fm

/-! ### list comprehensions -/
def lcLoop (stab : Mu → Prop) (g : DG) (tt : DT) (te : DE) (ρ0 : DEnv) : List D → List D → Mu → (List D → Mu → Prop) → Prop
  | [], acc, μ, K => K acc μ
  | d :: ds, acc, μ, K => g d ρ0 μ fun ρ1 μ1 => tt ρ1 μ1 fun b μ2 => if b = true then te ρ1 μ2 fun y μ3 => acc.length < sizeLine ∧ stab μ3 ∧ lcLoop stab g tt te ρ0 ds (acc ++ [y]) μ3 K else stab μ2 ∧ lcLoop stab g tt te ρ0 ds acc μ2 K
def aLc (i : DI) (g : DG) (tt : DT) (te : DE) (vs : List Nat) : DA := fun ρ μ K => i ρ μ fun q μ1 => lcLoop q.stab g tt te (wipeD ρ vs) q.items [] μ1 K
def aYes : DT := fun _ μ Q => Q true μ
abbrev MTs (X : Cx) (ifs : List Expr) (t : DT) : Prop := PTs X ifs (liT t)
theorem mts_nil : MTs X [] aYes := ⟨fun pins s σ H Q I ⟨ρ, μ, Q', st, q, k⟩ => pts_nil.run pins s σ H Q I (k _ μ H st Fr.refl q)⟩
theorem mts_one {c : Expr} {t : DT} (h : MT X c t) : MTs X [c] t := pts_one h
theorem wipe_get {σ : L2.St} : ∀ {vs : List Nat} {j : Nat}, (wipe σ vs)[j]? = if j ∈ vs ∧ j < σ.length then some none else σ[j]?
  | [], j => by simp [wipe]
  | v :: vs, j => by
    unfold wipe
    by_cases h : v = j
    · subst h
      by_cases hl : v < σ.length
      · rw [List.getElem?_set_self (by rw [wipe_length]; exact hl), if_pos ⟨List.mem_cons_self, hl⟩]
      · rw [if_neg (fun z => hl z.2), List.getElem?_eq_none (by rw [List.length_set, wipe_length]; omega), List.getElem?_eq_none (by omega)]
    · rw [List.getElem?_set_ne h, wipe_get]
      by_cases hm : j ∈ vs
      · by_cases hl : j < σ.length
        · rw [if_pos ⟨hm, hl⟩, if_pos ⟨List.mem_cons_of_mem _ hm, hl⟩]
        · rw [if_neg (fun z => hl z.2), if_neg (fun z => hl z.2)]
      · rw [if_neg (fun z => hm z.1), if_neg (fun z => (List.mem_cons.mp z.1).elim (fun e => h e.symm) hm)]
theorem wipe_out' {I vs : List Nat} {σ σ' : L2.St} (o : Out I (wipe σ vs) σ') (h : ∀ i ∈ I, i ∈ vs) : wipe σ' vs = wipe σ vs := by
  have hl : σ'.length = σ.length := by rw [o.1, wipe_length]
  refine List.ext_getElem? fun j => ?_
  rw [wipe_get]
  by_cases hj : j ∈ vs
  · by_cases hlt : j < σ.length
    · rw [if_pos ⟨hj, by rw [hl]; exact hlt⟩, wipe_get, if_pos ⟨hj, hlt⟩]
    · rw [if_neg (fun z => hlt (by rw [← hl]; exact z.2)), List.getElem?_eq_none (by omega), List.getElem?_eq_none (by rw [wipe_length]; omega)]
  · rw [if_neg (fun z => hj z.1)]
    exact o.2 j fun m => hj (h j m)
theorem li_lc {i : DI} {g : DG} {tt : DT} {te : DE} {I vs : List Nat} {σ : L2.St} {H : Hp} {Q : VK} (hI : ∀ i ∈ I, i ∈ vs) (h : liL (aLc i g tt te vs) σ H Q) : tLc (liI i) (liG I g) (liT tt) (liE te) vs σ H Q := by
  obtain ⟨ρ, μ, Q', s, q, k⟩ := h
  refine ⟨ρ, μ, _, s, q, fun J sq μ1 H1 s1 f1 run st q1 L hL => ?_⟩
  have nL : μ1 L = none := s1.re.none_of hL
  refine ⟨fun i mm H' => ∃ μ' acc xs, S σ H' ρ μ' ∧ Fr μ1 H1 μ' H' ∧ sq.stab μ' ∧ μ' L = none ∧ H' L = some (.lst xs) ∧ Iss H' acc xs ∧ mm = sq.items.length - i ∧ i ≤ sq.items.length ∧ lcLoop sq.stab g tt te (wipeD ρ vs) (sq.items.drop i) acc μ' Q',
    ⟨sq.items.length, μ1, [], [], s1.mono (Tk.new hL) (s1.re.new hL), Fr.newT hL, st, nL, upd_same, iss_nil.mpr rfl, by simp, Nat.zero_le _, q1⟩, ?_⟩
  rintro i mm H' ⟨μ', acc, xs, s', f', st', n', h', ia, rfl, hi, hl⟩
  obtain ⟨r1, r2⟩ := run i H' μ' f' s'.re st'
  by_cases hlt : i < sq.items.length
  · rw [drop_at hlt] at hl
    obtain ⟨go, yl⟩ := r2 _ (List.getElem?_eq_getElem hlt)
    refine .inr ⟨go, fun H2 => ∃ μ2 acc xs, S σ H2 ρ μ2 ∧ Fr μ1 H1 μ2 H2 ∧ sq.stab μ2 ∧ μ2 L = none ∧ H2 L = some (.lst xs) ∧ Iss H2 acc xs ∧ lcLoop sq.stab g tt te (wipeD ρ vs) (sq.items.drop (i + 1)) acc μ2 Q', ?_, fun x H2 y => ?_⟩
    · rintro H2 ⟨μ2, acc, xs, s2, f2, st2, n2, h2, ia2, l2⟩
      exact ⟨sq.items.length - (i + 1), by omega, μ2, acc, xs, s2, f2, st2, n2, h2, ia2, rfl, hlt, l2⟩
    · obtain ⟨ix, R2, F2⟩ := yl x H2 y
      have s2 := s'.mono F2.tk R2
      refine ⟨_, wipeD ρ vs, μ', _, s2.wipe vs, ix, hl, fun ρ3 μ3 σ3 H3 o3 q3 s3 f3 => ⟨wipe_out' o3 hI, ?_⟩⟩
      refine ⟨ρ3, μ3, _, s3, q3, fun b μ4 H4 s4 f4 q4 => ?_⟩
      have F4 := (F2.trans f3).trans f4
      have keepL : ∀ {μ5 : Mu} {H5 : Hp}, Fr μ' H' μ5 H5 → μ5 L = none ∧ H5 L = some (.lst xs) := fun {μ5 H5} F => ⟨(by
        cases e : μ5 L with
        | none => rfl
        | some c =>
          rcases F.new L (by rw [e]; simp) with z | z
          · exact absurd n' z
          · rw [h'] at z; cases z), F.keep L _ n' h'⟩
      cases b with
      | true =>
        refine ⟨ρ3, μ4, _, s4, q4, fun d5 v5 μ5 H5 s5 f5 i5 q5 => ?_⟩
        obtain ⟨hz, st5, l5⟩ := q5
        have F5 := F4.trans f5
        obtain ⟨n5, h5⟩ := keepL F5
        have tk : Tk H5 (upd H5 L (.lst (xs ++ [v5]))) := ⟨fun b ys e => (by rw [upd_ne (fun z => by subst z; rw [h5] at e; cases e)]; exact e), fun b o u e => (by rw [upd_ne (fun z => by subst z; rw [h5] at e; cases e)]; exact e)⟩
        have R5 : Rel μ5 (upd H5 L (.lst (xs ++ [v5]))) := fun a c e => (s5.re a c e).stay tk fun u z => by rw [upd_ne (fun w => by subst w; rw [n5] at e; cases e)]; exact z
        refine ⟨xs, h5, by rw [← ia.len]; exact hz, μ5, acc ++ [d5], xs ++ [v5], (s'.mono F5.tk s5.re).mono tk R5, ?_, st5, n5, upd_same, (Iss.app (ia.mono F5.tk) (Iss.one i5)).mono tk, l5⟩
        have F6 := f'.trans F5
        exact ⟨fun b o h1 h2 => (by rw [upd_ne (fun z => by subst z; rw [hL] at h2; cases h2)]; exact F6.keep b o h1 h2), F6.new, F6.tk.trans tk, fun b z => F6.old b (upd_old z)⟩
      | false =>
        obtain ⟨st5, l5⟩ := q4
        obtain ⟨n5, h5⟩ := keepL F4
        exact ⟨μ4, acc, xs, s'.mono F4.tk s4.re, f'.trans F4, st5, n5, h5, ia.mono F4.tk, l5⟩
  · have e : sq.items.drop i = [] := List.drop_eq_nil_iff.mpr (by omega)
    rw [e] at hl
    exact .inl ⟨r1 (by omega), k acc L xs μ' H' s' (f1.trans f') n' (f1.old L hL) h' ia hl⟩
theorem ml_lc {elt : Expr} {ifs : List Expr} {scope : Scope} {own : List (Str × Nat)} {i : DI} {g : DG} {tt : DT} {te : DE} {I : List Nat} (hc : X.calm = true) (hN : X.N.Nodup) (hi : MI X tg iter i) (ok : BlkOk X.N X.env.scope scope own)
    (hg : ∀ (s : Shared) (H : Hp) (C : Addr) (cl : List (Str × Addr)) (fp : List Addr), MG (X.blk s H scope (compEnvC scope cl C X.env) fp) tg I g) (ht : ∀ (s : Shared) (H : Hp) (C : Addr) (cl : List (Str × Addr)) (fp : List Addr), MTs (X.blk s H scope (compEnvC scope cl C X.env) fp) ifs tt)
    (he : ∀ (s : Shared) (H : Hp) (C : Addr) (cl : List (Str × Addr)) (fp : List Addr), ME (X.blk s H scope (compEnvC scope cl C X.env) fp) elt te) (hI : ∀ i ∈ I, i ∈ own.map (·.2) := by decide) (hs : ∀ x, foldedSetIterable iter X.env x = pure x := by intro _; rfl) :
    ML X (.ListComp elt [⟨tg, iter, ifs, 0⟩] scope pos) (aLc i g tt te (own.map (·.2))) := PE.imp (pe_lc hc hN hi ok hg ht he hs) fun _ _ _ h => li_lc hI h
theorem li_new {t : DA} {σ : L2.St} {H : Hp} {Q : VK} (h : liE (aNew t) σ H Q) : liL t σ H Q := by
  obtain ⟨ρ, μ, Q', s, q, k⟩ := h
  exact ⟨ρ, μ, _, s, q, fun ds p xs μ' H' s' f' hn hp0 hp i q' => k (.ref p) _ _ H' (s'.tell hn hp i) (f'.tell hp0) (is_ref.mpr rfl) (q' p hn)⟩
theorem ms_setLc {j : Nat} {y : Str} {py spos : Pos} {elt : Expr} {ifs : List Expr} {scope : Scope} {own : List (Str × Nat)} {i : DI} {g : DG} {tt : DT} {te : DE} {I : List Nat} (hc : X.calm = true) (hN : X.N.Nodup) (hy : X.N[j]? = some y) (hyl : X.env.scope.names.lookup y = some .local)
    (hsw : swapsWith (.ListComp elt [⟨tg, iter, ifs, 0⟩] scope pos) (some (.Name y py)) spos.line X.env = pure true) (hi : MI X tg iter i) (ok : BlkOk X.N X.env.scope scope own)
    (hg : ∀ (s : Shared) (H : Hp) (C : Addr) (cl : List (Str × Addr)) (fp : List Addr), MG (X.blk s H scope (compEnvC scope cl C X.env) fp) tg I g) (ht : ∀ (s : Shared) (H : Hp) (C : Addr) (cl : List (Str × Addr)) (fp : List Addr), MTs (X.blk s H scope (compEnvC scope cl C X.env) fp) ifs tt)
    (he : ∀ (s : Shared) (H : Hp) (C : Addr) (cl : List (Str × Addr)) (fp : List Addr), ME (X.blk s H scope (compEnvC scope cl C X.env) fp) elt te) (hI : ∀ i ∈ I, i ∈ own.map (·.2) := by decide) (hs : ∀ x, foldedSetIterable iter X.env x = pure x := by intro _; rfl) :
    MS X (.Assign [.Name y py] (.ListComp elt [⟨tg, iter, ifs, 0⟩] scope pos) spos) (aAsg (aNew (aLc i g tt te (own.map (·.2)))) (aName j)) :=
  PS.imp (ps_setLc hc hN hy hyl hsw hi ok hg ht he hs) fun E σ H ⟨ρ, μ, P, s, q, m⟩ => li_lc hI (li_new ⟨ρ, μ, _, s, q, fun d v μ1 H1 s1 f1 i1 q1 => m.nx _ _ _ _ q1 (s1.set i1) f1⟩)

/-! ### calls of own defs -/
def spG (G : DRs) : Sp := fun vs H Q _ => liC G vs H Q
structure Cal (P : Program) (w : World) (K : PySem.W.Frag) (mg : Str → Option Value) (base : Heap) (k : Nat) (x : Str) (G : DRs) : Prop where
  ex : ∃ f fd ps, FnOk P w K mg base CX0 k f fd ps (spG G) ∧ mg x = some (.ref f) ∧ PySem.W.keepIn K (.ref f) = true ∧ Binds K fd ps []
def aCall (G : DRs) (t : DA) : DE := fun ρ μ Q => t ρ μ fun ds μ1 => G ds μ1 Q
theorem li_call {G : DRs} {t : DA} {n : Nat} {σ : L2.St} {H : Hp} {Q : VK} (h : liE (aCall G t) σ H Q) : liAn n t σ H fun vs H1 => liC G vs H1 Q := by
  obtain ⟨ρ, μ, Q', s, q, k⟩ := h
  exact ⟨ρ, μ, _, s, q, fun ds vs μ1 H1 _ s1 f1 i1 q1 => ⟨ds, μ1, Q', i1, s1.re, q1, fun d v μ2 H2 R2 f2 i2 q2 => k d v μ2 H2 (s1.mono f2.tk R2) (f1.trans f2) i2 q2⟩⟩
theorem me_call {G : DRs} {t : DA} {n k : Nat} {x : Str} {p : Pos} (c : Cal X.prog X.w X.K X.mg X.base k x G) (hr : Room k X.A) (ha : MAn X n (e :: es) t) (hg : Gl X x := by rfl) (hdb : (x == ("__debug__" : Str)) = false := by decide)
    (he : starEach (e :: es) X.env = (false, eval e X.env) :: starEach es X.env := by rfl) (hpl : (backTo pos (starEach es X.env)).any (·.1) = false := by rfl) : ME X (.Call (.Name x p) (e :: es) [] pos) (aCall G t) := by
  obtain ⟨f, fd, ps, F, hm, hk, hb⟩ := c.ex
  refine PE.imp (pe_call F hr hg hm hk hb .nil pass0 ha hdb he hpl) fun σ H Q h => ?_
  obtain ⟨ρ, μ, Q', s, q, k⟩ := li_call (n := n) h
  refine ⟨ρ, μ, _, s, q, fun ds vs μ1 H1 hl s1 f1 i1 q1 => ?_⟩
  have z := k ds vs μ1 H1 hl s1 f1 i1 q1
  show liC G (vs ++ []) H1 Q
  rw [List.append_nil]
  exact z
/-- a built-in function, type of values -/
theorem me_callB {r : DRs} {t : DA} {n : Nat} {x : Str} {id : String} {p : Pos} (hc : MC X (.builtin id) r) (hm : X.mg x = none) (hv : bootBuiltins x = some (.builtin id)) (ha : MAn X n (e :: es) t) (hg : Gl X x := by rfl) (hn : x ≠ "__name__" := by decide) (hdb : (x == ("__debug__" : Str)) = false := by decide)
    (he : starEach (e :: es) X.env = (false, eval e X.env) :: starEach es X.env := by rfl) (hpl : (backTo pos (starEach es X.env)).any (·.1) = false := by rfl) : ME X (.Call (.Name x p) (e :: es) [] pos) (aCall r t) :=
  PE.imp (pe_callB hc hg hm hv ha hn hdb he hpl) fun σ H Q h => li_call (n := n) h
theorem me_callTy {r : DRs} {t : DA} {n : Nat} {x : Str} {T : String} {p : Pos} (hc : MC X (.type T) r) (hm : X.mg x = none) (hv : bootBuiltins x = some (.type T)) (ha : MAn X n (e :: es) t) (hg : Gl X x := by rfl) (hn : x ≠ "__name__" := by decide) (hdb : (x == ("__debug__" : Str)) = false := by decide)
    (he : starEach (e :: es) X.env = (false, eval e X.env) :: starEach es X.env := by rfl) (hpl : (backTo pos (starEach es X.env)).any (·.1) = false := by rfl) : ME X (.Call (.Name x p) (e :: es) [] pos) (aCall r t) :=
  PE.imp (pe_callTy hc hg hm hv ha hn hdb he hpl) fun σ H Q h => li_call (n := n) h
end

/-! ### a def -/
def startD (n : Nat) (ds : List D) : DEnv := ds.map some ++ List.replicate (n - ds.length) none
theorem S.start {N : List Str} {ds : List D} {vs : List V} {H : Hp} {μ : Mu} (i : Iss H ds vs) (R : Rel μ H) : S (start N vs) H (startD N.length ds) μ := by
  have hl := i.len
  refine ⟨fun j d e => ?_, ?_, R⟩
  · unfold startD at e
    unfold L2.start
    by_cases hj : j < ds.length
    · rw [List.getElem?_append_left (by simpa using hj), List.getElem?_map] at e
      obtain ⟨d', h1, h2⟩ := Option.map_eq_some_iff.mp e
      have h2' : d' = d := Option.some.inj h2
      subst h2'
      obtain ⟨v, h3, h4⟩ := i.get h1
      exact ⟨v, by rw [List.getElem?_append_left (by rw [List.length_map, ← hl]; exact hj), List.getElem?_map, h3]; rfl, h4⟩
    · rw [List.getElem?_append_right (by simpa using Nat.le_of_not_lt hj)] at e
      have := List.mem_of_getElem? e
      cases (List.mem_replicate.mp this).2
  · unfold startD L2.start
    rw [List.length_append, List.length_append, List.length_map, List.length_map, List.length_replicate, List.length_replicate, hl]
theorem cal_of {P : Program} {w : World} {K : PySem.W.Frag} {mg : Str → Option Value} {base : Heap} {x qual : Str} {params : Arguments} {body : List Stmt} {scope : Scope} {f : Addr} {fd : FuncData} {N ps : List Str} {k : Nat} {G : DRs} {t : DS}
    (F : FunD K x qual params body scope [] [] f fd) (Sc : FnScope N ps scope) (hm : mg x = some (.ref f))
    (hb : ∀ (kV doc pm : Value) (an : Option Addr) (cdv ct : Value) (us : List Value), us.length = ps.length → bindArgs (PySem.W.fnOf x qual params body scope .none kV doc pm an cdv ct) ⟨us, []⟩ = pure (ps.zip us))
    (len : ∀ ds μ Q, G ds μ Q → ds.length = ps.length)
    (hbody : ∀ (cdv : Value) (A : Around) (outer : List Env) (s : Shared) (H : Hp) (E : XK), Room k (A.deeper (envOfC qual scope s.heap.objs.size f cdv)) → MSs (cxOf CX0 P w K mg base N qual scope f cdv A outer s H E).nox body t)
    (hG : ∀ ds μ Q, G ds μ Q → t { nx := fun _ μ' => Q .non μ', rt := Q } (startD N.length ds) μ) : Cal P w K mg base (k + 1) x G := by
  refine ⟨f, fd, ps, F.ok Sc (fun vs H Q E h => ?_) (fun cdv A outer s H vs Q E hr h => ⟨liS t, MSs.nox (hbody cdv A outer s H E hr), ?_⟩), hm, F.kp, F.bindsN hb⟩
  · obtain ⟨ds, μ, Q', i, R, g, _⟩ := h
    rw [← i.len]
    exact len ds μ Q' g
  · obtain ⟨ds, μ, Q', i, R, g, kk⟩ := h
    exact ⟨_, μ, _, S.start i R, hG ds μ Q' g, ⟨fun ρ' μ' σ' H' p s' f' => kk .non .non μ' H' s'.re f' (is_non.mpr rfl) p, fun d μ' v H' p R' i' f' => kk d v μ' H' R' f' i' p, fun _ _ _ _ p => p.elim, fun _ _ _ _ p => p.elim⟩⟩
theorem Cal.mono {P : Program} {w : World} {K : PySem.W.Frag} {mg : Str → Option Value} {base : Heap} {j k : Nat} {x : Str} {G : DRs} (c : Cal P w K mg base j x G) (h : j ≤ k) : Cal P w K mg base k x G := by
  obtain ⟨f, fd, ps, F, r⟩ := c.ex
  exact ⟨f, fd, ps, F.mono h, r⟩
end Dl

/-! ## DD -/
/-! Operators, subscripts, built-ins over plain data. -/
namespace Dl
open PySem PySem.Spec PyProof.Rows L2

/-! ### dicts -/
section
variable {κ : Type} [DecidableEq κ]
def valD (kvs : List (κ × D)) (k : κ) : Option D := (kvs.find? fun kv => decide (kv.1 = k)).map (·.2)
def putD (kvs : List (κ × D)) (k : κ) (v : D) : List (κ × D) :=
  if (kvs.any fun kv => decide (kv.1 = k)) = true then kvs.map fun kv => if kv.1 = k then (kv.1, v) else kv else kvs ++ [(k, v)]
theorem valD_cons {p : κ × D} {r : List (κ × D)} {k : κ} : valD (p :: r) k = if p.1 = k then some p.2 else valD r k := by
  unfold valD
  by_cases e : p.1 = k <;> simp [List.find?_cons, e]
theorem Kvs.val {H : Hp} : ∀ {kvs : List (κ × D)} {ws : List (κ × V)} (k : κ), Kvs H kvs ws → (match valD kvs k with
    | some d => ∃ v, valV ws k = some v ∧ Is H d v
    | none => valV ws k = none)
  | [], ws, k, h => by
    have e : ws = [] := h
    subst e
    exact rfl
  | (j, d) :: r, ws, k, h => by
    obtain ⟨v, t, rfl, i, hr⟩ := h
    rw [valD_cons]
    by_cases e : j = k
    · rw [if_pos e]
      exact ⟨v, valV_pos e, i⟩
    · rw [if_neg e, valV_neg e]
      exact Kvs.val k hr
theorem Kvs.any {H : Hp} : ∀ {kvs : List (κ × D)} {ws : List (κ × V)} (k : κ), Kvs H kvs ws → (kvs.any fun kv => decide (kv.1 = k)) = ws.any fun kv => decide (kv.1 = k)
  | [], ws, k, h => by
    have e : ws = [] := h
    subst e
    rfl
  | (j, d) :: r, ws, k, h => by
    obtain ⟨v, t, rfl, i, hr⟩ := h
    rw [List.any_cons, List.any_cons, Kvs.any k hr]
theorem Kvs.repl {H : Hp} {d0 : D} {v0 : V} (i0 : Is H d0 v0) : ∀ {kvs : List (κ × D)} {ws : List (κ × V)} (k : κ), Kvs H kvs ws → Kvs H (kvs.map fun kv => if kv.1 = k then (kv.1, d0) else kv) (ws.map fun kv => if kv.1 = k then (kv.1, v0) else kv)
  | [], ws, k, h => by
    have e : ws = [] := h
    subst e
    exact rfl
  | (j, d) :: r, ws, k, h => by
    obtain ⟨v, t, rfl, i, hr⟩ := h
    rw [List.map_cons, List.map_cons]
    by_cases e : j = k
    · simp only [e, if_true]
      exact ⟨v0, _, rfl, i0, Kvs.repl i0 k hr⟩
    · simp only [if_neg e]
      exact ⟨v, _, rfl, i, Kvs.repl i0 k hr⟩
theorem Kvs.snoc {H : Hp} {d0 : D} {v0 : V} (i0 : Is H d0 v0) : ∀ {kvs : List (κ × D)} {ws : List (κ × V)} (k : κ), Kvs H kvs ws → Kvs H (kvs ++ [(k, d0)]) (ws ++ [(k, v0)])
  | [], ws, k, h => by
    have e : ws = [] := h
    subst e
    exact ⟨v0, [], rfl, i0, rfl⟩
  | (j, d) :: r, ws, k, h => by
    obtain ⟨v, t, rfl, i, hr⟩ := h
    exact ⟨v, _, rfl, i, Kvs.snoc i0 k hr⟩
theorem Kvs.put {H : Hp} {d0 : D} {v0 : V} {kvs : List (κ × D)} {ws : List (κ × V)} (h : Kvs H kvs ws) (k : κ) (i0 : Is H d0 v0) : Kvs H (putD kvs k d0) (putK ws k v0) := by
  unfold putD putK
  rw [h.any k]
  by_cases e : (ws.any fun kv => decide (kv.1 = k)) = true
  · rw [if_pos e, if_pos e]
    exact Kvs.repl i0 k h
  · rw [if_neg e, if_neg e]
    exact Kvs.snoc i0 k h
theorem Kvs.len {H : Hp} : ∀ {kvs : List (κ × D)} {ws : List (κ × V)}, Kvs H kvs ws → kvs.length = ws.length
  | [], ws, h => by
    have e : ws = [] := h
    subst e
    rfl
  | (j, d) :: r, ws, h => by
    obtain ⟨v, t, rfl, i, hr⟩ := h
    rw [List.length_cons, List.length_cons, Kvs.len hr]
theorem Kvs.keys {H : Hp} : ∀ {kvs : List (κ × D)} {ws : List (κ × V)}, Kvs H kvs ws → kvs.map (·.1) = ws.map (·.1)
  | [], ws, h => by
    have e : ws = [] := h
    subst e
    rfl
  | (j, d) :: r, ws, h => by
    obtain ⟨v, t, rfl, i, hr⟩ := h
    rw [List.map_cons, List.map_cons, Kvs.keys hr]
end

/-! ### data that == reads -/
mutual
def dat : D → PyData
  | .non => .none
  | .bl b => .bool b
  | .int i => .int i
  | .str x => .str x
  | .ref _ => .none
  | .tup ds => .tuple (dats ds)
  | .ftup ds => .tuple (dats ds)
def dats : List D → List PyData
  | [] => []
  | d :: ds => dat d :: dats ds
end
mutual
/-- None, ints, texts, tuples of these, at most so deep -/
def okD : Nat → D → Bool
  | _, .non => true
  | _, .int _ => true
  | _, .str x => PyData.canLay0 (.str x)
  | n + 1, .tup ds => okDs n ds
  | n + 1, .ftup ds => okDs n ds
  | _, _ => false
def okDs : Nat → List D → Bool
  | _, [] => true
  | n, d :: ds => okD n d && okDs n ds
end
mutual
def beqD : D → D → Bool
  | .non, .non => true
  | .bl a, .bl b => a == b
  | .int a, .int b => a == b
  | .str a, .str b => a == b
  | .tup a, .tup b => beqDs a b
  | .tup a, .ftup b => beqDs a b
  | .ftup a, .tup b => beqDs a b
  | .ftup a, .ftup b => beqDs a b
  | _, _ => false
def beqDs : List D → List D → Bool
  | [], [] => true
  | a :: as, b :: bs => beqD a b && beqDs as bs
  | _, _ => false
end
mutual
theorem eqv_dat : ∀ (x y : D) {n m : Nat}, okD n x = true → okD m y = true → PyData.eqv (dat x) (dat y) = beqD x y
  | .non, y, n, m, hx, hy => by cases y <;> simp_all [okD, dat, PyData.eqv, beqD] <;> (cases m <;> simp_all [okD])
  | .bl _, y, n, m, hx, hy => by cases n <;> simp [okD] at hx
  | .ref _, y, n, m, hx, hy => by cases n <;> simp [okD] at hx
  | .int i, y, n, m, hx, hy => by cases y <;> simp_all [okD, dat, PyData.eqv, beqD] <;> (cases m <;> simp_all [okD])
  | .str i, y, n, m, hx, hy => by cases y <;> simp_all [okD, dat, PyData.eqv, beqD] <;> (cases m <;> simp_all [okD])
  | .tup as, y, 0, m, hx, hy => by simp [okD] at hx
  | .ftup as, y, 0, m, hx, hy => by simp [okD] at hx
  | .tup as, y, n + 1, m, hx, hy => by
    simp only [okD] at hx
    cases y with
    | tup bs =>
      cases m with
      | zero => simp [okD] at hy
      | succ m =>
        simp only [okD] at hy
        simp only [dat, PyData.eqv, beqD]
        exact eqv_dats as bs hx hy
    | ftup bs =>
      cases m with
      | zero => simp [okD] at hy
      | succ m =>
        simp only [okD] at hy
        simp only [dat, PyData.eqv, beqD]
        exact eqv_dats as bs hx hy
    | bl _ => cases m <;> simp [okD] at hy
    | ref _ => cases m <;> simp [okD] at hy
    | _ => simp [dat, PyData.eqv, beqD]
  | .ftup as, y, n + 1, m, hx, hy => by
    simp only [okD] at hx
    cases y with
    | tup bs =>
      cases m with
      | zero => simp [okD] at hy
      | succ m =>
        simp only [okD] at hy
        simp only [dat, PyData.eqv, beqD]
        exact eqv_dats as bs hx hy
    | ftup bs =>
      cases m with
      | zero => simp [okD] at hy
      | succ m =>
        simp only [okD] at hy
        simp only [dat, PyData.eqv, beqD]
        exact eqv_dats as bs hx hy
    | bl _ => cases m <;> simp [okD] at hy
    | ref _ => cases m <;> simp [okD] at hy
    | _ => simp [dat, PyData.eqv, beqD]
theorem eqv_dats : ∀ (xs ys : List D) {n m : Nat}, okDs n xs = true → okDs m ys = true → PyData.eqvAll (dats xs) (dats ys) = beqDs xs ys
  | [], [], _, _, _, _ => by simp [dats, PyData.eqvAll, beqDs]
  | [], _ :: _, _, _, _, _ => by simp [dats, PyData.eqvAll, beqDs]
  | _ :: _, [], _, _, _, _ => by simp [dats, PyData.eqvAll, beqDs]
  | x :: xs, y :: ys, n, m, hx, hy => by
    simp only [okDs, Bool.and_eq_true] at hx hy
    simp only [dats, PyData.eqvAll, beqDs]
    rw [eqv_dat x y hx.1 hy.1, eqv_dats xs ys hx.2 hy.2]
end
mutual
theorem lay_dat : ∀ (x : D) {n : Nat}, okD n x = true → (dat x).canLay0 = true ∧ (dat x).depth ≤ n
  | .non, n, h => by simp [dat, PyData.canLay0, PyData.depth]
  | .bl _, n, h => by cases n <;> simp [okD] at h
  | .ref _, n, h => by cases n <;> simp [okD] at h
  | .int _, n, h => by simp [dat, PyData.canLay0, PyData.depth]
  | .str x, n, h => by
    have h' : PyData.canLay0 (.str x) = true := by cases n <;> simpa [okD] using h
    exact ⟨by simp only [dat]; exact h', by simp [dat, PyData.depth]⟩
  | .tup ds, 0, h => by simp [okD] at h
  | .ftup ds, 0, h => by simp [okD] at h
  | .tup ds, n + 1, h => by
    simp only [okD] at h
    obtain ⟨h1, h2⟩ := lay_dats ds h
    simp only [dat, PyData.canLay0, PyData.depth]
    exact ⟨h1, by omega⟩
  | .ftup ds, n + 1, h => by
    simp only [okD] at h
    obtain ⟨h1, h2⟩ := lay_dats ds h
    simp only [dat, PyData.canLay0, PyData.depth]
    exact ⟨h1, by omega⟩
theorem lay_dats : ∀ (xs : List D) {n : Nat}, okDs n xs = true → PyData.canLayAll0 (dats xs) = true ∧ PyData.depthAll (dats xs) ≤ n
  | [], n, h => by simp [dats, PyData.canLayAll0, PyData.depthAll]
  | x :: xs, n, h => by
    simp only [okDs, Bool.and_eq_true] at h
    obtain ⟨h1, h2⟩ := lay_dat x h.1
    obtain ⟨h3, h4⟩ := lay_dats xs h.2
    simp only [dats, PyData.canLayAll0, PyData.depthAll, Bool.and_eq_true]
    exact ⟨⟨h1, h3⟩, by omega⟩
end
theorem shaped_dat {x : D} {n : Nat} (h : okD n x = true) (hn : n ≤ 63 := by decide) : SeqAt.shaped (dat x) = true := by
  obtain ⟨h1, h2⟩ := lay_dat x h
  show ((dat x).canLay0 && decide ((dat x).depth ≤ 64)) = true
  rw [Bool.and_eq_true]
  exact ⟨h1, decide_eq_true (by omega)⟩
theorem shaped_dats {x : List D} {n : Nat} (h : okDs n x = true) (hn : n ≤ 63 := by decide) : SeqAt.shaped (.list (dats x)) = true := by
  obtain ⟨h1, h2⟩ := lay_dats x h
  show (PyData.canLay0 (.list (dats x)) && decide ((PyData.list (dats x)).depth ≤ 64)) = true
  rw [Bool.and_eq_true]
  refine ⟨by simp only [PyData.canLay0]; exact h1, decide_eq_true ?_⟩
  simp only [PyData.depth]
  omega
mutual
theorem Is.dp {K : PySem.W.Frag} {H : Hp} : ∀ (x : D) {n : Nat} {v : V}, okD n x = true → Is H x v → Dp K H v (dat x)
  | .non, n, v, h, i => by rw [is_non.mp i]; simp only [dat]; exact Dp.non
  | .bl _, n, v, h, i => by cases n <;> simp [okD] at h
  | .ref _, n, v, h, i => by cases n <;> simp [okD] at h
  | .int _, n, v, h, i => by rw [is_int.mp i]; simp only [dat]; exact Dp.int _
  | .str x, n, v, h, i => by rw [is_str.mp i]; simp only [dat]; exact Dp.str _
  | .tup ds, 0, v, h, i => by simp [okD] at h
  | .ftup ds, 0, v, h, i => by simp [okD] at h
  | .tup ds, n + 1, v, h, i => by
    simp only [okD] at h
    obtain ⟨a, vs, rfl, ha, hs⟩ := is_tup.mp i
    simp only [dat]
    exact Dp.tup (SqT.of ha) (Iss.dp ds h hs)
  | .ftup ds, n + 1, v, h, i => by
    simp only [okD] at h
    obtain ⟨a, o, vs, rfl, ha, _, hs⟩ := is_ftup.mp i
    simp only [dat]
    exact Dp.tup (.inl (.inr ⟨o, ha⟩)) (Iss.dp ds h hs)
theorem Iss.dp {K : PySem.W.Frag} {H : Hp} : ∀ (xs : List D) {n : Nat} {vs : List V}, okDs n xs = true → Iss H xs vs → DpAll K H vs (dats xs)
  | [], n, vs, h, i => by rw [iss_nil.mp i]; simp only [dats]; exact DpAll.nil
  | x :: xs, n, vs, h, i => by
    simp only [okDs, Bool.and_eq_true] at h
    obtain ⟨v, r, rfl, i1, i2⟩ := iss_cons.mp i
    simp only [dats]
    exact DpAll.cons (Is.dp x h.1 i1) (Iss.dp xs h.2 i2)
end
/-- scalars of one kind -/
def scD : D → D → Bool
  | .int _, .int _ => true
  | .str _, .str _ => true
  | .bl _, .bl _ => true
  | .non, .non => true
  | .non, .int _ => true
  | .int _, .non => true
  | _, _ => false
/-- a list of the store, fixed or not -/
def lstOf : Option C → Option (List D)
  | some (.lst ds) => some ds
  | some (.fL ds) => some ds
  | _ => none
theorem Rel.sql {K : PySem.W.Frag} {μ : Mu} {H : Hp} {p : Addr} {ds : List D} (R : Rel μ H) (h : lstOf (μ p) = some ds) : ∃ xs, SqL K H p xs ∧ Iss H ds xs := by
  cases hm : μ p with
  | none => rw [hm] at h; cases h
  | some c =>
    rw [hm] at h
    cases c with
    | lst es => cases h; obtain ⟨xs, h1, h2⟩ := R p _ hm; exact ⟨xs, SqL.of h1, h2⟩
    | fL es => cases h; obtain ⟨o, xs, h1, h2⟩ := R p _ hm; exact ⟨xs, .inl (.inr ⟨o, h1⟩), h2⟩
    | _ => cases h
def rEqq (neg : Bool) : DR2 := fun x y μ Q => if scD x y = true then Q (.bl (neg != beqD x y)) μ else match x, y with
  | .ref p, .ref q => ∃ as bs, lstOf (μ p) = some as ∧ lstOf (μ q) = some bs ∧ okDs 20 as = true ∧ okDs 20 bs = true ∧ Q (.bl (neg != beqDs as bs)) μ
  | x, y => okD 20 x = true ∧ okD 20 y = true ∧ Q (.bl (neg != beqD x y)) μ
section
variable {X : Cx}
theorem scD_eq {H : Hp} {dx dy : D} {x y : V} (h : scD dx dy = true) (ix : Is H dx x) (iy : Is H dy y) : scal x y = true ∧ decide (x = y) = beqD dx dy := by
  cases dx <;> cases dy <;> simp only [scD] at h <;> try (exact absurd h Bool.false_ne_true)
  all_goals
    first
      | (rw [is_int] at ix iy; subst ix iy; exact ⟨rfl, by simp only [beqD]; exact dec_int⟩)
      | (rw [is_str] at ix iy; subst ix iy; exact ⟨rfl, by simp only [beqD]; exact dec_str⟩)
      | (rw [is_bl] at ix iy; subst ix iy; exact ⟨rfl, by simp only [beqD]; exact dec_bl⟩)
      | (rw [is_non] at ix iy; subst ix iy; exact ⟨rfl, by simp [beqD]⟩)
      | (rw [is_non] at ix; rw [is_int] at iy; subst ix iy; exact ⟨rfl, by simp [beqD]⟩)
      | (rw [is_int] at ix; rw [is_non] at iy; subst ix iy; exact ⟨rfl, by simp [beqD]⟩)
theorem bne_f {b : Bool} : (false != b) = b := by cases b <;> rfl
theorem bne_t {b : Bool} : (true != b) = !b := by cases b <;> rfl
theorem mo_eq (hu : X.A.units + 64 < cLine) : MO2 X (compareOp .Eq) (rEqq false) := by
  intro pins s σ H x y v u Q I rx ry ⟨dx, dy, μ, Q', ix, iy, re, h, k⟩
  unfold rEqq at h
  by_cases hs : scD dx dy = true
  · rw [if_pos hs, bne_f] at h
    obtain ⟨h1, h2⟩ := scD_eq hs ix iy
    exact op_eq pins s σ H x y v u Q I rx ry ⟨h1, k _ _ μ H re Fr.refl (is_bl.mpr (by rw [h2])) h⟩
  · rw [if_neg hs] at h
    have gen : okD 20 dx = true ∧ okD 20 dy = true ∧ Q' (.bl (false != beqD dx dy)) μ → wpAny (model X.prog X.w) X.A (compareOp .Eq v u) (EP X pins σ Q) X.xe s := fun ⟨h1, h2, h3⟩ => by
      rw [bne_f] at h3
      exact op_eqD hu pins s σ H x y v u Q I rx ry ⟨_, _, Is.dp dx h1 ix, Is.dp dy h2 iy, shaped_dat h1, shaped_dat h2, k _ _ μ H re Fr.refl (is_bl.mpr (by rw [eqv_dat dx dy h1 h2])) h3⟩
    cases dx with
    | ref p =>
      cases dy with
      | ref q =>
        obtain ⟨as, bs, m1, m2, h1, h2, h3⟩ := h
        rw [bne_f] at h3
        rw [is_ref] at ix iy
        subst ix iy
        obtain ⟨xs, a1, a2⟩ := re.sql (K := X.K) m1
        obtain ⟨ys, b1, b2⟩ := re.sql (K := X.K) m2
        exact op_eqD hu pins s σ H _ _ v u Q I rx ry ⟨_, _, Dp.lst a1 (Iss.dp as h1 a2), Dp.lst b1 (Iss.dp bs h2 b2), shaped_dats h1, shaped_dats h2, k _ _ μ H re Fr.refl (is_bl.mpr (by rw [← eqv_dats as bs h1 h2]; simp [PyData.eqv])) h3⟩
      | _ => exact gen h
    | _ => exact gen (by cases dy <;> exact h)
theorem mo_ne (hu : X.A.units + 64 < cLine) : MO2 X (compareOp .NotEq) (rEqq true) := by
  intro pins s σ H x y v u Q I rx ry ⟨dx, dy, μ, Q', ix, iy, re, h, k⟩
  unfold rEqq at h
  by_cases hs : scD dx dy = true
  · rw [if_pos hs, bne_t] at h
    obtain ⟨h1, h2⟩ := scD_eq hs ix iy
    exact op_ne pins s σ H x y v u Q I rx ry ⟨h1, k _ _ μ H re Fr.refl (is_bl.mpr (by rw [h2])) h⟩
  · rw [if_neg hs] at h
    have gen : okD 20 dx = true ∧ okD 20 dy = true ∧ Q' (.bl (true != beqD dx dy)) μ → wpAny (model X.prog X.w) X.A (compareOp .NotEq v u) (EP X pins σ Q) X.xe s := fun ⟨h1, h2, h3⟩ => by
      rw [bne_t] at h3
      exact op_neD hu pins s σ H x y v u Q I rx ry ⟨_, _, Is.dp dx h1 ix, Is.dp dy h2 iy, shaped_dat h1, shaped_dat h2, k _ _ μ H re Fr.refl (is_bl.mpr (by rw [eqv_dat dx dy h1 h2])) h3⟩
    cases dx with
    | ref p =>
      cases dy with
      | ref q =>
        obtain ⟨as, bs, m1, m2, h1, h2, h3⟩ := h
        rw [bne_t] at h3
        rw [is_ref] at ix iy
        subst ix iy
        obtain ⟨xs, a1, a2⟩ := re.sql (K := X.K) m1
        obtain ⟨ys, b1, b2⟩ := re.sql (K := X.K) m2
        exact op_neD hu pins s σ H _ _ v u Q I rx ry ⟨_, _, Dp.lst a1 (Iss.dp as h1 a2), Dp.lst b1 (Iss.dp bs h2 b2), shaped_dats h1, shaped_dats h2, k _ _ μ H re Fr.refl (is_bl.mpr (by rw [← eqv_dats as bs h1 h2]; simp [PyData.eqv])) h3⟩
      | _ => exact gen h
    | _ => exact gen (by cases dy <;> exact h)

/-! ### ints -/
theorem cLst {H : Hp} {a : Addr} {xs : List V} {ds : List D} (h : H a = some (.lst xs)) (i : Iss H ds xs) : CIs H (.lst ds) a := ⟨xs, h, i⟩
theorem cDK {H : Hp} {a : Addr} {ws : List (Key × V)} {kvs : List (Key × D)} (h : H a = some (.dK ws)) (i : Kvs H kvs ws) : CIs H (.dK kvs) a := ⟨ws, h, i⟩
theorem cDT {H : Hp} {a : Addr} {ws : List (List Key × V)} {kvs : List (List Key × D)} (h : H a = some (.dT ws)) (i : Kvs H kvs ws) : CIs H (.dT kvs) a := ⟨ws, h, i⟩
def rII (c : Int → Int → Prop) (f : Int → Int → D) : DR2 := fun x y μ Q => ∃ i j, x = .int i ∧ y = .int j ∧ c i j ∧ Q (f i j) μ
theorem mo_int {f : Value → Value → Sem Value} {c : Int → Int → Prop} {g : Int → Int → Int} (h : OpR X f (rI c fun i j => .int (g i j))) : MO2 X f (rII c fun i j => .int (g i j)) :=
  OpR.imp h fun x y H Q ⟨dx, dy, μ, Q', ix, iy, re, ⟨i, j, e1, e2, hc, q⟩, k⟩ => by
    subst e1 e2
    exact ⟨i, j, is_int.mp ix, is_int.mp iy, hc, k _ _ μ H re Fr.refl (is_int.mpr rfl) q⟩
theorem mo_intB {f : Value → Value → Sem Value} {g : Int → Int → Bool} (h : OpR X f (rI0 fun i j => .bl (g i j))) : MO2 X f (rII (fun _ _ => True) fun i j => .bl (g i j)) :=
  OpR.imp h fun x y H Q ⟨dx, dy, μ, Q', ix, iy, re, ⟨i, j, e1, e2, hc, q⟩, k⟩ => by
    subst e1 e2
    exact ⟨i, j, is_int.mp ix, is_int.mp iy, k _ _ μ H re Fr.refl (is_bl.mpr rfl) q⟩
theorem rI_of0 {f : Value → Value → Sem Value} {g : Int → Int → Int} (h : OpR X f (rI0 fun i j => .int (g i j))) : OpR X f (rI (fun _ _ => True) fun i j => .int (g i j)) := OpR.imp h fun x y H Q ⟨i, j, e1, e2, _, q⟩ => ⟨i, j, e1, e2, q⟩
abbrev rSub : DR2 := rII (fun _ _ => True) fun i j => .int (i - j)
abbrev rMod : DR2 := rII (fun _ j => 0 < j) fun i j => .int (i % j)
abbrev rFdiv : DR2 := rII CDiv fun i j => .int (i / j)
abbrev rPow : DR2 := rII CPow fun i j => .int (i ^ j.toNat)
abbrev rLt : DR2 := rII (fun _ _ => True) fun i j => .bl (decide (i < j))
abbrev rLe : DR2 := rII (fun _ _ => True) fun i j => .bl (decide (i ≤ j))
abbrev rGt : DR2 := rII (fun _ _ => True) fun i j => .bl (decide (j < i))
abbrev rGe : DR2 := rII (fun _ _ => True) fun i j => .bl (decide (j ≤ i))
theorem mo_sub : MO2 X (binaryOp .Sub) rSub := mo_int (rI_of0 op_sub)
theorem mo_mod : MO2 X (binaryOp .Mod) rMod := mo_int op_mod
theorem mo_fdiv : MO2 X (binaryOp .FloorDiv) rFdiv := mo_int op_fdiv
theorem mo_pow : MO2 X (binaryOp .Pow) rPow := mo_int op_pow
theorem mo_lt : MO2 X (compareOp .Lt) rLt := mo_intB op_lt
theorem mo_le : MO2 X (compareOp .LtE) rLe := mo_intB op_le
theorem mo_gt : MO2 X (compareOp .Gt) rGt := mo_intB op_gt
theorem mo_ge : MO2 X (compareOp .GtE) rGe := mo_intB op_ge
/-- +: ints, tuples, lists -/
def rAdd : DR2 := fun x y μ Q => match x, y with
  | .int i, .int j => Q (.int (i + j)) μ
  | .tup a, .tup b => a.length + b.length ≤ sizeLine ∧ Q (.tup (a ++ b)) μ
  | .ref p, .ref q => ∃ a b, μ p = some (.lst a) ∧ μ q = some (.lst b) ∧ a.length + b.length ≤ sizeLine ∧ ∀ r, μ r = none → Q (.ref r) (updM μ r (.lst (a ++ b)))
  | _, _ => False
theorem mo_add : MO2 X (binaryOp .Add) rAdd := by
  intro pins s σ H x y v u Q I rx ry ⟨dx, dy, μ, Q', ix, iy, re, h, k⟩
  cases dx with
  | int i =>
    cases dy with
    | int j =>
      rw [is_int] at ix iy
      exact op_add pins s σ H x y v u Q I rx ry ⟨i, j, ix, iy, k _ _ μ H re Fr.refl (is_int.mpr rfl) h⟩
    | _ => exact False.elim h
  | tup a =>
    cases dy with
    | tup b =>
      obtain ⟨hl, h⟩ := h
      obtain ⟨p, vs, rfl, hp, hs⟩ := is_tup.mp ix
      obtain ⟨q, ws, rfl, hq, ht⟩ := is_tup.mp iy
      have l1 := hs.len
      have l2 := ht.len
      refine op_catA pins s σ H _ _ v u Q I rx ry ⟨p, q, vs, ws, rfl, rfl, SqT.of hp, SqT.of hq, by omega, fun e => ?_, fun e e2 => ?_, fun e e2 r hr => ?_⟩
      · subst e
        have e : a = [] := List.eq_nil_of_length_eq_zero (by rw [l1]; rfl)
        subst e
        exact k _ _ μ H re Fr.refl iy h
      · subst e2
        have e : b = [] := List.eq_nil_of_length_eq_zero (by rw [l2]; rfl)
        subst e
        rw [List.append_nil] at h
        exact k _ _ μ H re Fr.refl ix h
      · exact k _ _ μ _ (re.new hr) (Fr.newT hr) (is_tup.mpr ⟨r, _, rfl, upd_same, Iss.app (hs.mono (Tk.new hr)) (ht.mono (Tk.new hr))⟩) h
    | _ => exact False.elim h
  | ref p =>
    cases dy with
    | ref q =>
      obtain ⟨a, b, m1, m2, hl, h⟩ := h
      rw [is_ref] at ix iy
      subst ix iy
      obtain ⟨xs, a1, a2⟩ := re p _ m1
      obtain ⟨ys, b1, b2⟩ := re q _ m2
      have l1 := a2.len
      have l2 := b2.len
      refine op_cat pins s σ H _ _ v u Q I rx ry ⟨p, q, xs, ys, rfl, rfl, a1, b1, by omega, fun r hr => ?_⟩
      exact k _ _ _ _ (re.newC hr (cLst upd_same (Iss.app (a2.mono (Tk.new hr)) (b2.mono (Tk.new hr))))) (Fr.newC hr) (is_ref.mpr rfl) (h r (re.none_of hr))
    | _ => exact False.elim h
  | _ => exact False.elim h
/-- *: ints, a list times an int -/
def rMul : DR2 := fun x y μ Q => match x, y with
  | .int i, .int j => CMul i j ∧ Q (.int (i * j)) μ
  | .ref p, .int j => ∃ a, μ p = some (.lst a) ∧ (-(2 ^ 63) ≤ j ∧ j < 2 ^ 63) ∧ a.length * j.toNat ≤ sizeLine ∧ ∀ r, μ r = none → Q (.ref r) (updM μ r (.lst (List.replicate j.toNat a).flatten))
  | _, _ => False
theorem Iss.rep {H : Hp} {ds : List D} {vs : List V} (h : Iss H ds vs) : ∀ n : Nat, Iss H (List.replicate n ds).flatten (List.replicate n vs).flatten
  | 0 => iss_nil.mpr rfl
  | n + 1 => by
    rw [List.replicate_succ, List.replicate_succ, List.flatten_cons, List.flatten_cons]
    exact Iss.app h (Iss.rep h n)
theorem mo_mul : MO2 X (binaryOp .Mult) rMul := by
  intro pins s σ H x y v u Q I rx ry ⟨dx, dy, μ, Q', ix, iy, re, h, k⟩
  cases dx with
  | int i =>
    cases dy with
    | int j =>
      obtain ⟨hc, h⟩ := h
      rw [is_int] at ix iy
      exact op_mul pins s σ H x y v u Q I rx ry ⟨i, j, ix, iy, hc, k _ _ μ H re Fr.refl (is_int.mpr rfl) h⟩
    | _ => exact False.elim h
  | ref p =>
    cases dy with
    | int j =>
      obtain ⟨a, m1, ⟨b1, b2⟩, hl, h⟩ := h
      rw [is_ref] at ix
      rw [is_int] at iy
      subst ix iy
      obtain ⟨xs, a1, a2⟩ := re p _ m1
      have l1 := a2.len
      refine op_rep pins s σ H _ _ v u Q I rx ry ⟨p, j, xs, rfl, rfl, a1, b1, b2, by rw [← l1]; exact hl, fun r hr => ?_⟩
      exact k _ _ _ _ (re.newC hr (cLst upd_same (Iss.rep (a2.mono (Tk.new hr)) _))) (Fr.newC hr) (is_ref.mpr rfl) (h r (re.none_of hr))
    | _ => exact False.elim h
  | _ => exact False.elim h
/-! ### is -/
def isNon : D → Bool
  | .non => true
  | _ => false
theorem isNon_ok {H : Hp} {d : D} {v : V} (i : Is H d v) : decide (v = .non) = isNon d := by
  cases d with
  | non => rw [is_non.mp i]; rfl
  | bl _ => rw [is_bl.mp i]; rfl
  | int _ => rw [is_int.mp i]; rfl
  | str _ => rw [is_str.mp i]; rfl
  | ref _ => rw [is_ref.mp i]; rfl
  | tup _ => obtain ⟨a, vs, rfl, _⟩ := is_tup.mp i; rfl
  | ftup _ => obtain ⟨a, o, vs, rfl, _⟩ := is_ftup.mp i; rfl
/-- is None; is of truth values -/
def rIs (neg : Bool) : DR2 := fun x y μ Q => match y with
  | .non => Q (.bl (neg != isNon x)) μ
  | .bl b => ∃ a, x = .bl a ∧ Q (.bl (neg != decide (a = b))) μ
  | _ => False
theorem mo_is : MO2 X (compareOp .Is) (rIs false) := by
  intro pins s σ H x y v u Q I rx ry ⟨dx, dy, μ, Q', ix, iy, re, h, k⟩
  cases dy with
  | non =>
    have h : Q' (.bl (false != isNon dx)) μ := h
    rw [bne_f] at h
    exact op_isN pins s σ H x y v u Q I rx ry ⟨is_non.mp iy, k _ _ μ H re Fr.refl (is_bl.mpr (by rw [isNon_ok ix])) h⟩
  | bl b =>
    obtain ⟨a, rfl, h⟩ := h
    rw [bne_f] at h
    exact op_isBl pins s σ H x y v u Q I rx ry ⟨a, b, is_bl.mp ix, is_bl.mp iy, k _ _ μ H re Fr.refl (is_bl.mpr rfl) h⟩
  | _ => exact False.elim h
theorem mo_isnot : MO2 X (compareOp .IsNot) (rIs true) := by
  intro pins s σ H x y v u Q I rx ry ⟨dx, dy, μ, Q', ix, iy, re, h, k⟩
  cases dy with
  | non =>
    have h : Q' (.bl (true != isNon dx)) μ := h
    rw [bne_t] at h
    exact op_notN pins s σ H x y v u Q I rx ry ⟨is_non.mp iy, k _ _ μ H re Fr.refl (is_bl.mpr (by rw [isNon_ok ix])) h⟩
  | bl b =>
    obtain ⟨a, rfl, h⟩ := h
    rw [bne_t] at h
    exact op_notBl pins s σ H x y v u Q I rx ry ⟨a, b, is_bl.mp ix, is_bl.mp iy, k _ _ μ H re Fr.refl (is_bl.mpr rfl) h⟩
  | _ => exact False.elim h
end
end Dl

/-! ## EN -/
/-! enumerate over a tuple. -/
namespace PySem
open Sem (wp)
open AutoSeq1 (wpAny_loadPart')
theorem cs_meets_enumerate_newT (l : Addr) (items : Array Value) (n : Nat) (dct : Option Addr) (sl : Array (Option Value)) :
    Meets (Builtin.«enumerate.__new__» ⟨[.type "enumerate", .ref l], []⟩) (fun _ R s => s.heap.get? l = some { cls := .type "tuple", dict := dct, data := .seq items n, slots := sl } ∧
      R (.ok (.ret (.ref (s.heap.push { cls := .type "tuple_iterator", data := .fields #[.ref l, .int 0 0] }).objs.size)))
        { s with heap := (s.heap.push { cls := .type "tuple_iterator", data := .fields #[.ref l, .int 0 0] }).push { cls := .type "enumerate", data := .fields #[.none, .bool false, .ref s.heap.objs.size, rawInt 0, .none, .none] } }) :=
  .of_wp fun prog w A R s h => by
    obtain ⟨hp, g, d, tk, os⟩ := s; obtain ⟨hl, h⟩ := h
    have hsub := sub_enumerate
    have hL : Heap.IsTuple (Shared.heap ⟨hp, g, d, tk, os⟩) l items := ⟨_, hl, rfl, n, rfl⟩
    wp_walk using wpAny_loadPart' hl
    refine wpAny_stack_any fun st => wpAny_pure ?_
    split
    · rename_i c _ _ _ _ _
      cases (c == Value.type "enumerate")
      · wp_walk using wpAny_loadPart' hl, wpAny_pyIter_tuple hL
        exact ⟨_, rfl, h⟩
      · wp_walk using wpAny_loadPart' hl, wpAny_pyIter_tuple hL
        exact ⟨_, rfl, h⟩
    · wp_walk using wpAny_loadPart' hl, wpAny_pyIter_tuple hL
      exact ⟨_, rfl, h⟩
section
variable {prog : Program} {w : World} {A : Around} {E : Value → Shared → Prop} {s : Shared}
theorem cs_call_enumerate_tuple {l : Addr} {items : Array Value} {Q : Value → Shared → Prop} (hL : s.heap.IsTuple l items)
    (h : ∀ h', IsEnum h' (s.heap.objs.size + 1) s.heap.objs.size 0 .none → h'.IsTupleIter s.heap.objs.size l 0 → h'.objs.size = s.heap.objs.size + 2 →
      (∀ b o, s.heap.get? b = some o → h'.get? b = some o) → Q (.ref (s.heap.objs.size + 1)) { s with heap := h' }) :
    wpAny (model prog w) A (call (.type "enumerate") [.ref l]) Q E s := by
  obtain ⟨⟨c, dct, dt, sl⟩, hl, hc, n, hd⟩ := hL
  replace hc : c = .type "tuple" := hc
  replace hd : dt = .seq items n := hd
  subst hc hd
  refine callType_new F.called_enumerate (by decide) (F.typeCall_enumerate_1 _) (F.newCall_enumerate_1 _) (fun obj => F.args_object_init_2 obj _) F.entry_enumerate_new
    (cs_meets_enumerate_newT l items n dct sl) ⟨hl, ?_⟩
  have hz : (s.heap.push { cls := .type "tuple_iterator", data := .fields #[.ref l, .int 0 0] }).objs.size = s.heap.objs.size + 1 := Heap.size_push ..
  show _ ∧ _
  rw [hz]
  have he : IsEnum ((s.heap.push { cls := .type "tuple_iterator", data := .fields #[.ref l, .int 0 0] }).push
      { cls := .type "enumerate", data := .fields #[.none, .bool false, .ref s.heap.objs.size, rawInt 0, .none, .none] }) (s.heap.objs.size + 1) s.heap.objs.size 0 .none := by
    have := Heap.get?_push_size (s.heap.push { cls := .type "tuple_iterator", data := .fields #[.ref l, .int 0 0] })
      (o := { cls := .type "enumerate", data := .fields #[.none, .bool false, .ref s.heap.objs.size, rawInt 0, .none, .none] }) rfl
    rw [hz] at this; exact this
  refine ⟨⟨_, he, rfl⟩, h _ he ⟨_, Heap.get?_push_of_some _ (Heap.get?_push_size _ rfl), rfl, rfl⟩ (by rw [Heap.size_push, hz]) fun b o x => Heap.get?_push_of_some _ (Heap.get?_push_of_some _ x)⟩
end
end PySem
namespace L2
open PySem PySem.Spec PyProof.Rows
/-- the tuple at a as it stands at each turn, each item in a new pair -/
def IteT (a : Addr) : It :=
  ⟨fun i H => ∃ (xs : List V) (x : V), Rd H a (.tup xs) ∧ xs[i]? = some x, fun i H v H' => ∃ T x, v = .ref T ∧ H T = none ∧ H' = upd H T (.tup [.int (i : Nat), x]) ∧ ∀ xs, Rd H a (.tup xs) → xs[i]? = some x, fun i H => ∃ xs : List V, Rd H a (.tup xs) ∧ xs.length ≤ i⟩
theorem turn_enumT {P : Program} {w : World} {K : PySem.W.Frag} {elts : List Expr} {kk : Nat} {tpos : Pos} (a e it : Addr) :
    Turn P w K (.Tuple elts kk tpos) (IteT a) [e, it] e (fun i h => (∃ old, IsEnum h e it ((i : Nat) : Int) old) ∧ h.IsTupleIter it a i ∧ e ≠ it) where
  mem := by simp
  obj := fun i h st b hb => by
    obtain ⟨⟨old, he⟩, ⟨o, ho, hc, hd⟩, _⟩ := st
    have e' : b = e ∨ b = it := by simpa using hb
    rcases e' with z | z
    · rw [z]; exact ⟨_, he, fun v q => nomatch q⟩
    · rw [z]; exact ⟨o, ho, fun v q => by rw [hd] at q; cases q⟩
  keep := fun i h h' st k => let ⟨⟨old, he⟩, hi, hne⟩ := st; ⟨⟨old, k e (by simp) _ he⟩, hi.at fun o q => k it (by simp) o q, hne⟩
  item := by
    intro X hP hw hK hc i pins s σ H E I hf st hg
    subst hP hw hK
    obtain ⟨⟨old, he⟩, hit, hne⟩ := st
    obtain ⟨xs, x, hq, hx⟩ := hg
    obtain ⟨its, rv, p, hz⟩ := I.tuple (X := X) (.inl hq)
    obtain ⟨u, hu, ru⟩ := rv.get hx
    have hel : e < s.heap.objs.size := Heap.lt_size he
    have hil : it < s.heap.objs.size := by obtain ⟨_, q, _⟩ := hit; exact Heap.lt_size q
    have hna : ∀ b ∈ [e, it], b ≠ a := fun b hb z => by
      have n := (hf b hb).1
      rw [z] at n
      rcases hq with q | ⟨_, q⟩ <;> (rw [n] at q; cases q)
    have D := Draws.tuple (prog := X.prog) (w := X.w) (A := X.A.in1) (I.ok.hd hc) it a (hna it (by simp)).symm its.toArray
    refine wpAny_pyNext_enum_itemD D he ⟨hit, show s.heap.IsTuple a its.toArray from p⟩ (by have := (List.getElem?_eq_some_iff.mp hu).1; simpa using this) hne (by simp only [List.mem_cons, not_or, List.not_mem_nil, not_false_eq_true, and_true]; exact ⟨hne, hna e (by simp)⟩) fun x1 h' tk hP ho hit' hT hsz hk => ?_
    have ex : x1 = u := by
      have h1 : its.toArray[i]? = some x1 := hP
      rw [List.getElem?_toArray, hu] at h1
      exact (Option.some.inj h1).symm
    subst ex
    refine ⟨_, rfl, wpAny_letOwnedTupleGo_enum (s := { s with heap := h', toks := tk + 1 }) ho fun h'' he' sb => ?_⟩
    have hT2 : h''.get? s.heap.objs.size = some { cls := .type "tuple", data := .seq #[.int i tk, x1] } := (sb.2 _ (Nat.ne_of_gt hel)).trans hT
    have new : ObjOk X.prog X.w (upd H s.heap.objs.size (.tup [.int (i : Nat), x])) h'' s.heap.objs.size (.tup [.int (i : Nat), x]) :=
      ⟨by show 2 ≤ sizeLine; decide, [.int i tk, x1], .cons ⟨_, rfl⟩ (.cons ru .nil), ⟨_, hT2, rfl, _, rfl⟩⟩
    have I1 : Inv X pins σ (upd H s.heap.objs.size (.tup [.int (i : Nat), x])) { s with heap := h'', toks := tk + 1 } :=
      I.turnedNew (ch := [e, it]) (fun b ob hb q => (sb.2 b (fun z => hb (by simp [z]))).trans (hk b ob (fun z => hb (by simp [z])) (fun z => hb (by simp [z])) q)) hf (Nat.le_refl _) new
    refine ⟨.ref s.heap.objs.size, _, I1, rfl, ⟨_, x, rfl, I.hok.fresh (Nat.le_refl _), rfl, fun ys hy => by rw [I.tuple_inj (.inl hy) (.inl hq)]; exact hx⟩, ⟨⟨x1, ?_⟩, hit'.1.at fun o q => (sb.2 it (Ne.symm hne)).trans q, hne⟩, fun b hb => ?_⟩
    · have e1 : ((i + 1 : Nat) : Int) = (i : Int) + 1 := by omega
      rw [e1]; exact he'
    · have hb' : b < s.heap.objs.size := by
        have e' : b = e ∨ b = it := by simpa using hb
        rcases e' with z | z
        · rw [z]; exact hel
        · rw [z]; exact hil
      rw [upd_ne (Nat.ne_of_lt hb')]
      exact (hf b hb).1
  done := by
    intro X hP hw hK hc i pins s σ H E I hf st hg
    subst hP hw hK
    obtain ⟨⟨old, he⟩, hit, hne⟩ := st
    obtain ⟨xs, hq, hx⟩ := hg
    obtain ⟨its, rv, p, hz⟩ := I.tuple (X := X) (.inl hq)
    obtain ⟨f0, f1, f2, f3, f4, f5⟩ := hf it (by simp)
    have hl := rv.length
    have hT : s.TypeIs (.ref e) "enumerate" := ⟨_, he, rfl⟩
    unfold pyNext
    refine wpAny_bind (wpAny_attempt (wpAny_callSpecial?_slot (name := Str.ofString "__next__") hT F.slot_enumerate_next
      (wpAny_call_entry F.slot_enumerate_next hT F.entry_enumerate_next ?_ (F.args_enumerate_next_1 _))))
    show wpAny _ _ (field (.ref e) 2 >>= _) _ _ _
    refine wpAny_bind (wpAny_field he rfl (x := .ref it) rfl ?_)
    refine wpAny_bind (wpAny_nextOf_tuple_end (I.ok.hd hc) hit (show s.heap.IsTuple a its.toArray from p) (by simp; omega) fun h' x he' hx' => ?_)
    obtain ⟨o, ho, hc'⟩ := hx'
    refine wpAny_bind (wpAny_isInstance (T := "StopIteration") (b := true) ⟨o, ho, hc'⟩ isSubtype_stop ?_)
    exact wpAny_pure ⟨rfl, I.turned (t' := s.toks) (fun b o hb q => he' b o hb q) f0 f1 f3 f4 f5⟩
  self := fun A i s Q E st h => let ⟨⟨_, he⟩, _⟩ := st; wpAny_pyIter_enum he h
end L2

/-! ## DE -/
/-! Subscripts, stores, slices, built-in functions and methods. -/
namespace Dl
open PySem PySem.Spec PyProof.Rows L2
section
variable {X : Cx} {a b e o i : Expr} {es : List Expr} {pos apos cpos p2 : Pos} {ta tb to ti : DE}

/-! ### x[y] -/
theorem atD {α β : Type} {ds : List α} {vs : List β} {i : Int} {d : α} (hl : ds.length = vs.length) (h : atI ds i = some d) : ∃ j : Nat, ds[j]? = some d ∧ ∀ v, vs[j]? = some v → atI vs i = some v := by
  unfold atI at h ⊢
  rw [hl] at h
  cases e : ixN vs.length i with
  | none => rw [e] at h; cases h
  | some j =>
    rw [e] at h
    exact ⟨j, h, fun v hv => hv⟩
def rIxD : DR2 := fun x y μ Q => match x with
  | .tup ds => ∃ i d, y = .int i ∧ atI ds i = some d ∧ Q d μ
  | .ftup ds => ∃ i d, y = .int i ∧ atI ds i = some d ∧ Q d μ
  | .str z => ∃ i c, y = .int i ∧ z.length ≤ sizeLine ∧ atI z.cps.toList i = some c ∧ Q (.str ⟨#[c]⟩) μ
  | .ref p => match μ p with
    | some (.lst ds) => ∃ i d, y = .int i ∧ atI ds i = some d ∧ Q d μ
    | some (.dK kvs) => ∃ k d, y = kD k ∧ valD kvs k = some d ∧ Q d μ
    | some (.zK _ _ kvs) => ∃ k d, y = kD k ∧ valD kvs k = some d ∧ Q d μ
    | some (.dT kvs) => ∃ ks d, y = .tup (ks.map kD) ∧ valD kvs ks = some d ∧ Q d μ
    | _ => False
  | _ => False
theorem ix_dget (hu : X.A.units + 1 < cLine) : IxR X (fun x y H Q => ∃ a v, x = .ref a ∧ DGet H a y (some v) ∧ Q v H) := by
  intro value slice pins s σ H x y v u Q I rx ry h hs
  obtain ⟨a, z, rfl, g, q⟩ := h
  obtain rfl : v = Value.ref a := rx
  exact tail_any (dict_typeIs I g) PySem.F.slot_dict_getitem.lookup (d_getItem hu I g ry fun w' s3 I3 rw' => ⟨z, H, I3, rw', q⟩) hs
theorem Kvs.some_of {κ : Type} [DecidableEq κ] {H : Hp} {kvs : List (κ × D)} {ws : List (κ × V)} {k : κ} {d : D} (h : Kvs H kvs ws) (e : valD kvs k = some d) : ∃ v, valV ws k = some v ∧ Is H d v := by
  have z := h.val k
  rw [e] at z
  exact z
theorem ix_D (hu : X.A.units + 1 < cLine) : IxR X (liR rIxD) := by
  intro value slice pins s σ H x y v u Q I rx ry ⟨dx, dy, μ, Q', ix, iy, re, h, k⟩ hs
  have tup : ∀ ds, seqD dx = some ds → (∃ i d, dy = .int i ∧ atI ds i = some d ∧ Q' d μ) → wpAny (model X.prog X.w) X.A (subscriptTail value slice v u) (EP X pins σ Q) X.xe s := by
    rintro ds e ⟨i, d, rfl, ha, q⟩
    obtain ⟨p, vs, rfl, hp, hss⟩ := seqD_is (K := X.K) e ix
    rw [is_int] at iy
    subst iy
    obtain ⟨j, h1, h2⟩ := atD hss.len ha
    obtain ⟨w, hw, iw⟩ := hss.get h1
    exact ix_tup value slice pins s σ H _ _ v u Q I rx ry ⟨p, vs, i, w, rfl, rfl, hp, h2 w hw, k d w μ H re Fr.refl iw q⟩ hs
  cases dx with
  | tup ds => exact tup ds rfl h
  | ftup ds => exact tup ds rfl h
  | str z =>
    obtain ⟨i, c, rfl, hz, ha, q⟩ := h
    rw [is_int] at iy
    rw [is_str] at ix
    subst ix iy
    exact ix_str value slice pins s σ H _ _ v u Q I rx ry ⟨z, i, c, rfl, rfl, hz, ha, k _ _ μ H re Fr.refl (is_str.mpr rfl) q⟩ hs
  | ref p =>
    rw [is_ref] at ix
    subst ix
    unfold rIxD at h
    cases hm : μ p with
    | none => simp only [hm] at h
    | some c =>
      cases c with
      | lst ds =>
        simp only [hm] at h
        obtain ⟨i, d, rfl, ha, q⟩ := h
        rw [is_int] at iy
        subst iy
        obtain ⟨xs, hp, hss⟩ := re p _ hm
        obtain ⟨j, h1, h2⟩ := atD hss.len ha
        obtain ⟨w, hw, iw⟩ := hss.get h1
        exact ix_list value slice pins s σ H _ _ v u Q I rx ry ⟨p, xs, i, w, rfl, rfl, SqL.of hp, h2 w hw, k d w μ H re Fr.refl iw q⟩ hs
      | dK kvs =>
        simp only [hm] at h
        obtain ⟨kk, d, rfl, ha, q⟩ := h
        rw [is_kD] at iy
        subst iy
        obtain ⟨ws, hp, hss⟩ := re p _ hm
        obtain ⟨w, hw, iw⟩ := hss.some_of ha
        exact ix_dget hu value slice pins s σ H _ _ v u Q I rx ry ⟨p, w, rfl, .inl ⟨ws, kk, .inl hp, rfl, hw.symm⟩, k d w μ H re Fr.refl iw q⟩ hs
      | fL _ => simp only [hm] at h
      | zK oo ws kvs =>
        simp only [hm] at h
        obtain ⟨kk, d, rfl, ha, q⟩ := h
        rw [is_kD] at iy
        subst iy
        obtain ⟨hp, hss⟩ := re p _ hm
        obtain ⟨w, hw, iw⟩ := hss.some_of ha
        exact ix_dget hu value slice pins s σ H _ _ v u Q I rx ry ⟨p, w, rfl, .inl ⟨ws, kk, .inr ⟨oo, hp⟩, rfl, hw.symm⟩, k d w μ H re Fr.refl iw q⟩ hs
      | dT kvs =>
        simp only [hm] at h
        obtain ⟨ks, d, rfl, ha, q⟩ := h
        obtain ⟨bb, rfl, hb⟩ := is_key iy
        obtain ⟨ws, hp, hss⟩ := re p _ hm
        obtain ⟨w, hw, iw⟩ := hss.some_of ha
        exact ix_dget hu value slice pins s σ H _ _ v u Q I rx ry ⟨p, w, rfl, .inr ⟨ws, ks, bb, .inl hp, rfl, hb, hw.symm⟩, k d w μ H re Fr.refl iw q⟩ hs
  | non => exact False.elim h
  | bl _ => exact False.elim h
  | int _ => exact False.elim h
theorem me_ix (hu : X.A.units + 1 < cLine) (ha : ME X a ta) (hb : ME X b tb) (hs : PlainIx b := by exact fun _ _ => rfl) : ME X (.Subscript a b pos) (aOp rIxD ta tb) := PE.imp (pe_ix (ix_D hu) ha hb hs) fun _ _ _ h => li_op h

/-! ### o[i] = v -/
def setD : DSet := fun o i v μ Q => match o with
  | .ref p => match μ p with
    | some (.lst ds) => ∃ k j, i = .int k ∧ ixN ds.length k = some j ∧ Q (updM μ p (.lst (ds.set j v)))
    | some (.dK kvs) => ∃ k, i = kD k ∧ kvs.length < sizeLine ∧ Q (updM μ p (.dK (putD kvs k v)))
    | some (.dT kvs) => ∃ ks, i = .tup (ks.map kD) ∧ kvs.length < sizeLine ∧ Q (updM μ p (.dT (putD kvs ks v)))
    | _ => False
  | _ => False
theorem dset_ok (hu : X.A.units + 1 < cLine) : PSet X (fun o i v H Q => ∃ a H', o = .ref a ∧ DPut H a i v H' ∧ Q H') := by
  intro pins s σ H o i v ov iv u Q I ro ri rv ⟨a, H', e, g, q⟩
  subst e
  obtain rfl : ov = Value.ref a := ro
  exact d_setItem hu I g ri rv fun s' I' => ⟨H', I', q⟩
theorem ps_setD (hu : X.A.units + 1 < cLine) : PSet X (liSet setD) := by
  intro pins s σ H o i v ov iv u Q I ro ri rv ⟨do_, di, dv, μ, Q', io, ii, iv', re, h, k⟩
  cases do_ with
  | ref p =>
    rw [is_ref] at io
    subst io
    unfold setD at h
    cases hm : μ p with
    | none => simp only [hm] at h
    | some c =>
      cases c with
      | lst ds =>
        simp only [hm] at h
        obtain ⟨kk, j, rfl, hj, q⟩ := h
        rw [is_int] at ii
        subst ii
        obtain ⟨xs, hp, hss⟩ := re p _ hm
        rw [hss.len] at hj
        have t := Tk.put (o := .lst (xs.set j v)) (re p _ hm)
        exact set_list pins s σ H _ _ v ov iv u Q I ro ri rv ⟨p, xs, kk, j, rfl, rfl, hp, hj, k _ _ (re.put hm (cLst upd_same ((Iss.set (iv'.mono t) j (hss.mono t))))) (Fr.put re hm) q⟩
      | dK kvs =>
        simp only [hm] at h
        obtain ⟨kk, rfl, hl, q⟩ := h
        rw [is_kD] at ii
        subst ii
        obtain ⟨ws, hp, hss⟩ := re p _ hm
        have t := Tk.put (o := .dK (putK ws kk v)) (re p _ hm)
        exact dset_ok hu pins s σ H _ _ v ov iv u Q I ro ri rv ⟨p, _, rfl, .inl ⟨ws, kk, hp, rfl, by rw [← hss.len]; exact hl, rfl⟩, k _ _ (re.put hm (cDK upd_same ((hss.mono t).put kk (iv'.mono t)))) (Fr.put re hm) q⟩
      | dT kvs =>
        simp only [hm] at h
        obtain ⟨ks, rfl, hl, q⟩ := h
        obtain ⟨bb, rfl, hb⟩ := is_key ii
        obtain ⟨ws, hp, hss⟩ := re p _ hm
        have t := Tk.put (o := .dT (putK ws ks v)) (re p _ hm)
        exact dset_ok hu pins s σ H _ _ v ov iv u Q I ro ri rv ⟨p, _, rfl, .inr ⟨ws, ks, bb, hp, rfl, hb, by rw [← hss.len]; exact hl, rfl⟩, k _ _ (re.put hm (cDT upd_same ((hss.mono t).put ks (iv'.mono t)))) (Fr.put re hm) q⟩
      | zK oo ws kvs => simp only [hm] at h
      | fL _ => simp only [hm] at h
  | _ => exact False.elim h

/-! ### slices -/
def cutA {α : Type} (xs : List α) (lo hi : Option Int) : List α := (xs.drop (HT.sIx xs.length 0 lo)).take (HT.sIx xs.length xs.length hi - HT.sIx xs.length 0 lo)
theorem Iss.cut {H : Hp} {ds : List D} {vs : List V} (h : Iss H ds vs) (lo hi : Option Int) : Iss H (cutA ds lo hi) (cutV vs lo hi) := by
  unfold cutA cutV
  rw [h.len]
  exact Iss.take _ (Iss.drop _ h)
theorem cutA_all {α : Type} {xs : List α} {lo hi : Option Int} (h : HT.sIx xs.length 0 lo = 0 ∧ HT.sIx xs.length xs.length hi = xs.length) : cutA xs lo hi = xs := by
  unfold cutA
  rw [h.1, h.2]
  simp
abbrev DO := DEnv → Mu → (Option Int → Mu → Prop) → Prop
def liO (t : DO) : TO := fun σ H Q => ∃ ρ μ Q', S σ H ρ μ ∧ t ρ μ Q' ∧ ∀ b μ' H', S σ H' ρ μ' → Fr μ H μ' H' → Q' b μ' → Q b H'
abbrev MO (X : Cx) (e : Option Expr) (t : DO) : Prop := PO X e (liO t)
def aNoPart : DO := fun _ μ Q => Q none μ
def aPart (t : DE) : DO := fun ρ μ Q => t ρ μ fun x μ1 => ∃ i, x = .int i ∧ Q (some i) μ1
theorem mo_none : MO X none aNoPart := ⟨fun pins s σ H Q I ⟨ρ, μ, Q', st, q, k⟩ => po_none.run pins s σ H Q I (k _ μ H st Fr.refl q)⟩
theorem mo_some (h : ME X e ta) : MO X (some e) (aPart ta) := ⟨fun pins s σ H Q I ⟨ρ, μ, Q', st, q, k⟩ => (po_some h).run pins s σ H Q I ⟨ρ, μ, _, st, q, fun d v μ1 H1 s1 f1 i1 ⟨i, e, q1⟩ => by
  subst e
  exact ⟨i, is_int.mp i1, k _ μ1 H1 s1 f1 q1⟩⟩⟩
def aSl (t : DE) (tl th : DO) : DE := fun ρ μ Q => t ρ μ fun x μ1 => tl ρ μ1 fun l μ2 => th ρ μ2 fun u μ3 => ∃ ds, x = .tup ds ∧ Q (.tup (cutA ds l u)) μ3
theorem me_sl {lo hi : Option Expr} {tl th : DO} (he : ME X e ta) (hl : MO X lo tl) (hu : MO X hi th) : ME X (.Subscript e (.Slice lo hi none p2) pos) (aSl ta tl th) :=
  PE.imp (pe_slice sl_tupA he hl hu) fun σ H Q ⟨ρ, μ, Q', s, q, k⟩ => ⟨ρ, μ, _, s, q, fun d v μ1 H1 s1 f1 i1 q1 => ⟨ρ, μ1, _, s1, q1, fun l μ2 H2 s2 f2 q2 => ⟨ρ, μ2, _, s2, q2, fun u μ3 H3 s3 f3 ⟨ds, e, q3⟩ => by
    subst e
    obtain ⟨p, vs, rfl, hp, hs⟩ := is_tup.mp ((i1.mono f2.tk).mono f3.tk)
    have ff := (f1.trans f2).trans f3
    refine ⟨p, vs, rfl, SqT.of hp, fun hw => ?_, fun hw r hr => ?_⟩
    · rw [← hs.len] at hw
      rw [cutA_all hw] at q3
      exact k _ _ μ3 H3 s3 ff ((i1.mono f2.tk).mono f3.tk) q3
    · exact k _ _ μ3 _ (s3.mono (Tk.new hr) (s3.re.new hr)) (ff.trans (Fr.newT hr)) (is_tup.mpr ⟨r, _, rfl, upd_same, (hs.cut l u).mono (Tk.new hr)⟩) q3⟩⟩⟩
/-- a slice of a list: a new list -/
def aSlL (t : DE) (tl th : DO) : DA := fun ρ μ Q => t ρ μ fun x μ1 => tl ρ μ1 fun l μ2 => th ρ μ2 fun u μ3 => ∃ p ds, x = .ref p ∧ lstOf (μ3 p) = some ds ∧ Q (cutA ds l u) μ3
theorem ml_sl {lo hi : Option Expr} {tl th : DO} (he : ME X e ta) (hl : MO X lo tl) (hu : MO X hi th) : ML X (.Subscript e (.Slice lo hi none p2) pos) (aSlL ta tl th) :=
  PE.imp (pe_slice sl_list he hl hu) fun σ H Q ⟨ρ, μ, Q', s, q, k⟩ => ⟨ρ, μ, _, s, q, fun d v μ1 H1 s1 f1 i1 q1 => ⟨ρ, μ1, _, s1, q1, fun l μ2 H2 s2 f2 q2 => ⟨ρ, μ2, _, s2, q2, fun u μ3 H3 s3 f3 ⟨p, ds, e, hm, q3⟩ => by
    subst e
    rw [is_ref] at i1
    subst i1
    obtain ⟨xs, hp, hs⟩ := s3.re.sql (K := X.K) hm
    have ff := (f1.trans f2).trans f3
    refine ⟨p, xs, rfl, hp, fun r hr => ?_⟩
    exact k _ r _ μ3 _ (s3.mono (Tk.new hr) (s3.re.new hr)) (ff.trans (Fr.newT hr)) (s3.re.none_of hr) (ff.old r hr) upd_same ((hs.cut l u).mono (Tk.new hr)) q3⟩⟩⟩

/-! ### in, not in -/
def rInn (neg : Bool) : DR2 := fun x y μ Q => match y with
  | .ref p => match μ p with
    | some (.dK kvs) => ∃ k, x = kD k ∧ Q (.bl (neg != (valD kvs k).isSome)) μ
    | some (.lst ds) => ∃ (k : Int) (ns : List Int), x = .int k ∧ ds = ns.map .int ∧ Q (.bl (neg != decide (k ∈ ns))) μ
    | _ => False
  | .str z => ∃ c, x = .str ⟨#[c]⟩ ∧ Q (.bl (neg != decide (c ∈ z.cps.toList))) μ
  | y => ∃ (ds : List D) (k : Int) (ns : List Int), seqD y = some ds ∧ x = .int k ∧ ds = ns.map .int ∧ Q (.bl (neg != decide (k ∈ ns))) μ
theorem inV_int (k : Int) (ns : List Int) : inV (.int k) (ns.map V.int) = decide (k ∈ ns) := by
  unfold inV
  induction ns with
  | nil => rfl
  | cons n ns ih =>
    rw [List.map_cons, List.any_cons, ih]
    show ((n == k) || decide (k ∈ ns)) = decide (k ∈ n :: ns)
    by_cases h : n = k
    · subst h; simp
    · have h' : ¬ k = n := fun e => h e.symm
      simp [h, h']
theorem flat_ints (ns : List Int) : (ns.map V.int).all flatV = true := by
  rw [List.all_map]
  exact List.all_eq_true.mpr fun _ _ => rfl
theorem op_inK (hu : X.A.units + 1 < cLine) : OpR X (compareOp .In) (fun x y H Q => ∃ a o, y = .ref a ∧ DGet H a x o ∧ Q (.bl o.isSome) H) := by
  intro pins s σ H x y v u Q I rx ry ⟨a, o, e, g, q⟩
  subst e
  obtain rfl : u = Value.ref a := ry
  exact d_in hu I g rx fun s' I' => ⟨.bl _, H, I', rfl, q⟩
theorem op_notinK (hu : X.A.units + 1 < cLine) : OpR X (compareOp .NotIn) (fun x y H Q => ∃ a o, y = .ref a ∧ DGet H a x o ∧ Q (.bl (!o.isSome)) H) := by
  intro pins s σ H x y v u Q I rx ry ⟨a, o, e, g, q⟩
  subst e
  obtain rfl : u = Value.ref a := ry
  exact d_notIn hu I g rx fun s' I' => ⟨.bl _, H, I', rfl, q⟩
theorem Kvs.isSome {κ : Type} [DecidableEq κ] {H : Hp} {kvs : List (κ × D)} {ws : List (κ × V)} {k : κ} (h : Kvs H kvs ws) : (valV ws k).isSome = (valD kvs k).isSome := by
  have z := h.val k
  cases e : valD kvs k with
  | none => rw [e] at z; rw [z] <;> rfl
  | some d => rw [e] at z; obtain ⟨v, e2, _⟩ := z; rw [e2] <;> rfl
theorem mo_in (hu : X.A.units + 1 < cLine) : MO2 X (compareOp .In) (rInn false) := by
  intro pins s σ H x y v u Q I rx ry ⟨dx, dy, μ, Q', ix, iy, re, h, k⟩
  have seq : (∃ (ds : List D) (k : Int) (ns : List Int), seqD dy = some ds ∧ dx = .int k ∧ ds = ns.map .int ∧ Q' (.bl (false != decide (k ∈ ns))) μ) → wpAny (model X.prog X.w) X.A (compareOp .In v u) (EP X pins σ Q) X.xe s := by
    rintro ⟨ds, kk, ns, e, rfl, rfl, q⟩
    rw [bne_f] at q
    obtain ⟨p, vs, rfl, hp, hs⟩ := seqD_is (K := X.K) e iy
    rw [is_int] at ix
    subst ix
    have hv := hs.ints
    subst hv
    exact op_in_seq pins s σ H _ _ v u Q I rx ry ⟨p, _, rfl, .inr hp, rfl, flat_ints ns, by rw [if_neg Bool.false_ne_true, inV_int]; exact k _ _ μ H re Fr.refl (is_bl.mpr rfl) q⟩
  cases dy with
  | ref p =>
    rw [is_ref] at iy
    subst iy
    unfold rInn at h
    cases hm : μ p with
    | none => simp only [hm] at h
    | some c =>
      cases c with
      | dK kvs =>
        simp only [hm] at h
        obtain ⟨kk, rfl, q⟩ := h
        rw [bne_f] at q
        rw [is_kD] at ix
        subst ix
        obtain ⟨ws, hp, hs⟩ := re p _ hm
        exact op_inK hu pins s σ H _ _ v u Q I rx ry ⟨p, _, rfl, DGet.k (k := kk) hp, by rw [hs.isSome]; exact k _ _ μ H re Fr.refl (is_bl.mpr rfl) q⟩
      | lst ds =>
        simp only [hm] at h
        obtain ⟨kk, ns, rfl, rfl, q⟩ := h
        rw [bne_f] at q
        rw [is_int] at ix
        subst ix
        obtain ⟨xs, hp, hs⟩ := re p _ hm
        have hv := hs.ints
        subst hv
        exact op_in_seq pins s σ H _ _ v u Q I rx ry ⟨p, _, rfl, .inl (SqL.of hp), rfl, flat_ints ns, by rw [if_neg Bool.false_ne_true, inV_int]; exact k _ _ μ H re Fr.refl (is_bl.mpr rfl) q⟩
      | zK oo ws kvs => simp only [hm] at h
      | fL _ => simp only [hm] at h
      | dT kvs => simp only [hm] at h
  | str z =>
    obtain ⟨c, rfl, q⟩ := h
    rw [bne_f] at q
    rw [is_str] at ix iy
    subst ix iy
    exact op_in_sign pins s σ H _ _ v u Q I rx ry ⟨c, z, rfl, rfl, k _ _ μ H re Fr.refl (is_bl.mpr rfl) q⟩
  | tup ds => exact seq h
  | ftup ds => exact seq h
  | non => exact seq h
  | bl _ => exact seq h
  | int _ => exact seq h
theorem mo_notin : MO2 X (compareOp .NotIn) (fun x y μ Q => ∃ (ds : List D) (k : Int) (ns : List Int), seqD y = some ds ∧ x = .int k ∧ ds = ns.map .int ∧ Q (.bl (!decide (k ∈ ns))) μ) := by
  intro pins s σ H x y v u Q I rx ry ⟨dx, dy, μ, Q', ix, iy, re, ⟨ds, kk, ns, e, e1, e2, q⟩, k⟩
  subst e1 e2
  obtain ⟨p, vs, rfl, hp, hs⟩ := seqD_is (K := X.K) e iy
  rw [is_int] at ix
  subst ix
  have hv := hs.ints
  subst hv
  exact op_notIn_seq pins s σ H _ _ v u Q I rx ry ⟨p, _, rfl, .inr hp, rfl, flat_ints ns, by rw [if_pos rfl, inV_int]; exact k _ _ μ H re Fr.refl (is_bl.mpr rfl) q⟩

/-! ### built-in functions -/
def rLenD : DRs := fun ds μ Q => ∃ x, ds = [x] ∧ match x with
  | .tup es => Q (.int es.length) μ
  | .ftup es => Q (.int es.length) μ
  | .str z => z.length ≤ sizeLine ∧ Q (.int z.length) μ
  | .ref p => ∃ es, μ p = some (.lst es) ∧ Q (.int es.length) μ
  | _ => False
theorem one_of {H : Hp} {d : D} {vs : List V} (i : Iss H [d] vs) : ∃ v, vs = [v] ∧ Is H d v := by
  obtain ⟨v, r, rfl, h1, h2⟩ := iss_cons.mp i
  rw [iss_nil] at h2
  subst h2
  exact ⟨v, rfl, h1⟩
theorem two_of {H : Hp} {d e : D} {vs : List V} (i : Iss H [d, e] vs) : ∃ v w, vs = [v, w] ∧ Is H d v ∧ Is H e w := by
  obtain ⟨v, r, rfl, h1, h2⟩ := iss_cons.mp i
  obtain ⟨w, rfl, h3⟩ := one_of h2
  exact ⟨v, w, rfl, h1, h3⟩
theorem mc_len : MC X (.builtin "len") rLenD := by
  intro pins s σ H xs us Q I r ⟨ds, μ, Q', i, re, ⟨x, e, h⟩, k⟩
  subst e
  obtain ⟨v, rfl, ix⟩ := one_of i
  have seq : ∀ es, seqD x = some es → Q' (.int es.length) μ → wpAny (model X.prog X.w) X.A (call (.builtin "len") us) (EP X pins σ Q) X.xe s := by
    intro es e q
    obtain ⟨p, vs, rfl, hp, hs⟩ := seqD_is (K := X.K) e ix
    exact call_len_seq pins s σ H _ us Q I r ⟨p, vs, rfl, .inr hp, by rw [← hs.len]; exact k _ _ μ H re Fr.refl (is_int.mpr rfl) q⟩
  cases x with
  | tup es => exact seq es rfl h
  | ftup es => exact seq es rfl h
  | str z =>
    obtain ⟨hz, q⟩ := h
    rw [is_str] at ix
    subst ix
    exact call_len_str pins s σ H _ us Q I r ⟨z, rfl, hz, k _ _ μ H re Fr.refl (is_int.mpr rfl) q⟩
  | ref p =>
    obtain ⟨es, hm, q⟩ := h
    rw [is_ref] at ix
    subst ix
    obtain ⟨xs, hp, hs⟩ := re p _ hm
    exact call_len_seq pins s σ H _ us Q I r ⟨p, xs, rfl, .inl (SqL.of hp), by rw [← hs.len]; exact k _ _ μ H re Fr.refl (is_int.mpr rfl) q⟩
  | _ => exact False.elim h
/-- tuple(x) -/
def rTupD : DRs := fun ds μ Q => ∃ x, ds = [x] ∧ match x with
  | .tup es => Q (.tup es) μ
  | .ref p => ∃ es, μ p = some (.lst es) ∧ Q (.tup es) μ
  | _ => False
theorem mc_tup : MC X (.type "tuple") rTupD := by
  intro pins s σ H xs us Q I r ⟨ds, μ, Q', i, re, ⟨x, e, h⟩, k⟩
  subst e
  obtain ⟨v, rfl, ix⟩ := one_of i
  cases x with
  | tup es =>
    obtain ⟨p, vs, rfl, hp, hs⟩ := is_tup.mp ix
    exact call_tuple_of pins s σ H _ us Q I r ⟨p, vs, rfl, .inr ⟨SqT.of hp, k _ _ μ H re Fr.refl ix h⟩⟩
  | ref p =>
    obtain ⟨es, hm, q⟩ := h
    rw [is_ref] at ix
    subst ix
    obtain ⟨xs, hp, hs⟩ := re p _ hm
    exact call_tuple_of pins s σ H _ us Q I r ⟨p, xs, rfl, .inl ⟨SqL.of hp, fun l hl => k _ _ μ _ (re.new hl) (Fr.newT hl) (is_tup.mpr ⟨l, _, rfl, upd_same, hs.mono (Tk.new hl)⟩) q⟩⟩
  | _ => exact False.elim h
theorem mc_min2 (hc : X.calm = true) : MC X (.builtin "min") (fun ds μ Q => ∃ i j, ds = [.int i, .int j] ∧ Q (.int (if j < i then j else i)) μ) := by
  intro pins s σ H xs us Q I r ⟨ds, μ, Q', i, re, ⟨a, b, e, h⟩, k⟩
  subst e
  obtain ⟨v, w, rfl, ia, ib⟩ := two_of i
  rw [is_int] at ia ib
  subst ia ib
  exact call_min2 hc pins s σ H _ us Q I r ⟨a, b, rfl, k _ _ μ H re Fr.refl (is_int.mpr rfl) h⟩
theorem mc_int : MC X (.type "int") (fun ds μ Q => ∃ b, ds = [.bl b] ∧ Q (.int (if b then 1 else 0)) μ) := by
  intro pins s σ H xs us Q I r ⟨ds, μ, Q', i, re, ⟨b, e, h⟩, k⟩
  subst e
  obtain ⟨v, rfl, ia⟩ := one_of i
  rw [is_bl] at ia
  subst ia
  exact call_int1 pins s σ H _ us Q I r (.inr ⟨b, rfl, k _ _ μ H re Fr.refl (is_int.mpr rfl) h⟩)
/-- isinstance(x, T) -/
def tyD (T : String) : D → Bool
  | .non => false
  | .bl _ => T == "bool" || T == "int"
  | .int _ => T == "int"
  | .str _ => T == "str"
  | .tup _ => T == "tuple"
  | .ftup _ => T == "tuple"
  | .ref _ => T == "list"
def isLC (μ : Mu) : D → Prop
  | .ref p => ∃ es, μ p = some (.lst es)
  | _ => True
def aIsT (T : String) (t : DE) : DE := fun ρ μ Q => t ρ μ fun x μ1 => isLC μ1 x ∧ Q (.bl (tyD T x)) μ1
/-- the five types that are asked -/
def tyT (T : String) : Bool := T == "int" || T == "bool" || T == "str" || T == "tuple" || T == "list"
theorem kit_all : ∀ T, tyT T = true → ∀ x, (x = "NoneType" ∨ x = "bool" ∨ x = "int" ∨ x = "str" ∨ x = "tuple" ∨ x = "list") → kitB x T = some (if x = "bool" then T == "bool" || T == "int" else T == x) := by
  intro T h x hx
  simp only [tyT, Bool.or_eq_true, beq_iff_eq] at h
  rcases h with (((h | h) | h) | h) | h <;> subst h <;> rcases hx with h | h | h | h | h | h <;> subst h <;> decide +kernel
theorem bt_isinstance : bootBuiltins "isinstance" = some (.builtin "isinstance") := by decide +kernel
theorem tyD_x {μ : Mu} {H : Hp} {d : D} {v : V} {K : PySem.W.Frag} (R : Rel μ H) (i : Is H d v) (c : isLC μ d) : ∃ x : String, (x = "NoneType" ∨ x = "bool" ∨ x = "int" ∨ x = "str" ∨ x = "tuple" ∨ x = "list") ∧ TyX K H v (.type x) ∧ ∀ T, tyT T = true → (if x = "bool" then T == "bool" || T == "int" else T == x) = tyD T d := by
  cases d with
  | non =>
    rw [is_non.mp i]
    refine ⟨_, .inl rfl, .base .non, fun T h => ?_⟩
    rw [if_neg (by decide)]
    simp only [tyT, Bool.or_eq_true, beq_iff_eq] at h
    rcases h with (((h | h) | h) | h) | h <;> subst h <;> rfl
  | bl b => rw [is_bl.mp i]; exact ⟨_, .inr (.inl rfl), .base (.bl b), fun T h => if_pos rfl⟩
  | int b => rw [is_int.mp i]; exact ⟨_, .inr (.inr (.inl rfl)), .base (.int b), fun T h => if_neg (by decide)⟩
  | str b => rw [is_str.mp i]; exact ⟨_, .inr (.inr (.inr (.inl rfl))), .base (.str b), fun T h => if_neg (by decide)⟩
  | tup ds =>
    obtain ⟨a, vs, rfl, ha, _⟩ := is_tup.mp i
    exact ⟨_, .inr (.inr (.inr (.inr (.inl rfl)))), .base (.tup ha), fun T h => if_neg (by decide)⟩
  | ftup ds =>
    obtain ⟨a, o, vs, rfl, ha, _⟩ := is_ftup.mp i
    exact ⟨_, .inr (.inr (.inr (.inr (.inl rfl)))), .fTuple ha, fun T h => if_neg (by decide)⟩
  | ref p =>
    obtain ⟨es, hm⟩ := c
    rw [is_ref.mp i]
    obtain ⟨xs, hp, _⟩ := R p _ hm
    exact ⟨_, .inr (.inr (.inr (.inr (.inr rfl)))), .base (.lst hp), fun T h => if_neg (by decide)⟩
theorem me_isT {T : String} {xT : Str} {p q : Pos} (hT : tyT T = true) (hm : X.mg "isinstance" = none) (hmT : X.mg xT = none) (hvT : bootBuiltins xT = some (.type T)) (ha : ME X a ta) (hg : Gl X "isinstance" := by rfl) (hgT : Gl X xT := by rfl)
    (hn : xT ≠ "__name__" := by decide) (hd : (xT == ("__debug__" : Str)) = false := by decide) (h1 : starEach [a, .Name xT q] X.env = (false, eval a X.env) :: starEach [.Name xT q] X.env := by rfl)
    (h2 : starEach [.Name xT q] X.env = (false, eval (.Name xT q) X.env) :: starEach [] X.env := by rfl) (h3 : (backTo pos (starEach [.Name xT q] X.env)).any (·.1) = false := by rfl) :
    ME X (.Call (.Name "isinstance" p) [a, .Name xT q] [] pos) (aIsT T ta) :=
  PE.imp (pe_callB (id := "isinstance") call_isi hg hm bt_isinstance (pa_cons ha (pa_cons (pe_bltn (v := .ty T) hgT hmT hvT rfl hn hd) pa_nil h2) h1) (by decide) (by decide) h1 h3) fun σ H Q ⟨ρ, μ, Q', s, q, k⟩ =>
    ⟨ρ, μ, _, s, q, fun d v μ1 H1 s1 f1 i1 ⟨c, q1⟩ => by
      obtain ⟨x, hx, ty, e⟩ := tyD_x (K := X.K) s1.re i1 c
      exact ⟨v, .ty T, _, _, _, rfl, ClsV.ty T, ty, kit_ty (kit_all T hT x hx), by rw [e T hT]; exact k _ _ μ1 H1 s1 f1 (is_bl.mpr rfl) q1⟩⟩
end
end Dl

/-! ## SD -/
/-! sorted(d) of a dict whose keys are pairs of ints. -/
namespace L2
open PySem PySem.Spec PyProof.Rows
section
variable {X : Cx}
def pairOf (H : Hp) : Value → Int × Int
  | .ref b => match H b with
    | some (.tup [.int i, .int j]) => (i, j)
    | _ => (0, 0)
  | _ => (0, 0)
abbrev kPr (p : Int × Int) : List Key := [.inl p.1, .inl p.2]
theorem kPr_inj {p q : Int × Int} (h : kPr p = kPr q) : p = q := by
  obtain ⟨a, b⟩ := p
  obtain ⟨c, d⟩ := q
  simp only [kPr, List.cons.injEq, Sum.inl.injEq, and_true] at h
  rw [h.1, h.2]
def rSortedDT : List V → Hp → VK → Prop := fun xs H Q => ∃ (d : Addr) (kvs : List (List Key × V)) (ks : List (Int × Int)), xs = [.ref d] ∧ Rd H d (.dT kvs) ∧ kvs.map (·.1) = ks.map kPr ∧
  ∀ (ys : List (Int × Int)) (bs : List Addr) (p : Addr), ys.Perm ks → ys.Pairwise (fun a b => SrtO.lexB b a = false) → H p = none → Paired (fun y b => H b = some (.tup [.int y.1, .int y.2])) ys bs → Q (.ref p) (upd H p (.lst (bs.map V.ref)))
theorem pairOf_at {H : Hp} {b : Addr} {p : Int × Int} (h : H b = some (.tup [.int p.1, .int p.2])) : pairOf H (.ref b) = p := by
  show (match H b with
    | some (.tup [.int i, .int j]) => (i, j)
    | _ => ((0, 0) : Int × Int)) = p
  rw [h]
theorem paired_mem {α β : Type} {F : α → β → Prop} {xs : List α} {ys : List β} (h : Paired F xs ys) : ∀ y ∈ ys, ∃ x ∈ xs, F x y := by
  induction h with
  | nil => intro y hy; cases hy
  | cons r t ih =>
    intro y hy
    rcases List.mem_cons.mp hy with rfl | hy
    · exact ⟨_, List.mem_cons_self, r⟩
    · obtain ⟨x, hx, hf⟩ := ih y hy
      exact ⟨x, List.mem_cons_of_mem _ hx, hf⟩
theorem cr_sortedDT (hcalm : X.calm = true) : CallR X (.builtin "sorted") rSortedDT := by
  intro pins s σ H xs us Q I r h
  obtain ⟨d, kvs, kk, rfl, hd, hkk, q⟩ := h
  obtain ⟨u, rfl, rx⟩ := r.one
  cases rx
  obtain ⟨z, hs, ks, pr, o, es, ep, ho, hx, hdt, he, hn⟩ := (show ObjOk X.prog X.w H s.heap d (.dT kvs) from hd.ok I.hok)
  have l1 : es.size = ks.length := size_of_entries he
  have l2 : kvs.length = ks.length := Paired.length pr
  refine Calls.call_function_entry PyProof.Rows.kind_sorted PyProof.Rows.plain_sorted PyProof.Rows.entry_sorted (PyProof.Rows.args_sorted1 _) ?_
  unfold Builtin.«sorted»
  refine wpAny_bind (m := checkCount "sorted" 1 1 _) (wpAny_pure ?_)
  refine wpAny_bind (PySem.W.kdu_collect (A := X.A.in1) (kdl_raw hs hx hdt) (I.ok.hd hcalm) ho (by omega) fun h' tk acc' kp it => ?_)
  have ea : acc'.toList = ks.map fun x => Value.ref x.2.1 := by
    have hl : acc'.toList.length = ks.length := by rw [Array.length_toList, it.1]; exact l1
    apply List.ext_getElem?
    intro j
    rw [List.getElem?_map]
    cases hj : acc'.toList[j]? with
    | none =>
      have h1 := List.getElem?_eq_none_iff.mp hj
      rw [List.getElem?_eq_none (by omega)]
      all_goals rfl
    | some v =>
      obtain ⟨en, hen, hv⟩ := it.2 j v (by rw [← Array.getElem?_toList]; exact hj)
      have qe := entry_at he j
      rw [hen] at qe
      cases hb : ks[j]? with
      | none =>
        rw [hb] at qe
        exact nomatch (show some en = none from qe)
      | some b =>
        rw [hb] at qe
        have e2 : en = entryOfKey (tupleKind (mixKind X.prog X.w)) b := Option.some.inj qe
        rw [hv, e2]
        all_goals rfl
  -- the keys' tuples
  have hpk : ∀ x ∈ ks, ∃ p ∈ kk, x.1 = kPr p ∧ H x.2.1 = some (.tup [.int p.1, .int p.2]) := by
    intro x hx'
    obtain ⟨y, hy, e1, e2, e3⟩ := paired_mem pr x hx'
    have hm : y.1 ∈ kvs.map (·.1) := List.mem_map.mpr ⟨y, hy, rfl⟩
    rw [hkk] at hm
    obtain ⟨p, hp, ep'⟩ := List.mem_map.mp hm
    refine ⟨p, hp, by rw [← e1, ← ep'], ?_⟩
    rw [e2, ← ep']
    rfl
  have I1 : Inv X pins σ H { s with heap := h', toks := tk } := I.kept kp
  have hal : acc'.toList.length = ks.length := by rw [ea, List.length_map]
  have hz : acc'.toList.length ≤ sizeLine := by omega
  refine wpAny_bind (wpAny_newList ?_ hz)
  have hoL : (h'.push (seqObj "list" acc'.toList.toArray 0)).get? h'.objs.size = some (seqObj "list" acc'.toList.toArray 0) := Heap.get?_push_size _ rfl
  show wpAny _ _ _ _ _ { s with heap := h'.push (seqObj "list" acc'.toList.toArray 0), toks := tk }
  have hp : ∀ v ∈ acc'.toList, Srt.IsPair h' v (pairOf H v).1 (pairOf H v).2 := by
    intro v hv
    rw [ea] at hv
    obtain ⟨x, hx', rfl⟩ := List.mem_map.mp hv
    obtain ⟨p, _, _, hp⟩ := hpk x hx'
    obtain ⟨_, its2, r2, oo, ho', hc', n, hd'⟩ := I1.hok _ _ hp
    obtain ⟨u1, u2, rfl, ri, rj⟩ := vals2 r2
    obtain ⟨t1, rfl⟩ := ri
    obtain ⟨t2, rfl⟩ := rj
    have e : pairOf H (Value.ref x.2.1) = p := pairOf_at hp
    rw [e]
    exact ⟨_, oo, t1, t2, n, rfl, ho', hc', hd'⟩
  refine wpAny_bind (wpAny_holding (wpAny_call_entry PyProof.Rows.slot_list_sort ⟨_, hoL, rfl⟩ PyProof.Rows.entry_list_sort
    (SrtO.list_sort_ord (s := { s with heap := h'.push (seqObj "list" acc'.toList.toArray 0), toks := tk }) (SrtO.swo_lex (pairOf H)) hoL hz (fun h2 => ?_) fun out hso hsb => ⟨_, rfl, ?_⟩) (PyProof.Rows.args_list_sort _)))
  · refine SrtO.pairs_sortableO (by omega) (fun v hm => (hp v hm).keeps fun b o e _ => Heap.get?_push_of_some _ e) fun oo e => ?_
    have e' : some oo = some (seqObj "list" acc'.toList.toArray 0) := e.symm.trans hoL
    cases e'
    intro c
    exact absurd (Value.type.inj c) (by decide)
  · obtain ⟨e', he'⟩ := PyProof.Rows.sortedHeap_at (vs := acc'.toList) (out := out.toArray) hoL
    have hperm := hsb.perm
    have hout : ∀ v ∈ out, ∃ x ∈ ks, v = Value.ref x.2.1 := fun v hv => by
      have hv' := hperm.mem_iff.mp hv
      rw [ea] at hv'
      obtain ⟨x, hx', e⟩ := List.mem_map.mp hv'
      exact ⟨x, hx', e.symm⟩
    have adr : ∀ l : List Value, (∀ v ∈ l, ∃ x ∈ ks, v = Value.ref x.2.1) → ∃ bs : List Addr, l = bs.map Value.ref ∧ Paired (fun (y : Int × Int) b => H b = some (.tup [.int y.1, .int y.2])) (l.map (pairOf H)) bs := by
      intro l
      induction l with
      | nil => intro _; exact ⟨[], rfl, .nil⟩
      | cons v l ih =>
        intro hl
        obtain ⟨bs, e1, e2⟩ := ih fun v hv => hl v (List.mem_cons_of_mem _ hv)
        obtain ⟨x, hx', rfl⟩ := hl v List.mem_cons_self
        obtain ⟨p, _, _, hp⟩ := hpk x hx'
        have e : pairOf H (Value.ref x.2.1) = p := pairOf_at hp
        refine ⟨x.2.1 :: bs, by rw [e1]; rfl, ?_⟩
        rw [List.map_cons, e]
        exact .cons hp e2
    obtain ⟨bs, eb, pb⟩ := adr out hout
    have hk2 : acc'.toList.map (pairOf H) = kk := by
      rw [ea, List.map_map]
      have e3 : kvs.map (·.1) = ks.map (·.1) := by
        have : ∀ {l : List (List Key × V)} {m : List (List Key × Addr × Value)}, Paired (fun (p : List Key × V) (q : List Key × Addr × Value) => p.1 = q.1 ∧ H q.2.1 = some (.tup (p.1.map kV)) ∧ RelV p.2 q.2.2) l m → l.map (·.1) = m.map (·.1) := by
          intro l m hh
          induction hh with
          | nil => rfl
          | cons r t ih => rw [List.map_cons, List.map_cons, ih, r.1]
        exact this pr
      rw [hkk] at e3
      have e4 : (ks.map ((pairOf H) ∘ fun x => Value.ref x.2.1)).map kPr = ks.map (·.1) := by
        rw [List.map_map]
        refine List.map_congr_left fun x hx' => ?_
        obtain ⟨p, _, e5, hp⟩ := hpk x hx'
        show kPr (pairOf H (Value.ref x.2.1)) = x.1
        rw [pairOf_at hp, e5]
      rw [← e3] at e4
      have inj : ∀ (a b : List (Int × Int)), a.map kPr = b.map kPr → a = b := by
        intro a
        induction a with
        | nil => intro b hb; cases b with
          | nil => rfl
          | cons => cases hb
        | cons x a ih => intro b hb; cases b with
          | nil => cases hb
          | cons y b =>
            rw [List.map_cons, List.map_cons] at hb
            injection hb with h1 h2
            rw [kPr_inj h1, ih b h2]
      exact inj _ _ e4
    have hzo : (bs.map V.ref).length ≤ sizeLine := by
      have e5 : bs.length = out.length := by rw [eb, List.length_map]
      rw [List.length_map, e5, hperm.length_eq]
      exact hz
    refine wpAny_pure ⟨_, rfl, .ref h'.objs.size, upd H h'.objs.size (.lst (bs.map V.ref)), I1.laid (t' := tk) (fun b u e => ?_) (Nat.le_refl _)
      (show ObjOk X.prog X.w _ _ _ (.lst (bs.map V.ref)) from ⟨hzo, out, e', by rw [eb]; exact vals_refs bs, he'⟩), rfl, q (out.map (pairOf H)) bs _ ?_ ?_ (I1.hok.fresh (Nat.le_refl _)) pb⟩
    · have hb : b < h'.objs.size := Heap.lt_size e
      rw [PyProof.Rows.sortedHeap_old (Nat.ne_of_lt hb) (by rw [size_push']; exact Nat.lt_succ_of_lt hb)]
      exact Heap.get?_push_of_some _ e
    · rw [← hk2]
      exact hperm.map _
    · exact List.pairwise_map.mpr hso
end
end L2

/-! ## DF -/
/-! Calls over new lists, dicts, methods, enumerate, zip. -/
namespace Dl
open PySem PySem.Spec PyProof.Rows L2 RZ
theorem bt_tuple : bootBuiltins "tuple" = some (.type "tuple") := by decide +kernel
theorem bt_list : bootBuiltins "list" = some (.type "list") := by decide +kernel
theorem bt_int : bootBuiltins "int" = some (.type "int") := by decide +kernel
theorem bt_bool : bootBuiltins "bool" = some (.type "bool") := by decide +kernel
theorem bt_str : bootBuiltins "str" = some (.type "str") := by decide +kernel
theorem bt_dict : bootBuiltins "dict" = some (.type "dict") := by decide +kernel
theorem bt_len : bootBuiltins "len" = some (.builtin "len") := by decide +kernel
theorem bt_all : bootBuiltins "all" = some (.builtin "all") := by decide +kernel
theorem bt_any : bootBuiltins "any" = some (.builtin "any") := by decide +kernel
theorem bt_max : bootBuiltins "max" = some (.builtin "max") := by decide +kernel
theorem bt_min : bootBuiltins "min" = some (.builtin "min") := by decide +kernel
theorem bt_sorted : bootBuiltins "sorted" = some (.builtin "sorted") := by decide +kernel
theorem bt_repr : bootBuiltins "repr" = some (.builtin "repr") := by decide +kernel
section
variable {X : Cx} {a b e o i : Expr} {es : List Expr} {pos apos cpos p2 : Pos} {ta tb to ti : DE} {t : DA}

/-! ### functions of a new list -/
def aTupL (t : DA) : DE := fun ρ μ Q => t ρ μ fun ds μ1 => Q (.tup ds) μ1
def aAllL (t : DA) : DE := fun ρ μ Q => t ρ μ fun ds μ1 => ∃ bs : List Bool, ds = bs.map .bl ∧ Q (.bl (bs.all id)) μ1
def aAnyL (t : DA) : DE := fun ρ μ Q => t ρ μ fun ds μ1 => ∃ bs : List Bool, ds = bs.map .bl ∧ Q (.bl (bs.any id)) μ1
def aMaxL (t : DA) : DE := fun ρ μ Q => t ρ μ fun ds μ1 => ∃ ns : List Int, ds = ns.map .int ∧ 0 < ns.length ∧ ∀ m, m ∈ ns → (∀ y, y ∈ ns → y ≤ m) → Q (.int m) μ1
theorem me_tupL {p : Pos} (hm : X.mg "tuple" = none) (h : ML X e t) (hg : Gl X "tuple" := by rfl) (hs : starEach [e] X.env = (false, eval e X.env) :: starEach [] X.env := by rfl) : ME X (.Call (.Name "tuple" p) [e] [] pos) (aTupL t) :=
  PE.imp (pe_callTy (T := "tuple") call_tuple_of hg hm bt_tuple (pa_cons h pa_nil hs) (by decide) (by decide) hs) fun σ H Q ⟨ρ, μ, Q', s, q, k⟩ => ⟨ρ, μ, _, s, q, fun ds p xs μ1 H1 s1 f1 hn _ hp i1 q1 =>
    ⟨p, xs, rfl, .inl ⟨SqL.of hp, fun l hl => k _ _ μ1 _ (s1.mono (Tk.new hl) (s1.re.new hl)) (f1.trans (Fr.newT hl)) (is_tup.mpr ⟨l, xs, rfl, upd_same, i1.mono (Tk.new hl)⟩) q1⟩⟩⟩
theorem me_allL {p : Pos} (hc : X.calm = true) (hm : X.mg "all" = none) (h : ML X e t) (hg : Gl X "all" := by rfl) (hs : starEach [e] X.env = (false, eval e X.env) :: starEach [] X.env := by rfl) : ME X (.Call (.Name "all" p) [e] [] pos) (aAllL t) :=
  PE.imp (pe_callB (id := "all") (cr_all hc) hg hm bt_all (pa_cons h pa_nil hs) (by decide) (by decide) hs) fun σ H Q ⟨ρ, μ, Q', s, q, k⟩ => ⟨ρ, μ, _, s, q, fun ds p xs μ1 H1 s1 f1 hn _ hp i1 ⟨bs, e, q1⟩ => by
    subst e
    have ev := i1.bls
    subst ev
    exact ⟨p, bs, rfl, SqL.of hp, k _ _ μ1 H1 s1 f1 (is_bl.mpr rfl) q1⟩⟩
theorem me_anyL {p : Pos} (hc : X.calm = true) (hm : X.mg "any" = none) (h : ML X e t) (hg : Gl X "any" := by rfl) (hs : starEach [e] X.env = (false, eval e X.env) :: starEach [] X.env := by rfl) : ME X (.Call (.Name "any" p) [e] [] pos) (aAnyL t) :=
  PE.imp (pe_callB (id := "any") (cr_any hc) hg hm bt_any (pa_cons h pa_nil hs) (by decide) (by decide) hs) fun σ H Q ⟨ρ, μ, Q', s, q, k⟩ => ⟨ρ, μ, _, s, q, fun ds p xs μ1 H1 s1 f1 hn _ hp i1 ⟨bs, e, q1⟩ => by
    subst e
    have ev := i1.bls
    subst ev
    exact ⟨p, bs, rfl, SqL.of hp, k _ _ μ1 H1 s1 f1 (is_bl.mpr rfl) q1⟩⟩
theorem me_maxL {p : Pos} (hc : X.calm = true) (hm : X.mg "max" = none) (h : ML X e t) (hg : Gl X "max" := by rfl) (hs : starEach [e] X.env = (false, eval e X.env) :: starEach [] X.env := by rfl) : ME X (.Call (.Name "max" p) [e] [] pos) (aMaxL t) :=
  PE.imp (pe_callB (id := "max") (cr_max hc) hg hm bt_max (pa_cons h pa_nil hs) (by decide) (by decide) hs) fun σ H Q ⟨ρ, μ, Q', s, q, k⟩ => ⟨ρ, μ, _, s, q, fun ds p xs μ1 H1 s1 f1 hn _ hp i1 ⟨ns, e, hl, q1⟩ => by
    subst e
    have ev := i1.ints
    subst ev
    exact ⟨p, ns, rfl, SqL.of hp, hl, fun m h1 h2 => k _ _ μ1 H1 s1 f1 (is_int.mpr rfl) (q1 m h1 h2)⟩⟩

/-! ### new lists: list(x), list(range(a, b)), sorted(d) -/
def aList (ta : DE) : DA := fun ρ μ Q => ta ρ μ fun x μ1 => match x with
  | .ref p => ∃ ds, μ1 p = some (.lst ds) ∧ Q ds μ1
  | x => ∃ ds, seqD x = some ds ∧ Q ds μ1
theorem ml_list {p : Pos} (hm : X.mg "list" = none) (h : ME X e ta) (hg : Gl X "list" := by rfl) (hs : starEach [e] X.env = (false, eval e X.env) :: starEach [] X.env := by rfl) : ML X (.Call (.Name "list" p) [e] [] pos) (aList ta) :=
  PE.imp (pe_callTy (T := "list") call_list_of hg hm bt_list (pa_cons h pa_nil hs) (by decide) (by decide) hs) fun σ H Q ⟨ρ, μ, Q', s, q, k⟩ => ⟨ρ, μ, _, s, q, fun d v μ1 H1 s1 f1 i1 q1 => by
    have seq : ∀ ds, seqD d = some ds → Q' ds μ1 → ∃ p ys, [v] = [V.ref p] ∧ (SqL X.K H1 p ys ∨ SqT X.K H1 p ys) ∧ ∀ l, H1 l = none → Q (.ref l) (upd H1 l (.lst ys)) := by
      intro ds e q2
      obtain ⟨p, vs, rfl, hp, hs⟩ := seqD_is (K := X.K) e i1
      exact ⟨p, vs, rfl, .inr hp, fun l hl => k _ _ _ μ1 _ (s1.mono (Tk.new hl) (s1.re.new hl)) (f1.trans (Fr.newT hl)) (s1.re.none_of hl) (f1.old l hl) upd_same (hs.mono (Tk.new hl)) q2⟩
    cases d with
    | ref p =>
      obtain ⟨ds, hm, q2⟩ := q1
      rw [is_ref] at i1
      subst i1
      obtain ⟨xs, hp, hs⟩ := s1.re p _ hm
      exact ⟨p, xs, rfl, .inl (SqL.of hp), fun l hl => k _ _ _ μ1 _ (s1.mono (Tk.new hl) (s1.re.new hl)) (f1.trans (Fr.newT hl)) (s1.re.none_of hl) (f1.old l hl) upd_same (hs.mono (Tk.new hl)) q2⟩
    | tup es => obtain ⟨ds, e, q2⟩ := q1; exact seq ds e q2
    | ftup es => obtain ⟨ds, e, q2⟩ := q1; exact seq ds e q2
    | non => obtain ⟨ds, e, q2⟩ := q1; exact seq ds e q2
    | bl _ => obtain ⟨ds, e, q2⟩ := q1; exact seq ds e q2
    | int _ => obtain ⟨ds, e, q2⟩ := q1; exact seq ds e q2
    | str _ => obtain ⟨ds, e, q2⟩ := q1; exact seq ds e q2⟩
def aListRg (ta tb : DE) : DA := fun ρ μ Q => ta ρ μ fun x μ1 => tb ρ μ1 fun y μ2 => ∃ i j, x = .int i ∧ y = .int j ∧ RgOk i j ∧ Q (rgD i (j - i).toNat) μ2
theorem rg_is {H : Hp} (lo hi : Int) : Iss H (rgD lo (hi - lo).toNat) (rgV lo hi) := Iss.map _ _ (fun _ => is_int.mpr rfl) _
theorem ml_listRg {p q r : Pos} (hc : X.calm = true) (hm : X.mg "list" = none) (hm2 : X.mg "range" = none) (ha : ME X a ta) (hb : ME X b tb) (hg : Gl X "list" := by rfl) (hg2 : Gl X "range" := by rfl)
    (h1 : starEach [a, b] X.env = (false, eval a X.env) :: starEach [b] X.env := by rfl) (h2 : starEach [b] X.env = (false, eval b X.env) :: starEach [] X.env := by rfl)
    (h4 : (backTo r (starEach [b] X.env)).any (·.1) = false := by rfl) (h3 : starEach [Expr.Call (.Name "range" q) [a, b] [] r] X.env = (false, eval (.Call (.Name "range" q) [a, b] [] r) X.env) :: starEach [] X.env := by rfl) : ML X (.Call (.Name "list" p) [.Call (.Name "range" q) [a, b] [] r] [] pos) (aListRg ta tb) :=
  PE.imp (pe_listRg hc hg hm (prg_2 hg2 hm2 ha hb h1 h2 h4) h3) fun σ H Q ⟨ρ, μ, Q', s, q, k⟩ => ⟨ρ, μ, _, s, q, fun d v μ1 H1 s1 f1 i1 q1 => ⟨ρ, μ1, _, s1, q1, fun d2 v2 μ2 H2 s2 f2 i2 ⟨i, j, e1, e2, ok, q2⟩ => by
    subst e1 e2
    exact ⟨i, j, is_int.mp i1, is_int.mp i2, ok, fun l hl => k _ _ _ μ2 _ (s2.mono (Tk.new hl) (s2.re.new hl)) ((f1.trans f2).trans (Fr.newT hl)) (s2.re.none_of hl) ((f1.trans f2).old l hl) upd_same (rg_is i j) q2⟩⟩⟩
def aSortK (ta : DE) : DA := fun ρ μ Q => ta ρ μ fun x μ1 => ∃ p kvs ks, x = .ref p ∧ μ1 p = some (.dK kvs) ∧ kvs.map (·.1) = ks.map Sum.inl ∧ ks.length < 64 ∧ ∀ ys : List Int, ys.Perm ks → ys.Pairwise (· ≤ ·) → Q (ys.map .int) μ1
theorem ml_sortK {p : Pos} (hc : X.calm = true) (hm : X.mg "sorted" = none) (h : ME X e ta) (hg : Gl X "sorted" := by rfl) (hs : starEach [e] X.env = (false, eval e X.env) :: starEach [] X.env := by rfl) : ML X (.Call (.Name "sorted" p) [e] [] pos) (aSortK ta) :=
  PE.imp (pe_callB (id := "sorted") (call_sortedDI hc) hg hm bt_sorted (pa_cons h pa_nil hs) (by decide) (by decide) hs) fun σ H Q ⟨ρ, μ, Q', s, q, k⟩ => ⟨ρ, μ, _, s, q, fun d v μ1 H1 s1 f1 i1 ⟨p, kvs, ks, e, hm, hk, hl, q1⟩ => by
    subst e
    rw [is_ref] at i1
    subst i1
    obtain ⟨ws, hp, hs⟩ := s1.re p _ hm
    exact ⟨p, ws, ks, rfl, .inl hp, by rw [← hs.keys]; exact hk, hl, fun ys l h1 h2 hl => k _ _ _ μ1 _ (s1.mono (Tk.new hl) (s1.re.new hl)) (f1.trans (Fr.newT hl)) (s1.re.none_of hl) (f1.old l hl) upd_same (Iss.map _ _ (fun _ => is_int.mpr rfl) _) (q1 ys h1 h2)⟩⟩
def prD (p : Int × Int) : D := .tup [.int p.1, .int p.2]
def aSortT (ta : DE) : DA := fun ρ μ Q => ta ρ μ fun x μ1 => ∃ (p : Addr) (kvs : List (List Key × D)) (ks : List (Int × Int)), x = .ref p ∧ μ1 p = some (.dT kvs) ∧ kvs.map (·.1) = ks.map kPr ∧ ∀ ys : List (Int × Int), ys.Perm ks → ys.Pairwise (fun a b => SrtO.lexB b a = false) → Q (ys.map prD) μ1
theorem prD_is {H : Hp} : ∀ {ys : List (Int × Int)} {bs : List Addr}, Paired (fun y b => H b = some (.tup [.int y.1, .int y.2])) ys bs → Iss H (ys.map prD) (bs.map V.ref)
  | _, _, .nil => iss_nil.mpr rfl
  | _, _, .cons r t => iss_cons.mpr ⟨_, _, rfl, is_tup.mpr ⟨_, _, rfl, r, iss_cons.mpr ⟨_, _, rfl, is_int.mpr rfl, iss_cons.mpr ⟨_, _, rfl, is_int.mpr rfl, iss_nil.mpr rfl⟩⟩⟩, prD_is t⟩
theorem ml_sortT {p : Pos} (hc : X.calm = true) (hm : X.mg "sorted" = none) (h : ME X e ta) (hg : Gl X "sorted" := by rfl) (hs : starEach [e] X.env = (false, eval e X.env) :: starEach [] X.env := by rfl) : ML X (.Call (.Name "sorted" p) [e] [] pos) (aSortT ta) :=
  PE.imp (pe_callB (id := "sorted") (cr_sortedDT hc) hg hm bt_sorted (pa_cons h pa_nil hs) (by decide) (by decide) hs) fun σ H Q ⟨ρ, μ, Q', s, q, k⟩ => ⟨ρ, μ, _, s, q, fun d v μ1 H1 s1 f1 i1 ⟨p, kvs, ks, e, hm, hk, q1⟩ => by
    subst e
    rw [is_ref] at i1
    subst i1
    obtain ⟨ws, hp, hs⟩ := s1.re p _ hm
    exact ⟨p, ws, ks, rfl, .inl hp, by rw [← hs.keys]; exact hk, fun ys bs l h1 h2 hl pb => k _ _ _ μ1 _ (s1.mono (Tk.new hl) (s1.re.new hl)) (f1.trans (Fr.newT hl)) (s1.re.none_of hl) (f1.old l hl) upd_same ((prD_is pb).mono (Tk.new hl)) (q1 ys h1 h2)⟩⟩

/-! ### dicts -/
def aNewK : DE := fun _ μ Q => ∀ p, μ p = none → Q (.ref p) (updM μ p (.dK []))
def aNewT : DE := fun _ μ Q => ∀ p, μ p = none → Q (.ref p) (updM μ p (.dT []))
theorem me_newK : ME X (.Dict [] [] pos) aNewK := PE.imp pe_dnewK fun σ H Q ⟨ρ, μ, Q', s, q, k⟩ p hp => k _ _ _ _ (s.mono (Tk.new hp) (s.re.newC hp (cDK (kvs := []) upd_same rfl))) (Fr.newC hp) (is_ref.mpr rfl) (q p (s.re.none_of hp))
theorem me_newT : ME X (.Dict [] [] pos) aNewT := PE.imp pe_dnewT fun σ H Q ⟨ρ, μ, Q', s, q, k⟩ p hp => k _ _ _ _ (s.mono (Tk.new hp) (s.re.newC hp (cDT (kvs := []) upd_same rfl))) (Fr.newC hp) (is_ref.mpr rfl) (q p (s.re.none_of hp))
/-- the pairs of a display, the keys ints and texts -/
def pairsA : List (DE × DE) → DEnv → Mu → (List (Key × D) → Mu → Prop) → Prop
  | [], _, μ, Q => Q [] μ
  | (tk, tv) :: r, ρ, μ, Q => tk ρ μ fun x μ1 => tv ρ μ1 fun y μ2 => pairsA r ρ μ2 fun ps μ3 => ∃ k, x = kD k ∧ Q ((k, y) :: ps) μ3
def mergeD (kvs more : List (Key × D)) : List (Key × D) := more.foldl (fun acc kv => putD acc kv.1 kv.2) kvs
def aDisp (trs : List (DE × DE)) : DE := fun ρ μ Q => ∀ p, μ p = none → pairsA trs ρ (updM μ p (.dK [])) fun kvs μ2 => μ2 p = some (.dK []) ∧ kvs.length ≤ 15 ∧ Q (.ref p) (updM μ2 p (.dK (mergeD [] kvs)))
abbrev liPs (trs : List (DE × DE)) : List (TE × TE) := trs.map fun t => (liE t.1, liE t.2)
theorem Kvs.merge {H : Hp} : ∀ {more : List (Key × D)} {rs : List (Key × V)} {kvs : List (Key × D)} {ws : List (Key × V)}, Kvs H more rs → Kvs H kvs ws → Kvs H (mergeD kvs more) (mergeK ws rs)
  | [], rs, kvs, ws, h, g => by
    have e : rs = [] := h
    subst e
    exact g
  | (k, d) :: r, rs, kvs, ws, h, g => by
    obtain ⟨v, t, rfl, i, hr⟩ := h
    show Kvs H (mergeD (putD kvs k d) r) (mergeK (putK ws k v) t)
    exact Kvs.merge hr (g.put k i)
theorem li_pairs {σ : L2.St} : ∀ {trs : List (DE × DE)} {ρ : DEnv} {μ : Mu} {H : Hp} {Q' : List (Key × D) → Mu → Prop} {R : List (V × V) → Hp → Prop}, S σ H ρ μ → pairsA trs ρ μ Q' →
    (∀ kvs ws μ' H', S σ H' ρ μ' → Fr μ H μ' H' → Kvs H' kvs ws → Q' kvs μ' → R (ws.map fun kv => (kV kv.1, kv.2)) H') → tPairs (liPs trs) σ H R
  | [], ρ, μ, H, Q', R, s, q, k => k [] [] μ H s Fr.refl rfl q
  | (tk, tv) :: r, ρ, μ, H, Q', R, s, q, k => ⟨ρ, μ, _, s, q, fun x vx μ1 H1 s1 f1 i1 q1 => ⟨ρ, μ1, _, s1, q1, fun y vy μ2 H2 s2 f2 i2 q2 => li_pairs s2 q2 fun kvs ws μ3 H3 s3 f3 i3 ⟨kk, e, q3⟩ => by
    subst e
    have ix := is_kD.mp ((i1.mono f2.tk).mono f3.tk)
    subst ix
    exact k ((kk, y) :: kvs) ((kk, vy) :: ws) μ3 H3 s3 ((f1.trans f2).trans f3) ⟨vy, ws, rfl, i2.mono f3.tk, i3⟩ q3⟩⟩
abbrev MPs (X : Cx) (pos : Pos) (keys : List (Option Expr)) (values : List Expr) (trs : List (DE × DE)) : Prop := PPs X pos keys values (liPs trs)
theorem mps_nil : MPs X pos [] [] [] := pps_nil
theorem mps_cons {k v : Expr} {ks : List (Option Expr)} {vs : List Expr} {tk tv : DE} {trs : List (DE × DE)} (hk : ME X k tk) (hv : ME X v tv) (hr : MPs X pos ks vs trs) : MPs X pos (some k :: ks) (v :: vs) ((tk, tv) :: trs) := pps_cons hk hv hr
theorem me_disp {keys : List (Option Expr)} {values : List Expr} {trs : List (DE × DE)} (h : MPs X pos keys values trs) (hall : keys.all (·.isSome) = true := by rfl) (hl : keys.length = values.length := by rfl) (h0 : keys ≠ [] := by (intro z; cases z))
    (h15 : keys.length ≤ 15 := by decide) : ME X (.Dict keys values pos) (aDisp trs) :=
  PE.imp (pe_disp h hall hl h0 h15) fun σ H Q ⟨ρ, μ, Q', s, q, k⟩ p hp => by
    have np := s.re.none_of hp
    have s1 : S σ (upd H p (.dK [])) ρ (updM μ p (.dK [])) := s.mono (Tk.new hp) (s.re.newC hp (cDK (kvs := []) upd_same rfl))
    refine li_pairs s1 (q p np) fun kvs ws μ2 H2 s2 f2 i2 ⟨e, hn, q2⟩ => ?_
    obtain ⟨w0, hp2, hw0⟩ := s2.re p _ e
    have hw : w0 = [] := hw0
    subst hw
    have tk := Tk.put (o := .dK (mergeK [] ws)) (s2.re p _ e)
    refine ⟨hp2, ws, rfl, by rw [← i2.len]; exact hn, ?_⟩
    have R3 := s2.re.put e (cDK (a := p) upd_same (Kvs.merge (i2.mono tk) (show Kvs (upd H2 p (.dK (mergeK [] ws))) [] [] from rfl)))
    exact k _ _ _ _ (s2.mono tk R3) ((Fr.newC hp).trans (f2.trans (Fr.put s2.re e))) (is_ref.mpr rfl) q2
/-- d.get(y), d.get(y, z) -/
def getDD (μ : Mu) (p : Addr) (y : D) (f : Option D → Prop) : Prop := match μ p with
  | some (.dK kvs) => ∃ k, y = kD k ∧ f (valD kvs k)
  | some (.dT kvs) => ∃ ks, y = .tup (ks.map kD) ∧ f (valD kvs ks)
  | _ => False
theorem getDD_ok {μ : Mu} {H : Hp} {p : Addr} {y : D} {v : V} {f : Option D → Prop} (R : Rel μ H) (i : Is H y v) (h : getDD μ p y f) : IsD H p ∧ ∃ o od, DGet H p v o ∧ f od ∧ (match od with
    | some d => ∃ w, o = some w ∧ Is H d w
    | none => o = none) := by
  unfold getDD at h
  cases hm : μ p with
  | none => simp only [hm] at h
  | some c =>
    cases c with
    | dK kvs =>
      simp only [hm] at h
      obtain ⟨k, rfl, q⟩ := h
      rw [is_kD] at i
      subst i
      obtain ⟨ws, hp, hs⟩ := R p _ hm
      refine ⟨.inl ⟨ws, .inl hp⟩, _, _, DGet.k (k := k) hp, q, ?_⟩
      have z := hs.val k
      exact z
    | dT kvs =>
      simp only [hm] at h
      obtain ⟨ks, rfl, q⟩ := h
      obtain ⟨b, rfl, hb⟩ := is_key i
      obtain ⟨ws, hp, hs⟩ := R p _ hm
      refine ⟨.inr ⟨ws, .inl hp⟩, _, _, DGet.t hp hb, q, ?_⟩
      have z := hs.val ks
      exact z
    | lst _ => simp only [hm] at h
    | zK _ _ _ => simp only [hm] at h
    | fL _ => simp only [hm] at h
def isDC (μ : Mu) (p : Addr) : Prop := match μ p with
  | some (.dK _) => True
  | some (.dT _) => True
  | _ => False
theorem isDC_ok {μ : Mu} {H : Hp} {p : Addr} (R : Rel μ H) (h : isDC μ p) : IsD H p := by
  unfold isDC at h
  cases hm : μ p with
  | none => simp only [hm] at h
  | some c =>
    cases c with
    | dK kvs => obtain ⟨ws, hp, hs⟩ := R p _ hm; exact .inl ⟨ws, .inl hp⟩
    | dT kvs => obtain ⟨ws, hp, hs⟩ := R p _ hm; exact .inr ⟨ws, .inl hp⟩
    | lst _ => simp only [hm] at h
    | zK _ _ _ => simp only [hm] at h
    | fL _ => simp only [hm] at h
def aGet1 (td ty : DE) : DE := fun ρ μ Q => td ρ μ fun x μ1 => ∃ p, x = .ref p ∧ isDC μ1 p ∧ ty ρ μ1 fun y μ2 => getDD μ2 p y fun od => Q (od.getD .non) μ2
def aGet2 (td ty tz : DE) : DE := fun ρ μ Q => td ρ μ fun x μ1 => ∃ p, x = .ref p ∧ isDC μ1 p ∧ ty ρ μ1 fun y μ2 => tz ρ μ2 fun z μ3 => getDD μ3 p y fun od => Q (od.getD z) μ3
theorem me_get1 {td ty : DE} (hu : X.A.units + 1 < cLine) (ho : ME X o td) (he : ME X e ty) (m : M1 X o "get" apos e cpos := by exact ⟨rfl, rfl, rfl, rfl⟩) : ME X (.Call (.Attribute o "get" apos) [e] [] cpos) (aGet1 td ty) :=
  PE.imp (pe_dget1 hu ho he m) fun σ H Q ⟨ρ, μ, Q', s, q, k⟩ => ⟨ρ, μ, _, s, q, fun d v μ1 H1 s1 f1 i1 ⟨p, e, hd, q1⟩ => by
    subst e
    refine ⟨p, is_ref.mp i1, isDC_ok s1.re hd, ρ, μ1, _, s1, q1, fun y vy μ2 H2 s2 f2 i2 q2 => ?_⟩
    obtain ⟨_, oo, od, g, q3, z⟩ := getDD_ok s2.re i2 q2
    refine ⟨oo, g, ?_⟩
    cases od with
    | none => subst z; exact k _ _ μ2 H2 s2 (f1.trans f2) (is_non.mpr rfl) q3
    | some d => obtain ⟨w, rfl, iw⟩ := z; exact k _ _ μ2 H2 s2 (f1.trans f2) iw q3⟩
theorem me_get2 {td ty tz : DE} {f : Expr} (hu : X.A.units + 1 < cLine) (ho : ME X o td) (he : ME X e ty) (hf : ME X f tz) (m : M2 X o "get" apos e f cpos := by exact ⟨rfl, rfl, rfl, rfl⟩) : ME X (.Call (.Attribute o "get" apos) [e, f] [] cpos) (aGet2 td ty tz) :=
  PE.imp (pe_dget2 hu ho he hf m) fun σ H Q ⟨ρ, μ, Q', s, q, k⟩ => ⟨ρ, μ, _, s, q, fun d v μ1 H1 s1 f1 i1 ⟨p, e, hd, q1⟩ => by
    subst e
    refine ⟨p, is_ref.mp i1, isDC_ok s1.re hd, ρ, μ1, _, s1, q1, fun y vy μ2 H2 s2 f2 i2 q2 => ⟨ρ, μ2, _, s2, q2, fun z vz μ3 H3 s3 f3 i3 q3 => ?_⟩⟩
    obtain ⟨_, oo, od, g, q4, zz⟩ := getDD_ok s3.re (i2.mono f3.tk) q3
    refine ⟨oo, g, ?_⟩
    have ff := (f1.trans f2).trans f3
    cases od with
    | none => subst zz; exact k _ _ μ3 H3 s3 ff i3 q4
    | some d => obtain ⟨w, rfl, iw⟩ := zz; exact k _ _ μ3 H3 s3 ff iw q4⟩

/-! ### methods of lists -/
def aApp (to te : DE) : DE := fun ρ μ Q => to ρ μ fun x μ1 => ∃ p, x = .ref p ∧ (∃ ds, μ1 p = some (.lst ds)) ∧ te ρ μ1 fun y μ2 => ∃ ds, μ2 p = some (.lst ds) ∧ ds.length < sizeLine ∧ Q .non (updM μ2 p (.lst (ds ++ [y])))
theorem tyL {μ : Mu} {H : Hp} {p : Addr} (R : Rel μ H) (h : ∃ ds, μ p = some (.lst ds)) : tyV X.K "list" (.ref p) H := by
  obtain ⟨ds, hm⟩ := h
  obtain ⟨xs, hp, _⟩ := R p _ hm
  exact .inl ⟨rfl, xs, SqL.of hp⟩
theorem me_append {te : DE} (ho : ME X o to) (he : ME X e te) (hbase : attributeBase o "append" X.env (eval o X.env) = eval o X.env := by rfl)
    (hfew : ((backTo cpos (starEach [e] X.env)).all (fun x => !x.1) && (backToKw cpos (keywordEach [] X.env)).all (fun x => x.1.isSome)
      && decide (([e] : List Expr).length + ([] : List Keyword).length + (if ([] : List Keyword).isEmpty then 0 else 1) < 30)) = true := by rfl)
    (hline : (apos.endLine == cpos.line) = true := by rfl) (hs : starEach [e] X.env = (false, eval e X.env) :: starEach [] X.env := by rfl) : ME X (.Call (.Attribute o "append" apos) [e] [] cpos) (aApp to te) :=
  PE.imp (pe_bm PySem.F.plainAttrs_list PySem.F.slot_list_append PySem.F.type_list_append mt_append ho (pa_cons he pa_nil hs) hbase hfew hline hs) fun σ H Q ⟨ρ, μ, Q', s, q, k⟩ => ⟨ρ, μ, _, s, q, fun d v μ1 H1 s1 f1 i1 ⟨p, e, hd, q1⟩ => by
    subst e
    rw [is_ref] at i1
    subst i1
    refine ⟨tyL s1.re hd, ρ, μ1, _, s1, q1, fun y vy μ2 H2 s2 f2 i2 ⟨ds, hm, hl, q2⟩ => ?_⟩
    obtain ⟨xs, hp, hss⟩ := s2.re p _ hm
    have tk := Tk.put (o := .lst (xs ++ [vy])) (s2.re p _ hm)
    refine ⟨p, xs, vy, rfl, rfl, hp, by rw [← hss.len]; exact hl, ?_⟩
    exact k _ _ _ _ (s2.mono tk (s2.re.put hm (cLst upd_same (Iss.app (hss.mono tk) (Iss.one (i2.mono tk)))))) ((f1.trans f2).trans (Fr.put s2.re hm)) (is_non.mpr rfl) q2⟩
/-- xs.pop(i), 0 ≤ i -/
def aPopAt (to te : DE) : DE := fun ρ μ Q => to ρ μ fun x μ1 => ∃ p, x = .ref p ∧ (∃ ds, μ1 p = some (.lst ds)) ∧ te ρ μ1 fun y μ2 => ∃ ds d, y = .int 0 ∧ μ2 p = some (.lst (d :: ds)) ∧ Q d (updM μ2 p (.lst ds))
theorem me_pop {te : DE} (ho : ME X o to) (he : ME X e te) (hbase : attributeBase o "pop" X.env (eval o X.env) = eval o X.env := by rfl)
    (hfew : ((backTo cpos (starEach [e] X.env)).all (fun x => !x.1) && (backToKw cpos (keywordEach [] X.env)).all (fun x => x.1.isSome)
      && decide (([e] : List Expr).length + ([] : List Keyword).length + (if ([] : List Keyword).isEmpty then 0 else 1) < 30)) = true := by rfl)
    (hline : (apos.endLine == cpos.line) = true := by rfl) (hs : starEach [e] X.env = (false, eval e X.env) :: starEach [] X.env := by rfl) : ME X (.Call (.Attribute o "pop" apos) [e] [] cpos) (aPopAt to te) :=
  PE.imp (pe_bm PySem.F.plainAttrs_list PySem.F.slot_list_pop PySem.F.type_list_pop mt_popAt ho (pa_cons he pa_nil hs) hbase hfew hline hs) fun σ H Q ⟨ρ, μ, Q', s, q, k⟩ => ⟨ρ, μ, _, s, q, fun d v μ1 H1 s1 f1 i1 ⟨p, e, hd, q1⟩ => by
    subst e
    rw [is_ref] at i1
    subst i1
    refine ⟨tyL s1.re hd, ρ, μ1, _, s1, q1, fun y vy μ2 H2 s2 f2 i2 ⟨ds, d0, ey, hm, q2⟩ => ?_⟩
    subst ey
    rw [is_int] at i2
    subst i2
    obtain ⟨xs, hp, hss⟩ := s2.re p _ hm
    obtain ⟨x0, xr, rfl, ix, ir⟩ := iss_cons.mp hss
    have tk := Tk.put (o := .lst xr) (s2.re p _ hm)
    refine ⟨p, _, 0, 0, x0, rfl, rfl, hp, by decide, by decide, ?_, rfl, ?_⟩
    · show seqIndex? 0 (xr.length + 1) = some 0
      exact seqIndex_of (by decide) (by omega)
    · show Q x0 (upd H2 p (.lst xr))
      exact k _ _ _ _ (s2.mono tk (s2.re.put hm (cLst upd_same (ir.mono tk)))) ((f1.trans f2).trans (Fr.put s2.re hm)) (ix.mono tk) q2⟩

/-! ### enumerate, zip -/
def enD : Nat → List D → List D
  | _, [] => []
  | n, d :: ds => .tup [.int (n : Int), d] :: enD (n + 1) ds
theorem enD_get : ∀ {n : Nat} {ds : List D} {i : Nat}, (enD n ds)[i]? = (ds[i]?).map fun d => .tup [.int ((n + i : Nat) : Int), d]
  | n, [], i => by simp [enD]
  | n, d :: ds, 0 => by simp [enD]
  | n, d :: ds, i + 1 => by
    simp only [enD, List.getElem?_cons_succ]
    rw [enD_get]
    have e : n + 1 + i = n + (i + 1) := by omega
    rw [e]
theorem enD_len : ∀ {n : Nat} {ds : List D}, (enD n ds).length = ds.length
  | n, [] => rfl
  | n, d :: ds => by simp [enD, enD_len]
theorem pair_is {H : Hp} {T : Addr} {d e : D} {v w : V} (h : H T = none) (i : Is H d v) (j : Is H e w) : Is (upd H T (.tup [v, w])) (.tup [d, e]) (.ref T) :=
  is_tup.mpr ⟨T, _, rfl, upd_same, iss_cons.mpr ⟨_, _, rfl, i.mono (Tk.new h), iss_cons.mpr ⟨_, _, rfl, j.mono (Tk.new h), iss_nil.mpr rfl⟩⟩⟩
theorem runs_enum {K : PySem.W.Frag} {p : Addr} {ds : List D} {μ0 : Mu} {H0 : Hp} : Runs (Ite K p) ⟨enD 0 ds, fun μ => μ p = some (.lst ds)⟩ μ0 H0 := by
  intro i H μ f R st
  obtain ⟨xs, hp, hs⟩ := R p _ st
  have hl := hs.len
  refine ⟨fun h => ⟨xs, SqL.of hp, by rw [← hl]; simpa [enD_len] using h⟩, fun d hd => ?_⟩
  rw [show (Sq.items ⟨enD 0 ds, fun μ => μ p = some (.lst ds)⟩) = enD 0 ds from rfl, enD_get] at hd
  obtain ⟨e, he, rfl⟩ := Option.map_eq_some_iff.mp hd
  obtain ⟨x, hx, ix⟩ := hs.get he
  refine ⟨⟨xs, x, SqL.of hp, hx⟩, fun y H' yl => ?_⟩
  obtain ⟨T, z, rfl, hT, rfl, hz⟩ := yl
  have e2 := hz xs (SqL.of hp)
  rw [hx] at e2
  cases e2
  rw [Nat.zero_add]
  exact ⟨pair_is hT (is_int.mpr rfl) ix, R.new hT, Fr.newT hT⟩
theorem seqD_rd {H : Hp} {d : D} {ds : List D} {v : V} (h : seqD d = some ds) (i : Is H d v) : ∃ a vs, v = .ref a ∧ Rd H a (.tup vs) ∧ Iss H ds vs := by
  cases d with
  | tup es =>
    cases h
    obtain ⟨a, vs, e, ha, hs⟩ := is_tup.mp i
    exact ⟨a, vs, e, .inl ha, hs⟩
  | ftup es =>
    cases h
    obtain ⟨a, o, vs, e, ha, _, hs⟩ := is_ftup.mp i
    exact ⟨a, vs, e, .inr ⟨o, ha⟩, hs⟩
  | _ => cases h
theorem runs_enumT {a : Addr} {d0 : D} {ds : List D} {μ0 : Mu} {H0 : Hp} (h : seqD d0 = some ds) (i0 : Is H0 d0 (.ref a)) : Runs (IteT a) ⟨enD 0 ds, fun _ => True⟩ μ0 H0 := by
  intro i H μ f R st
  obtain ⟨b, xs, e, hp, hs⟩ := seqD_rd h (i0.mono f.tk)
  cases e
  have hl := hs.len
  refine ⟨fun h => ⟨xs, hp, by rw [← hl]; simpa [enD_len] using h⟩, fun d hd => ?_⟩
  rw [show (Sq.items ⟨enD 0 ds, fun _ => True⟩) = enD 0 ds from rfl, enD_get] at hd
  obtain ⟨e, he, rfl⟩ := Option.map_eq_some_iff.mp hd
  obtain ⟨x, hx, ix⟩ := hs.get he
  refine ⟨⟨xs, x, hp, hx⟩, fun y H' yl => ?_⟩
  obtain ⟨T, z, rfl, hT, rfl, hz⟩ := yl
  have e2 := hz xs hp
  rw [hx] at e2
  cases e2
  rw [Nat.zero_add]
  exact ⟨pair_is hT (is_int.mpr rfl) ix, R.new hT, Fr.newT hT⟩
def aEnum (ta : DE) : DI := fun ρ μ Q => ta ρ μ fun d μ1 => match d with
  | .ref p => ∃ ds, μ1 p = some (.lst ds) ∧ Q ⟨enD 0 ds, fun μ => μ p = some (.lst ds)⟩ μ1
  | d => ∃ ds, seqD d = some ds ∧ Q ⟨enD 0 ds, fun _ => True⟩ μ1
theorem mi_enum {p tpos : Pos} {elts : List Expr} {kk : Nat} (hm : X.mg "enumerate" = none) (ha : ME X e ta) (hg : Gl X "enumerate" := by rfl) (hs : starEach [e] X.env = (false, eval e X.env) :: starEach [] X.env := by rfl) (hs1 : starEach [e] X.env = [(false, eval e X.env)] := by rfl) :
    MI X (.Tuple elts kk tpos) (.Call (.Name "enumerate" p) [e] [] pos) (aEnum ta) := by
  refine ⟨fun pins s σ H R I h => ?_⟩
  obtain ⟨ρ, μ, Q', st, q, k⟩ := h
  refine Call_ (ld_blt I hg hm boot_enumerate (PyProof.Rows.callWith_type1 (thn ((pa_cons ha pa_nil hs).run pos pins s σ H (fun vs H1 => ∃ v d μ1, vs = [v] ∧ S σ H1 ρ μ1 ∧ Fr μ H μ1 H1 ∧ Is H1 d v ∧ (match d with
    | .ref p => ∃ ds, μ1 p = some (.lst ds) ∧ Q' ⟨enD 0 ds, fun μ => μ p = some (.lst ds)⟩ μ1
    | d => ∃ ds, seqD d = some ds ∧ Q' ⟨enD 0 ds, fun _ => True⟩ μ1)) I ⟨ρ, μ, _, st, q, fun d v μ1 H1 s1 f1 i1 q1 => ⟨v, d, μ1, rfl, s1, f1, i1, q1⟩⟩) fun us s1 hh => ?_) hs1 rfl))
  obtain ⟨vs, H1, I1, r1, v, d, μ1, ev, S1, f1, i1, q1⟩ := hh
  subst ev
  obtain ⟨u, rfl, r⟩ := vals1 r1
  have hle2 : ∀ b ∈ [s1.heap.objs.size + 1, s1.heap.objs.size], FpOk X pins H1 b := fun b hb => by
    have e' : b = s1.heap.objs.size + 1 ∨ b = s1.heap.objs.size := by simpa using hb
    have hle : s1.heap.objs.size ≤ b := by
      rcases e' with z | z
      · rw [z]; exact Nat.le_add_right _ _
      · rw [z]; exact Nat.le_refl _
    exact I1.fpOk hle (I1.hok.fresh hle)
  have tup : ∀ ds, seqD d = some ds → Q' ⟨enD 0 ds, fun _ => True⟩ μ1 → wpAny (model X.prog X.w) X.A (call (.type "enumerate") [u]) (fun v s₁ => wpAny (model X.prog X.w) X.A (pyIter v) (PIE X pins σ (.Tuple elts kk tpos) R) X.xe s₁) X.xe s1 := by
    intro ds e q2
    obtain ⟨a, vs, rfl, ha, hss⟩ := seqD_rd e i1
    cases r
    obtain ⟨its, rv, p', hz⟩ := I1.tuple (X := X) (.inl ha)
    refine cs_call_enumerate_tuple (show s1.heap.IsTuple a its.toArray from p') fun h' he hit hsz hk => wpAny_pyIter_enum he ?_
    have I2 : Inv X pins σ H1 { s1 with heap := h' } := I1.kept (t' := s1.toks) hk
    exact ⟨s1.heap.objs.size + 1, [s1.heap.objs.size + 1, s1.heap.objs.size], _, _, H1, rfl, I2, turn_enumT a (s1.heap.objs.size + 1) s1.heap.objs.size, ⟨⟨.none, he⟩, hit, Nat.succ_ne_self _⟩, hle2, k _ _ μ1 H1 S1 f1 (runs_enumT e i1) True.intro q2⟩
  cases d with
  | ref pp =>
    obtain ⟨ds, hm, q2⟩ := q1
    rw [is_ref] at i1
    subst i1
    cases r
    obtain ⟨xs, hp, hss⟩ := S1.re pp _ hm
    obtain ⟨its, rv, p', hz⟩ := I1.list (SqL.of (K := X.K) hp)
    refine call_enumerate_list p'.isList fun h' he hit hsz hk => wpAny_pyIter_enum he ?_
    have I2 : Inv X pins σ H1 { s1 with heap := h' } := I1.kept (t' := s1.toks) hk
    exact ⟨s1.heap.objs.size + 1, [s1.heap.objs.size + 1, s1.heap.objs.size], _, _, H1, rfl, I2, turn_enum pp (s1.heap.objs.size + 1) s1.heap.objs.size, ⟨⟨.none, he⟩, hit, Nat.succ_ne_self _⟩, hle2, k _ _ μ1 H1 S1 f1 runs_enum hm q2⟩
  | tup es => obtain ⟨ds, e, q2⟩ := q1; exact tup ds e q2
  | ftup es => obtain ⟨ds, e, q2⟩ := q1; exact tup ds e q2
  | non => obtain ⟨ds, e, q2⟩ := q1; exact tup ds e q2
  | bl _ => obtain ⟨ds, e, q2⟩ := q1; exact tup ds e q2
  | int _ => obtain ⟨ds, e, q2⟩ := q1; exact tup ds e q2
  | str _ => obtain ⟨ds, e, q2⟩ := q1; exact tup ds e q2
/-- zip of two tuples of one length -/
def zpD : List D → List D → List D
  | d :: ds, e :: es => .tup [d, e] :: zpD ds es
  | _, _ => []
theorem zpD_get : ∀ {ds es : List D} {i : Nat} {z : D}, (zpD ds es)[i]? = some z → ∃ d e, ds[i]? = some d ∧ es[i]? = some e ∧ z = .tup [d, e]
  | d :: ds, e :: es, 0, z, h => by
    simp only [zpD, List.getElem?_cons_zero, Option.some.injEq] at h
    exact ⟨d, e, rfl, rfl, h.symm⟩
  | d :: ds, e :: es, i + 1, z, h => by
    simp only [zpD, List.getElem?_cons_succ] at h
    obtain ⟨d', e', h1, h2, h3⟩ := zpD_get h
    exact ⟨d', e', by simpa using h1, by simpa using h2, h3⟩
  | [], es, i, z, h => by simp [zpD] at h
  | d :: ds, [], i, z, h => by simp [zpD] at h
theorem zpD_len : ∀ {ds es : List D}, (zpD ds es).length = min ds.length es.length
  | d :: ds, e :: es => by simp only [zpD, List.length_cons, zpD_len]; omega
  | [], es => by simp [zpD]
  | d :: ds, [] => by simp [zpD]
theorem runs_zipT {K : PySem.W.Frag} {a b : Addr} {d1 d2 : D} {ds es : List D} {μ0 : Mu} {H0 : Hp} (h1 : seqD d1 = some ds) (h2 : seqD d2 = some es) (i1 : Is H0 d1 (.ref a)) (i2 : Is H0 d2 (.ref b)) : Runs (ItzT K a b) ⟨zpD ds es, fun _ => True⟩ μ0 H0 := by
  intro i H μ f R st
  obtain ⟨xs, hp, hs⟩ := Is.tupK (K := K) h1 i1 f.tk
  obtain ⟨ys, hq, ht⟩ := Is.tupK (K := K) h2 i2 f.tk
  refine ⟨fun h => ⟨xs, ys, hp, hq, ?_⟩, fun d hd => ?_⟩
  · have h' : min ds.length es.length ≤ i := by simpa [zpD_len] using h
    rw [← hs.len, ← ht.len]
    omega
  · obtain ⟨d, e, hd1, hd2, rfl⟩ := zpD_get hd
    obtain ⟨x, hx, ix⟩ := hs.get hd1
    obtain ⟨y, hy, iy⟩ := ht.get hd2
    refine ⟨⟨xs, ys, x, y, hp, hq, hx, hy⟩, fun v H' yl => ?_⟩
    obtain ⟨T, z1, z2, rfl, hT, rfl, hz1, hz2⟩ := yl
    have e1 := hz1 xs hp
    have e2 := hz2 ys hq
    rw [hx] at e1
    rw [hy] at e2
    cases e1
    cases e2
    exact ⟨pair_is hT ix iy, R.new hT, Fr.newT hT⟩
def aZip (t : DA) : DI := fun ρ μ Q => t ρ μ fun vs μ1 => ∃ d1 d2 ds es, vs = [d1, d2] ∧ seqD d1 = some ds ∧ seqD d2 = some es ∧ Q ⟨zpD ds es, fun _ => True⟩ μ1
theorem mi_zip {p tpos : Pos} {e2 : Expr} {elts : List Expr} {kk : Nat} (hm : X.mg "zip" = none) (ha : MAn X 2 [e, e2] t) (hg : Gl X "zip" := by rfl) (hs : starEach [e, e2] X.env = (false, eval e X.env) :: starEach [e2] X.env := by rfl) (hpl : (backTo pos (starEach [e2] X.env)).any (·.1) = false := by rfl) :
    MI X (.Tuple elts kk tpos) (.Call (.Name "zip" p) [e, e2] [] pos) (aZip t) :=
  PI.imp (pi_zipA hg hm ha hs hpl) fun σ H R ⟨ρ, μ, Q', s, q, k⟩ => ⟨ρ, μ, _, s, q, fun ds vs μ1 H1 _ s1 f1 i1 ⟨d1, d2, es, fs, e, h1, h2, q1⟩ => by
    subst e
    obtain ⟨v, w, rfl, j1, j2⟩ := two_of i1
    obtain ⟨a, xs, rfl, ha, _⟩ := seqD_is (K := X.K) h1 j1
    obtain ⟨b, ys, rfl, hb, _⟩ := seqD_is (K := X.K) h2 j2
    exact ⟨a, b, xs, ys, rfl, .inr ⟨ha, hb, k _ _ μ1 H1 s1 f1 (runs_zipT h1 h2 j1 j2) True.intro q1⟩⟩⟩
/-- a text, sign by sign -/
def sgD (x : Str) : List D := x.cps.toList.map fun c => .str ⟨#[c]⟩
def aStrI (ta : DE) : DI := fun ρ μ Q => ta ρ μ fun d μ1 => ∃ x, d = .str x ∧ Q ⟨sgD x, fun _ => True⟩ μ1
theorem mi_str {tg : Expr} (h : ME X e ta) : MI X tg e (aStrI ta) :=
  PI.imp (pi_str h) fun σ H R ⟨ρ, μ, Q', s, q, k⟩ => ⟨ρ, μ, _, s, q, fun d v μ1 H1 s1 f1 i1 ⟨x, e, q1⟩ => by
    subst e
    refine ⟨x, is_str.mp i1, k _ _ μ1 H1 s1 f1 ?_ True.intro q1⟩
    intro i H μ f R st
    refine ⟨fun h => ?_, fun d hd => ?_⟩
    · have h' : x.cps.size ≤ i := by simpa [sgD] using h
      exact h'
    · rw [show (Sq.items ⟨sgD x, fun _ => True⟩) = sgD x from rfl] at hd
      unfold sgD at hd
      rw [List.getElem?_map] at hd
      obtain ⟨c, hc, rfl⟩ := Option.map_eq_some_iff.mp hd
      obtain ⟨hlt, _⟩ := List.getElem?_eq_some_iff.mp hc
      refine ⟨(show i < x.cps.size by simpa using hlt), fun y H' yl => ?_⟩
      obtain ⟨rfl, c', hc', rfl⟩ := yl
      have e2 : c' = c := by
        rw [Array.getElem?_toList] at hc
        rw [hc] at hc'
        exact (Option.some.inj hc').symm
      subst e2
      exact ⟨is_str.mpr rfl, R, Fr.refl⟩⟩
end
end Dl

/-! ## DG -/
/-! The last rules: an item of a written list; walks of a locked dict; a tuple without a dict of its own. -/
namespace Dl
open PySem PySem.Spec PyProof.Rows L2 RZ
section
variable {X : Cx} {a b e o i : Expr} {es : List Expr} {pos apos cpos p2 : Pos} {ta tb to ti : DE} {t : DA}
/-- [a, b, ..][i] -/
def aIxL (t : DA) (tb : DE) : DE := fun ρ μ Q => t ρ μ fun ds μ1 => tb ρ μ1 fun y μ2 => ∃ i d, y = .int i ∧ atI ds i = some d ∧ Q d μ2
theorem me_ixL (ha : ML X a t) (hb : ME X b tb) (hs : PlainIx b := by exact fun _ _ => rfl) : ME X (.Subscript a b pos) (aIxL t tb) :=
  PE.imp (pe_ix ix_list ha hb hs) fun σ H Q ⟨ρ, μ, Q', s, q, k⟩ => ⟨ρ, μ, _, s, q, fun ds p xs μ1 H1 s1 f1 hn _ hp i1 q1 => ⟨ρ, μ1, _, s1, q1, fun d v μ2 H2 s2 f2 i2 ⟨i, d0, e, ha, q2⟩ => by
    subst e
    rw [is_int] at i2
    subst i2
    have hp2 := f2.keep p _ hn hp
    obtain ⟨j, h1, h2⟩ := atD i1.len ha
    obtain ⟨w, hw, iw⟩ := i1.get h1
    exact ⟨p, xs, i, w, rfl, rfl, SqL.of hp2, h2 w hw, k _ _ μ2 H2 s2 (f1.trans f2) (iw.mono f2.tk) q2⟩⟩⟩

/-! ### a comprehension over a dict's keys -/
theorem Fr.lockK {μ : Mu} {H : Hp} {d : Addr} {ob : Obj} {ws : List (Key × V)} {c : C} {kvs : List (Key × D)} (R : Rel μ H) (hm : μ d = some (.dK kvs)) : Fr μ H (updM μ d c) (upd H d (.frz ob (.dK ws))) :=
  ⟨fun b u hb e => (by rw [upd_ne (by intro z; subst z; rw [hm] at hb; cases hb)]; exact e), fun a e => (by
    by_cases ha : a = d
    · subst ha; exact .inl (by rw [hm]; simp)
    · rw [updM_ne ha] at e; exact .inl e), Tk.put (R d _ hm), fun _ z => upd_old z⟩
/-- a list from a walk over a dict's keys: within, the dict is locked -/
def aKeysLc (td : DE) (g : DG) (tt : DT) (te : DE) (vs : List Nat) : DA := fun ρ μ K => ∃ d kvs, μ d = some (.dK kvs) ∧ ∀ ob ws, td ρ (updM μ d (.zK ob ws kvs)) fun x μ1 => x = .ref d ∧ μ1 d = some (.zK ob ws kvs) ∧
  lcLoop (fun μ => μ d = some (.zK ob ws kvs)) g tt te (wipeD ρ vs) (kvs.map fun kv => kD kv.1) [] μ1 fun ds μ2 => μ2 d = some (.zK ob ws kvs) ∧ K ds (updM μ2 d (.dK kvs))
theorem kvs_at {H : Hp} : ∀ {kvs : List (Key × D)} {ws : List (Key × V)} {i : Nat}, Kvs H kvs ws → (kvs.map fun kv => kD kv.1)[i]? = (ws[i]?).map fun kv => kD kv.1
  | [], ws, i, h => by
    have e : ws = [] := h
    subst e
    simp
  | (k, d) :: r, ws, i, h => by
    obtain ⟨v, t, rfl, _, hr⟩ := h
    cases i with
    | zero => rfl
    | succ i => simpa using kvs_at (i := i) hr
theorem runs_keys {d : Addr} {ob : Obj} {kvs : List (Key × D)} {ws : List (Key × V)} {μ0 : Mu} {H0 : Hp} : Runs (Itk d ob ws) ⟨kvs.map fun kv => kD kv.1, fun μ => μ d = some (.zK ob ws kvs)⟩ μ0 H0 := by
  intro i H μ f R st
  obtain ⟨hp, hs⟩ := R d _ st
  have hl := hs.len
  refine ⟨fun h => ⟨hp, by rw [← hl]; simpa using h⟩, fun e he => ?_⟩
  have he' : (kvs.map fun kv => kD kv.1)[i]? = some e := he
  rw [kvs_at hs] at he'
  obtain ⟨kv, hk, rfl⟩ := Option.map_eq_some_iff.mp he'
  obtain ⟨h1, _⟩ := List.getElem?_eq_some_iff.mp hk
  refine ⟨⟨hp, h1⟩, fun x H' yl => ?_⟩
  obtain ⟨rfl, k, v, e2, rfl⟩ := yl
  rw [hk] at e2
  have e3 : kv = (k, v) := Option.some.inj e2
  subst e3
  exact ⟨is_kD.mpr rfl, R, Fr.refl⟩
theorem ml_keysLc {elt tg : Expr} {ifs : List Expr} {scope : Scope} {own : List (Str × Nat)} {td : DE} {g : DG} {tt : DT} {te : DE} {I : List Nat} (hc : X.calm = true) (hN : X.N.Nodup) (hd : ME X e td) (ok : BlkOk X.N X.env.scope scope own)
    (hg : ∀ (s : Shared) (H : Hp) (C : Addr) (cl : List (Str × Addr)) (fp : List Addr), MG (X.blk s H scope (compEnvC scope cl C X.env) fp) tg I g) (ht : ∀ (s : Shared) (H : Hp) (C : Addr) (cl : List (Str × Addr)) (fp : List Addr), MTs (X.blk s H scope (compEnvC scope cl C X.env) fp) ifs tt)
    (he : ∀ (s : Shared) (H : Hp) (C : Addr) (cl : List (Str × Addr)) (fp : List Addr), ME (X.blk s H scope (compEnvC scope cl C X.env) fp) elt te) (hI : ∀ i ∈ I, i ∈ own.map (·.2) := by decide) (hs : ∀ x, foldedSetIterable e X.env x = pure x := by intro _; rfl) :
    ML X (.ListComp elt [⟨tg, e, ifs, 0⟩] scope pos) (aKeysLc td g tt te (own.map (·.2))) :=
  PE.imp (pe_lock (pe_lc hc hN (pi_keys hd) ok hg ht he hs)) fun σ H Q ⟨ρ, μ, Q', s, ⟨d, kvs, hm, q⟩, k⟩ => by
    obtain ⟨ws, hp, hk⟩ := s.re d _ hm
    refine ⟨d, .dK ws, hp, True.intro, fun ob => ?_⟩
    have tk0 : Tk H (upd H d (.frz ob (.dK ws))) := Tk.put (s.re d _ hm)
    have s0 : S σ (upd H d (.frz ob (.dK ws))) ρ (updM μ d (.zK ob ws kvs)) := s.mono tk0 (s.re.put hm (show CIs _ (.zK ob ws kvs) d from ⟨upd_same, hk.mono tk0⟩))
    have f0 : Fr μ H (updM μ d (.zK ob ws kvs)) (upd H d (.frz ob (.dK ws))) := Fr.put s.re hm
    -- the comprehension itself, over an iterator that is given
    let î : DI := fun ρ' μ' R => td ρ' μ' fun x μ1 => x = .ref d ∧ μ1 d = some (.zK ob ws kvs) ∧ R ⟨kvs.map fun kv => kD kv.1, fun μ => μ d = some (.zK ob ws kvs)⟩ μ1
    have hi : ∀ σ H R, liI î σ H R → iKeys (liE td) σ H R := fun σ H R ⟨ρ, μ, R', s, q, k⟩ => ⟨ρ, μ, _, s, q, fun x v μ1 H1 s1 f1 i1 ⟨e, hm1, q1⟩ => by
      subst e
      obtain ⟨hp1, _⟩ := s1.re d _ hm1
      exact ⟨d, ob, is_ref.mp i1, .inl ⟨ws, hp1, k _ _ μ1 H1 s1 f1 runs_keys hm1 q1⟩⟩⟩
    have lc := li_lc (i := î) (g := g) (tt := tt) (te := te) (I := I) (vs := own.map (·.2)) (σ := σ) (H := upd H d (.frz ob (.dK ws))) (Q := fun v H' => H' d = some (.frz ob (.dK ws)) ∧ Q v (upd H' d (.dK ws))) hI
      ⟨ρ, _, _, s0, (show aLc î g tt te (own.map (·.2)) ρ (updM μ d (.zK ob ws kvs)) (fun ds μ2 => μ2 d = some (.zK ob ws kvs) ∧ Q' ds (updM μ2 d (.dK kvs))) from q ob ws), fun ds p xs μ' H' s' f' hn hp0 hpp ix ⟨hz, q'⟩ => by
        obtain ⟨h1, h2⟩ := s'.re d _ hz
        refine ⟨h1, ?_⟩
        have hpd : p ≠ d := fun e => by subst e; rw [hn] at hz; cases hz
        have tk1 : Tk H' (upd H' d (.dK ws)) := Tk.put (s'.re d _ hz)
        refine k ds p xs _ _ (s'.mono tk1 (s'.re.put hz (cDK upd_same (h2.mono tk1)))) ((f0.trans f').trans (Fr.put s'.re hz)) (by rw [updM_ne hpd]; exact hn) (upd_old hp0) (by rw [upd_ne hpd]; exact hpp) (ix.mono tk1) q'⟩
    -- from one iterator to the other
    have mono : ∀ {σ H Q} {wi wi' : TI}, (∀ σ H R, wi σ H R → wi' σ H R) → tLc wi (liG I g) (liT tt) (liE te) (own.map (·.2)) σ H Q → tLc wi' (liG I g) (liT tt) (liE te) (own.map (·.2)) σ H Q := fun h z => h _ _ _ z
    exact mono hi lc
/-! ### t + u, kept as a tuple that has no dict -/
theorem Vals.nil_iff' {xs : List V} {us : List Value} (r : Vals xs us) : us = [] ↔ xs = [] := Vals.nil_iff r
def rCatF : DR2 := fun x y μ Q => ∃ a b, x = .tup a ∧ y = .tup b ∧ a ≠ [] ∧ a.length + b.length ≤ sizeLine ∧ ∀ d, (d = .tup (a ++ b) ∧ b = [] ∨ d = .ftup (a ++ b)) → Q d μ
end
end Dl

/-! ## DI1 -/
namespace Dl
open PySem PySem.Spec PyProof.Rows L2 RZ
section
variable {X : Cx} {a b e o i : Expr} {es : List Expr} {pos apos cpos p2 : Pos} {ta tb to ti : DE} {t : DA}
def aTupF (t : DA) : DE := fun ρ μ Q => t ρ μ fun ds μ1 => Q (.ftup ds) μ1
theorem me_tupF {n k1 : Nat} (h : MAn X n es t) (hn : n ≤ 1000 := by decide) : ME X (.Tuple es k1 pos) (aTupF t) := by
  refine ⟨fun pins s σ H Q I hq => ?_⟩
  obtain ⟨ρ, μ, Q', st, q, k⟩ := hq
  refine wpAny_Tuple_spliced (thn (h.run pos pins s σ H (fun vs H1 => ∃ ds μ1, S σ H1 ρ μ1 ∧ Fr μ H μ1 H1 ∧ Iss H1 ds vs ∧ ds.length = n ∧ Q' (.ftup ds) μ1) I ⟨ρ, μ, _, st, q, fun ds vs μ1 H1 hl s1 f1 i1 q1 => ⟨ds, μ1, s1, f1, i1, hl, q1⟩⟩) fun us s1 hh => ?_)
  obtain ⟨xs, H1, I1, r, ds, μ1, S1, f1, i1, hl, q1⟩ := hh
  have z : xs.length ≤ sizeLine := by rw [← i1.len, hl]; exact sl1000 hn
  refine ⟨by rw [← r.length]; exact z, ?_⟩
  have hf : H1 s1.heap.objs.size = none := I1.hok.fresh (Nat.le_refl _)
  refine ⟨.ref s1.heap.objs.size, upd H1 s1.heap.objs.size (.frz ⟨.type "tuple", none, .seq us.toArray 0, #[]⟩ (.tup xs)), I1.laid (t' := s1.toks) (fun b u e => Heap.get?_push_of_some _ e) (Nat.le_refl _) ?_, rfl, ?_⟩
  · exact ⟨Heap.get?_push_size _ rfl, z, us, r, ⟨_, Heap.get?_push_size _ rfl, rfl, _, rfl⟩⟩
  · exact k _ _ μ1 _ (S1.mono (Tk.new hf) (S1.re.new hf)) (f1.trans (Fr.newT hf)) (is_ftup.mpr ⟨_, _, xs, rfl, upd_same, rfl, i1.mono (Tk.new hf)⟩) q1
def lpD (p : Int × Str) : D := .tup [.int p.1, .str p.2]
def rDictP : DRs := fun ds μ Q => ∃ p, ∃ ls : List (Int × Str), ds = [.ref p] ∧ μ p = some (.lst (ls.map lpD)) ∧ ∀ q, μ q = none → Q (.ref q) (updM μ q (.dK (mergeD [] (ls.map fun l => (Sum.inl l.1, .str l.2)))))
theorem lp_paired {K : PySem.W.Frag} {H : Hp} : ∀ {ls : List (Int × Str)} {vs : List V}, Iss H (ls.map lpD) vs → ∃ ps : List Addr, vs = ps.map V.ref ∧ Paired (fun p (kv : Key × V) => SqT K H p [kV kv.1, kv.2]) ps (ls.map fun l => (Sum.inl l.1, V.str l.2))
  | [], vs, h => ⟨[], iss_nil.mp h, .nil⟩
  | l :: ls, vs, h => by
    obtain ⟨v, r, rfl, hd, hs⟩ := iss_cons.mp h
    obtain ⟨a, ws, rfl, ha, hw⟩ := is_tup.mp hd
    obtain ⟨v1, r1, rfl, g1, g2⟩ := iss_cons.mp hw
    obtain ⟨v2, r2, rfl, g3, g4⟩ := iss_cons.mp g2
    rw [is_int.mp g1, is_str.mp g3, iss_nil.mp g4] at ha
    obtain ⟨ps, rfl, hp⟩ := lp_paired (K := K) hs
    exact ⟨a :: ps, rfl, .cons (SqT.of ha) hp⟩
theorem lp_kvs {H : Hp} : ∀ (ls : List (Int × Str)), Kvs H (ls.map fun l => ((Sum.inl l.1 : Key), D.str l.2)) (ls.map fun l => ((Sum.inl l.1 : Key), V.str l.2))
  | [] => rfl
  | l :: ls => ⟨_, _, rfl, is_str.mpr rfl, lp_kvs ls⟩
theorem mc_dict (hc : X.calm = true) : MC X (.type "dict") rDictP := CallR.imp (call_dictP hc) fun xs H Q ⟨ds, μ, Q', i, re, ⟨p, ls, e, hm, q⟩, k⟩ => by
  subst e
  obtain ⟨v, rfl, iv⟩ := one_of i
  rw [is_ref] at iv
  subst iv
  obtain ⟨vs, hp, hs⟩ := re p _ hm
  obtain ⟨ps, rfl, hps⟩ := lp_paired (K := X.K) hs
  refine ⟨p, ps, _, rfl, SqL.of hp, hps, fun q1 hq1 => ?_⟩
  have hmg : Kvs H (mergeD [] (ls.map fun l => ((Sum.inl l.1 : Key), D.str l.2))) (mergeK [] (ls.map fun l => ((Sum.inl l.1 : Key), V.str l.2))) := Kvs.merge (lp_kvs ls) rfl
  exact k _ _ _ _ (re.newC hq1 (cDK upd_same (hmg.mono (Tk.new hq1)))) (Fr.newC hq1) (is_ref.mpr rfl) (q q1 (re.none_of hq1))
end
end Dl

/-! ## DI2 -/
namespace Dl
open PySem PySem.Spec PyProof.Rows L2 RZ
section
variable {X : Cx} {a b e o i : Expr} {es : List Expr} {pos apos cpos p2 : Pos} {ta tb to ti : DE} {t : DA}
def rCatF' : DR2 := fun x y μ Q => ∃ a b, x = .ftup a ∧ y = .tup b ∧ a ≠ [] ∧ a.length + b.length ≤ sizeLine ∧ Q (.ftup (a ++ b)) μ
theorem mo_catF : MO2 X (binaryOp .Add) rCatF' := by
  intro pins s σ H x y v u Q I rx ry ⟨dx, dy, μ, Q', ix, iy, re, ⟨a, b, e1, e2, hne, hz, q⟩, k⟩
  subst e1 e2
  obtain ⟨p, ob, vs, rfl, hp, hd, hs⟩ := is_ftup.mp ix
  obtain ⟨p2, ws, rfl, hp2, ht⟩ := is_tup.mp iy
  cases rx
  cases ry
  have l1 := hs.len
  have l2 := ht.len
  obtain ⟨its, r1, q1, _⟩ := I.tuple (.inl (.inr ⟨ob, hp⟩))
  obtain ⟨its2, r2, q2, _⟩ := I.tuple (SqT.of hp2)
  have hvs : vs ≠ [] := fun z => hne (List.eq_nil_of_length_eq_zero (by rw [l1, z]; rfl))
  refine HT.cat_tup q1 q2 (fun z => hvs (r1.nil_iff.mp z)) (fun z => ⟨.ref p, H, I, rfl, ?_⟩) (fun z => ?_) (by rw [← r1.length, ← r2.length]; omega)
  · have hb : b = [] := List.eq_nil_of_length_eq_zero (by rw [l2, r2.nil_iff.mp z]; rfl)
    subst hb
    rw [List.append_nil] at q
    exact k _ _ μ H re Fr.refl ix q
  · have hf : H s.heap.objs.size = none := I.hok.fresh (Nat.le_refl _)
    refine ⟨.ref s.heap.objs.size, upd H s.heap.objs.size (.frz ⟨.type "tuple", none, .seq (its ++ its2).toArray 0, #[]⟩ (.tup (vs ++ ws))), I.laid (t' := s.toks) (fun b ob q => Heap.get?_push_of_some _ q) (Nat.le_refl _) ?_, rfl, ?_⟩
    · exact ⟨Heap.get?_push_size _ rfl, by rw [List.length_append]; omega, _, r1.append r2, IsTup.new _ _⟩
    · exact k _ _ μ _ (re.new hf) (Fr.newT hf) (is_ftup.mpr ⟨_, _, _, rfl, upd_same, rfl, Iss.app (hs.mono (Tk.new hf)) (ht.mono (Tk.new hf))⟩) q
theorem flat_nats (ns : List Int) : (ns.map V.int).all flatV = true := flat_ints ns
def aIdx (to te : DE) : DE := fun ρ μ Q => to ρ μ fun x μ1 => ∃ ns : List Int, x = .ftup (ns.map .int) ∧ te ρ μ1 fun y μ2 => ∃ (k : Int) (j : Nat), y = .int k ∧ ns[j]? = some k ∧ (∀ m, m < j → ns[m]? ≠ some k) ∧ Q (.int (j : Nat)) μ2
theorem me_index {te : DE} (ho : ME X o to) (he : ME X e te) (hbase : attributeBase o "index" X.env (eval o X.env) = eval o X.env := by rfl)
    (hfew : ((backTo cpos (starEach [e] X.env)).all (fun x => !x.1) && (backToKw cpos (keywordEach [] X.env)).all (fun x => x.1.isSome)
      && decide (([e] : List Expr).length + ([] : List Keyword).length + (if ([] : List Keyword).isEmpty then 0 else 1) < 30)) = true := by rfl)
    (hline : (apos.endLine == cpos.line) = true := by rfl) (hs : starEach [e] X.env = (false, eval e X.env) :: starEach [] X.env := by rfl) (hplain : (backTo cpos (starEach [] X.env)).any (·.1) = false := by rfl) :
    ME X (.Call (.Attribute o "index" apos) [e] [] cpos) (aIdx to te) := by
  refine ⟨fun pins s σ H Q I h => ?_⟩
  obtain ⟨ρ, μ, Q', st, q, k⟩ := h
  refine wpAny_Call_method_late hbase hfew hline rfl (thn (ho.run pins s σ H (fun v H1 => ∃ d μ1, S σ H1 ρ μ1 ∧ Fr μ H μ1 H1 ∧ Is H1 d v ∧ ∃ ns : List Int, d = .ftup (ns.map .int) ∧ te ρ μ1 fun y μ2 => ∃ (k : Int) (j : Nat), y = .int k ∧ ns[j]? = some k ∧ (∀ m, m < j → ns[m]? ≠ some k) ∧ Q' (.int (j : Nat)) μ2) I ⟨ρ, μ, _, st, q, fun d v μ1 H1 s1 f1 i1 q1 => ⟨d, μ1, s1, f1, i1, q1⟩⟩) fun v s1 hh => ?_)
  obtain ⟨x, H1, I1, r1, d, μ1, S1, f1, i1, ns, rfl, q1⟩ := hh
  obtain ⟨p, ob, vs, rfl, hp, hd, hvs⟩ := is_ftup.mp i1
  cases r1
  have hv := hvs.ints
  subst hv
  have hob : s1.heap.get? p = some ob := (I1.hok p _ hp).1
  obtain ⟨its0, _, pl0, _⟩ := I1.tuple (.inl (.inr ⟨ob, hp⟩))
  refine ⟨"tuple", _, PySem.F.plainAttrs_tuple, PySem.F.slot_tuple_index, PySem.F.type_tuple_index, pl0.typeIs, fun a e => by cases e; exact ⟨ob, hob, hd⟩, ?_⟩
  rw [hs]
  refine Calls.callWith_builtin (by show (false || (backTo cpos (starEach [] X.env)).any (·.1)) = false; rw [hplain] <;> rfl) (Calls.evalArgs_plain ?_)
  show wpAny _ _ (spliced ((false, eval e X.env) :: backTo cpos (starEach [] X.env))) _ _ s1
  refine Calls.spliced_cons (thn (he.run pins s1 σ H1 (fun v H2 => ∃ d μ2, S σ H2 ρ μ2 ∧ Fr μ1 H1 μ2 H2 ∧ Is H2 d v ∧ ∃ (k : Int) (j : Nat), d = .int k ∧ ns[j]? = some k ∧ (∀ m, m < j → ns[m]? ≠ some k) ∧ Q' (.int (j : Nat)) μ2) I1 ⟨ρ, μ1, _, S1, q1, fun d v μ2 H2 s2 f2 i2 q2 => ⟨d, μ2, s2, f2, i2, q2⟩⟩) fun u s2 hh => ?_)
  obtain ⟨y, H2, I2, ry, d2, μ2, S2, f2, i2, kk, j, rfl, hj, hno, q2⟩ := hh
  rw [is_int] at i2
  subst i2
  refine Calls.spliced_nil ?_
  obtain ⟨t, rfl⟩ := (show ∃ t, u = Value.int kk t from ry)
  have hp2 := f2.tk.frz _ _ _ hp
  obtain ⟨its, r, pl, hz⟩ := I2.tuple (.inl (.inr ⟨ob, hp2⟩))
  obtain ⟨⟨cls, dd, dt, sl⟩, hho, hcls, n, hdt⟩ := pl
  simp only at hcls hdt
  subst hcls
  subst hdt
  have hl : its.toArray.size = ns.length := by rw [List.size_toArray, ← r.length, List.length_map]
  have hjl : j < its.toArray.size := by rw [hl]; exact (List.getElem?_eq_some_iff.mp hj).1
  have at' : ∀ (m : Nat) (hm : m < its.toArray.size), ∃ y t', ns[m]? = some y ∧ its.toArray[m] = Value.int y t' := fun m hm => by
    have hm' : m < ns.length := by rw [← hl]; exact hm
    obtain ⟨w, hw, t', hw'⟩ := r.get (i := m) (x := .int ns[m]) (by simp [hm'])
    refine ⟨ns[m], t', List.getElem?_eq_getElem hm', ?_⟩
    have e := (List.getElem?_eq_some_iff.mp hw).2
    rw [← hw', ← e]
    simp
  refine call_meets PySem.F.slot_tuple_index ⟨_, hho, rfl⟩ PySem.F.entry_tuple_index (PySem.F.args_tuple_index_2 _ _) (TI.tuple_indexAt p its.toArray n dd sl (.int kk t) (eqU (.int kk)) j hjl ?_ ?_)
    ⟨hho, fun w hw => mem_eqAt (x := .int kk) ⟨t, rfl⟩ rfl r (flat_ints ns) w (by simpa using hw), ⟨.int (j : Nat), H2, I2.tok _, ⟨_, rfl⟩, k (.int (j : Nat)) _ μ2 H2 S2 (f1.trans f2) (is_int.mpr rfl) q2⟩⟩
  · obtain ⟨y, t', h1, h2⟩ := at' j hjl
    rw [hj] at h1
    cases h1
    rw [h2]
    show (kk == kk) = true
    exact beq_self_eq_true kk
  · intro m hm hmj
    obtain ⟨y, t', h1, h2⟩ := at' m hm
    rw [h2]
    show (y == kk) = false
    exact beq_eq_false_iff_ne.mpr fun e => hno m hmj (e ▸ h1)
end
end Dl

/-! ## DI3 -/
namespace Dl
open PySem PySem.Spec PyProof.Rows L2 RZ
section
variable {X : Cx} {a b e o i : Expr} {es : List Expr} {pos apos cpos p2 : Pos} {ta tb to ti : DE} {t : DA}
theorem eqv_lp {x y : Int × Str} (hx : PyData.canLay0 (.str x.2) = true) (hy : PyData.canLay0 (.str y.2) = true) : PyData.eqv (dat (lpD x)) (dat (lpD y)) = decide (x = y) := by
  obtain ⟨a, b⟩ := x
  obtain ⟨c, d⟩ := y
  simp only [lpD, dat, dats, PyData.eqv, PyData.eqvAll]
  by_cases h : a = c
  · by_cases h2 : b = d
    · simp [h, h2]
    · simp [h, h2]
  · simp [h]
theorem first_lp : ∀ {ns : List (Int × Str)} {k : Int × Str}, k ∈ ns → ∃ j, j < ns.length ∧ ns[j]? = some k ∧ (∀ i, i < j → ns[i]? ≠ some k) ∧ ns.eraseIdx j = ns.erase k
  | [], k, h => absurd h (by simp)
  | a :: r, k, h => by
    by_cases e : a = k
    · refine ⟨0, Nat.succ_pos _, by rw [e] <;> rfl, fun i hi => absurd hi (Nat.not_lt_zero _), ?_⟩
      rw [e, List.erase_cons_head] <;> rfl
    · have hr : k ∈ r := by
        rcases List.mem_cons.mp h with z | z
        · exact absurd z.symm e
        · exact z
      obtain ⟨j, h1, h2, h3, h4⟩ := first_lp hr
      refine ⟨j + 1, Nat.succ_lt_succ h1, h2, fun i hi => ?_, ?_⟩
      · cases i with
        | zero =>
          intro z
          exact e (Option.some.inj z)
        | succ i => exact h3 i (Nat.lt_of_succ_lt_succ hi)
      · rw [List.erase_cons_tail (by rw [beq_iff_eq]; exact e), ← h4] <;> rfl
def aRem (to te : DE) : DE := fun ρ μ Q => to ρ μ fun x μ1 => ∃ p, x = .ref p ∧ (∃ ds, μ1 p = some (.lst ds)) ∧ te ρ μ1 fun y μ2 => ∃ (ls : List (Int × Str)) (l : Int × Str), μ2 p = some (.lst (ls.map lpD)) ∧ y = lpD l ∧ l ∈ ls ∧ (∀ z ∈ ls, PyData.canLay0 (.str z.2) = true) ∧ Q .non (updM μ2 p (.lst ((ls.erase l).map lpD)))
theorem oks_lp : ∀ {ls : List (Int × Str)}, (∀ z ∈ ls, PyData.canLay0 (.str z.2) = true) → okDs 2 (ls.map lpD) = true
  | [], _ => rfl
  | z :: r, h => by
    rw [List.map_cons]
    unfold okDs
    rw [oks_lp fun y hy => h y (List.mem_cons_of_mem _ hy)]
    simp [lpD, okDs, okD, h z List.mem_cons_self]
theorem dats_map : ∀ (ls : List (Int × Str)), dats (ls.map lpD) = ls.map fun l => dat (lpD l)
  | [] => rfl
  | l :: r => by rw [List.map_cons, List.map_cons, ← dats_map r]; rfl
theorem map_erase' : ∀ (ls : List (Int × Str)) (j : Nat), (ls.map lpD).eraseIdx j = (ls.eraseIdx j).map lpD
  | [], _ => rfl
  | _ :: _, 0 => rfl
  | n :: r, j + 1 => by
    show lpD n :: (r.map lpD).eraseIdx j = lpD n :: (r.eraseIdx j).map lpD
    rw [map_erase' r j]
theorem me_remove {te : DE} (hu : X.A.units + 64 < cLine) (ho : ME X o to) (he : ME X e te) (hbase : attributeBase o "remove" X.env (eval o X.env) = eval o X.env := by rfl)
    (hfew : ((backTo cpos (starEach [e] X.env)).all (fun x => !x.1) && (backToKw cpos (keywordEach [] X.env)).all (fun x => x.1.isSome)
      && decide (([e] : List Expr).length + ([] : List Keyword).length + (if ([] : List Keyword).isEmpty then 0 else 1) < 30)) = true := by rfl)
    (hline : (apos.endLine == cpos.line) = true := by rfl) (hs : starEach [e] X.env = (false, eval e X.env) :: starEach [] X.env := by rfl) (hplain : (backTo cpos (starEach [] X.env)).any (·.1) = false := by rfl) :
    ME X (.Call (.Attribute o "remove" apos) [e] [] cpos) (aRem to te) := by
  refine ⟨fun pins s σ H Q I h => ?_⟩
  obtain ⟨ρ, μ, Q', st, q, k⟩ := h
  refine wpAny_Call_method_late hbase hfew hline rfl (thn (ho.run pins s σ H (fun v H1 => ∃ d μ1, S σ H1 ρ μ1 ∧ Fr μ H μ1 H1 ∧ Is H1 d v ∧ ∃ p, d = .ref p ∧ (∃ ds, μ1 p = some (.lst ds)) ∧ te ρ μ1 fun y μ2 => ∃ (ls : List (Int × Str)) (l : Int × Str), μ2 p = some (.lst (ls.map lpD)) ∧ y = lpD l ∧ l ∈ ls ∧ (∀ z ∈ ls, PyData.canLay0 (.str z.2) = true) ∧ Q' .non (updM μ2 p (.lst ((ls.erase l).map lpD)))) I ⟨ρ, μ, _, st, q, fun d v μ1 H1 s1 f1 i1 q1 => ⟨d, μ1, s1, f1, i1, q1⟩⟩) fun v s1 hh => ?_)
  obtain ⟨x, H1, I1, r1, d, μ1, S1, f1, i1, p, rfl, hds, q1⟩ := hh
  rw [is_ref] at i1
  subst i1
  cases r1
  obtain ⟨h1, h2⟩ := tyV_is (x := V.ref p) I1 (show RelV (V.ref p) (Value.ref p) from rfl) (tyL S1.re hds)
  refine ⟨"list", _, PySem.F.plainAttrs_list, PySem.F.slot_list_remove, PySem.F.type_list_remove, h1, h2, ?_⟩
  rw [hs]
  refine Calls.callWith_builtin (by show (false || (backTo cpos (starEach [] X.env)).any (·.1)) = false; rw [hplain] <;> rfl) (Calls.evalArgs_plain ?_)
  show wpAny _ _ (spliced ((false, eval e X.env) :: backTo cpos (starEach [] X.env))) _ _ s1
  refine Calls.spliced_cons (thn (he.run pins s1 σ H1 (fun v H2 => ∃ d μ2, S σ H2 ρ μ2 ∧ Fr μ1 H1 μ2 H2 ∧ Is H2 d v ∧ ∃ (ls : List (Int × Str)) (l : Int × Str), μ2 p = some (.lst (ls.map lpD)) ∧ d = lpD l ∧ l ∈ ls ∧ (∀ z ∈ ls, PyData.canLay0 (.str z.2) = true) ∧ Q' .non (updM μ2 p (.lst ((ls.erase l).map lpD)))) I1 ⟨ρ, μ1, _, S1, q1, fun d v μ2 H2 s2 f2 i2 q2 => ⟨d, μ2, s2, f2, i2, q2⟩⟩) fun u s2 hh => ?_)
  obtain ⟨y, H2, I2, ry, d2, μ2, S2, f2, i2, ls, l, hm, rfl, hl, hlay, q2⟩ := hh
  refine Calls.spliced_nil ?_
  obtain ⟨vs, hH, hvs⟩ := S2.re p _ hm
  have hdl : Dp X.K H2 y (dat (lpD l)) := Is.dp (n := 2) (lpD l) (by simp [lpD, okDs, okD, hlay l hl]) i2
  have hda : DpAll X.K H2 vs (dats (ls.map lpD)) := Iss.dp (n := 2) _ (oks_lp hlay) hvs
  obtain ⟨bs, rd⟩ := Dp.reads I2 _ _ u hdl ry
  obtain ⟨z, its, n, r, hlen, e0⟩ := I2.lstM hH
  obtain ⟨as, ra⟩ := Dp.readsAll I2 _ _ its hda r
  obtain ⟨c1, c2⟩ := lay_dats (n := 2) _ (oks_lp hlay)
  obtain ⟨c3, c4⟩ := lay_dat (n := 2) (lpD l) (by simp [lpD, okDs, okD, hlay l hl])
  have hmap : its.map (SeqAt.readOf s2.heap) = dats (ls.map lpD) := SeqAt.readsAll_map _ its as c1 ra
  rw [dats_map] at hmap
  have hnl : ls.length = its.length := by have := congrArg List.length hmap; simpa using this.symm
  have heq := SeqAt.items_eqAt (A := X.A) (vs := its.toArray) (show ReadsAll s2.heap its.toArray.toList _ as from ra) rd c1 c3 (by omega)
  have at_ : ∀ (m : Nat) (hm : m < its.length) (w : Int × Str), ls[m]? = some w → SeqAt.readOf s2.heap its[m] = dat (lpD w) := fun m hm w hw => by
    have := congrArg (fun l => l[m]?) hmap
    simp only [List.getElem?_map, List.getElem?_eq_getElem hm, hw, Option.map_some] at this
    exact Option.some.inj this
  obtain ⟨j, j1, j2, j3, j4⟩ := first_lp hl
  have hj : j < its.length := by omega
  have hsz : its.toArray.size ≤ sizeLine := by rw [List.size_toArray, ← hlen]; exact z
  have hil := hvs.len
  rw [List.length_map] at hil
  refine call_meets PySem.F.slot_list_remove ⟨_, e0, rfl⟩ PySem.F.entry_list_remove (PySem.F.args_list_remove_2 _ _)
    (SeqAt.list_removeAt p its.toArray n none #[] u (fun w => PyData.eqv (SeqAt.readOf s2.heap w) (dat (lpD l))) j (by rw [List.size_toArray]; exact hj) ?hit (fun i hi2 hlt => ?hno) hsz) ⟨e0, heq, ?_⟩
  case hit =>
    show PyData.eqv (SeqAt.readOf s2.heap its[j]) _ = true
    rw [at_ j hj l j2, eqv_lp (hlay l hl) (hlay l hl)]
    simp
  case hno =>
    have hi3 : i < its.length := by rw [List.size_toArray] at hi2; exact hi2
    show PyData.eqv (SeqAt.readOf s2.heap its[i]) _ = false
    obtain ⟨w, hw⟩ : ∃ w, ls[i]? = some w := ⟨_, List.getElem?_eq_getElem (by omega)⟩
    rw [at_ i hi3 w hw, eqv_lp (hlay w (List.mem_of_getElem? hw)) (hlay l hl)]
    exact decide_eq_false fun e => j3 i hlt (by rw [hw, e])
  have r2 : Vals (vs.eraseIdx j) (its.eraseIdx j) := r.eraseIdx j
  have hzz : (vs.eraseIdx j).length ≤ sizeLine := Nat.le_trans (List.length_eraseIdx_le _ _) z
  have tk : Tk H2 (upd H2 p (.lst (vs.eraseIdx j))) := Tk.put (S2.re p _ hm)
  refine ⟨.non, _, I2.lset (its' := its.eraseIdx j) hH e0 ?_ r2 hzz, rfl, k .non .non _ _ (S2.mono tk (S2.re.put hm (cLst (ds := (ls.erase l).map lpD) upd_same ?_))) ((f1.trans f2).trans (Fr.put S2.re hm)) (is_non.mpr rfl) q2⟩
  · show its.toArray.eraseIdxIfInBounds j = (its.eraseIdx j).toArray
    rw [List.eraseIdxIfInBounds_toArray]
  · have := (hvs.erase j).mono tk
    rw [← j4]
    have e : (ls.map lpD).eraseIdx j = (ls.eraseIdx j).map lpD := map_erase' ls j
    rw [← e]
    exact this
end
end Dl

/-! ## DH -/
/-! Defs of the text; what is still to be shown of the rules. -/
namespace Dl
open PySem PySem.Spec PyProof.Rows L2 RZ
/-! ### a def: what is behind it may forget -/
def Fg (Q : D → Mu → Prop) (d : D) (μ : Mu) : Prop := ∃ μ', (∀ a c, μ' a = some c → μ a = some c) ∧ Q d μ'
def Body (t : DS) (n : Nat) (ds : List D) (μ : Mu) (Q : D → Mu → Prop) : Prop := t { nx := fun _ μ' => Fg Q .non μ', rt := fun d μ' => Fg Q d μ' } (startD n ds) μ
def Df (K : PySem.W.Frag) (mg : Str → Option Value) (x : Str) (st : Stmt) : Prop := ∃ f fd, FunD K x x (defArgs st) (defBody st) (defScope st) [] [] f fd ∧ mg x = some (.ref f)
theorem Fr.less {μ μ1 μ2 : Mu} {H H1 : Hp} (f : Fr μ H μ1 H1) (h : ∀ a c, μ2 a = some c → μ1 a = some c) : Fr μ H μ2 H1 := ⟨f.keep, fun a e => f.new a (by
  cases q : μ2 a with
  | none => exact absurd q e
  | some c => rw [h a c q]; simp), f.tk, f.old⟩
theorem cal_own {P : Program} {w : World} {K : PySem.W.Frag} {mg : Str → Option Value} {base : Heap} {x : Str} {st : Stmt} {N ps : List Str} {k : Nat} {G : DRs} {t : DS}
    (F : Df K mg x st) (Sc : FnScope N ps (defScope st))
    (hb : ∀ (kV doc pm : Value) (an : Option Addr) (cdv ct : Value) (us : List Value), us.length = ps.length → bindArgs (PySem.W.fnOf x x (defArgs st) (defBody st) (defScope st) .none kV doc pm an cdv ct) ⟨us, []⟩ = pure (ps.zip us))
    (hbody : ∀ (f : Addr) (cdv : Value) (A : Around) (outer : List Env) (s : Shared) (H : Hp) (E : XK), Room k (A.deeper (envOfC x (defScope st) s.heap.objs.size f cdv)) → MSs (cxOf CX0 P w K mg base N x (defScope st) f cdv A outer s H E).nox (defBody st) t)
    (len : ∀ ds μ Q, G ds μ Q → ds.length = ps.length)
    (hG : ∀ ds μ Q, G ds μ Q → Body t N.length ds μ Q) : Cal P w K mg base (k + 1) x G := by
  obtain ⟨f, fd, FF, hm⟩ := F
  refine ⟨f, fd, ps, FF.ok Sc (fun vs H Q E h => ?_) (fun cdv A outer s H vs Q E hr h => ⟨liS t, MSs.nox (hbody f cdv A outer s H E hr), ?_⟩), hm, FF.kp, FF.bindsN hb⟩
  · obtain ⟨ds, μ, Q', i, R, g, _⟩ := h
    rw [← i.len]
    exact len ds μ Q' g
  · obtain ⟨ds, μ, Q', i, R, g, kk⟩ := h
    exact ⟨_, μ, _, S.start i R, hG ds μ Q' g, ⟨fun ρ' μ' σ' H' ⟨μ2, h2, p⟩ s' f' => kk .non .non μ2 H' (Rel.less s'.re h2) (f'.less h2) (is_non.mpr rfl) p, fun d μ' v H' ⟨μ2, h2, p⟩ R' i' f' => kk d v μ2 H' (Rel.less R' h2) (f'.less h2) i' p, fun _ _ _ _ p => p.elim, fun _ _ _ _ p => p.elim⟩⟩
/-- the names that are free, and the two constants -/
structure Fz (mg : Str → Option Value) : Prop where
  isinstance : mg "isinstance" = none
  int : mg "int" = none
  bool : mg "bool" = none
  len : mg "len" = none
  str : mg "str" = none
  tuple : mg "tuple" = none
  list : mg "list" = none
  enumerate : mg "enumerate" = none
  range : mg "range" = none
  max : mg "max" = none
  all : mg "all" = none
  any : mg "any" = none
  sorted : mg "sorted" = none
  min : mg "min" = none
  zip : mg "zip" = none
  dict : mg "dict" = none
  repr : mg "repr" = none
  letters : ∃ t, mg "LETTERS" = some (.str "abcdefghijklmnopqrstuvwxyz" t)
  most : ∃ t, mg "MOST_LONG" = some (.int 8 t)
section
variable {X : Cx} {a b e o i : Expr} {es : List Expr} {pos apos cpos p2 : Pos} {ta tb to ti : DE} {t : DA}
/-- repr(t), t a tuple of ints -/
def reprT (ns : List Int) : Str := tupleText (ns.map fun n => Str.ofString (toString n))
def rRepr : DRs := fun ds μ Q => match ds with
  | [x] => ∃ ns : List Int, x = .tup (ns.map .int) ∧ ns.length ≤ 1000 ∧ (∀ n ∈ ns, n.natAbs ≤ 1000000) ∧ Q (.str (reprT ns)) μ
  | _ => False
def aRepr (ta : DE) : DE := aCall rRepr (aCons ta aNil)
theorem log_small {n : Int} (h : n.natAbs ≤ 1000000) : n.natAbs.log2 < 1920 := by
  by_cases e : n.natAbs = 0
  · rw [e]; decide
  · have : n.natAbs.log2 < 20 := (Nat.log2_lt e).mpr (by omega)
    omega
theorem reprAll_ints {P : Program} {w : World} : ∀ {ns : List Int} {its : List Value}, (∀ n ∈ ns, n.natAbs ≤ 1000000) → Vals (ns.map V.int) its → ReprAll P w its (ns.map fun n => Str.ofString (toString n))
  | [], its, _, r => by
    cases its with
    | nil => exact .nil
    | cons a b => exact False.elim (by cases r)
  | n :: ns, its, h, r => by
    cases its with
    | nil => exact False.elim (by cases r)
    | cons a b =>
      rw [List.map_cons] at r
      cases r with
      | cons r1 r2 =>
        obtain ⟨t, rfl⟩ := (show ∃ t, a = Value.int n t from r1)
        exact .cons (ReprIs.int t (log_small (h n (by simp)))) (reprAll_ints (fun m hm => h m (List.mem_cons_of_mem _ hm)) r2)
theorem join_len : ∀ (l : List Str), (∀ t ∈ l, t.length ≤ 2000) → (Str.join ", " l).length ≤ l.length * 2002
  | [], _ => by show 0 ≤ _; omega
  | [x], h => by show x.length ≤ _; have := h x (by simp); simp; omega
  | x :: y :: r, h => by
    have ih := join_len (y :: r) (fun t ht => h t (List.mem_cons_of_mem _ ht))
    have hx := h x (by simp)
    show (x ++ ", " ++ Str.join ", " (y :: r)).length ≤ _
    have e2 : ((", " : String) : Str).length = 2 := rfl
    rw [strLen_append, strLen_append, e2]
    simp only [List.length_cons] at ih ⊢
    omega
theorem reprT_len {ns : List Int} (hl : ns.length ≤ 1000) (h : ∀ n ∈ ns, n.natAbs ≤ 1000000) : (reprT ns).length ≤ sizeLine := by
  have hj := join_len (ns.map fun n => Str.ofString (toString n)) (fun t ht => by
    obtain ⟨n, hn, rfl⟩ := List.mem_map.mp ht
    have e := int_text_length_le (k := 1920) (by decide) (log_small (h n hn))
    rw [PySem.ofString_length]; omega)
  unfold reprT tupleText
  rw [strLen_append, strLen_append]
  have e1 : ((("(" : String) : Str)).length = 1 := rfl
  have e3 : (((if (ns.map fun n => Str.ofString (toString n)).length == 1 then ",)" else ")" : String) : Str)).length ≤ 2 := by split <;> decide
  rw [List.length_map] at hj
  rw [e1, sizeLine_eq]
  omega
theorem mc_repr (hu : X.A.units + 64 < cLine) (hg : X.A.guards = some []) : MC X (.builtin "repr") rRepr := by
  intro pins s σ H xs us Q I r ⟨ds, μ, Q', i, re, h, k⟩
  match ds, h with
  | [x], ⟨ns, e, hl, hb, q⟩ =>
    subst e
    obtain ⟨v, rfl, ix⟩ := one_of i
    obtain ⟨p, vs, rfl, hp, hs⟩ := is_tup.mp ix
    obtain ⟨u, rfl, rx⟩ := vals1 r
    cases rx
    have hv := hs.ints
    subst hv
    obtain ⟨its, r', ⟨ob, ho, hc, n, hd⟩, hz⟩ := I.tuple (SqT.of hp)
    have hTy : s.TypeIs (.ref p) "tuple" := ⟨ob, ho, hc⟩
    refine call_repr_slot (by omega) hTy PySem.F.slot_tuple_repr (call_tuple_repr hTy (show X.A.in1.guards = some [] from hg) (fun _ h => nomatch h) ho hd (reprAll_ints hb r') (fun u tk => ?_) (reprT_len hl hb))
    exact ⟨_, _, rfl, ⟨.str (reprT ns), H, I.tok _, ⟨_, rfl⟩, k _ _ μ H re Fr.refl (is_str.mpr rfl) q⟩⟩
theorem me_repr {p : Pos} (hu : X.A.units + 64 < cLine) (hg : X.A.guards = some []) (hm : X.mg "repr" = none) (ha : ME X a ta) (hG : Gl X "repr" := by rfl)
    (he : starEach [a] X.env = (false, eval a X.env) :: starEach [] X.env := by rfl) : ME X (.Call (.Name "repr" p) [a] [] pos) (aRepr ta) :=
  me_callB (mc_repr hu hg) hm bootS_repr (ma_cons ha ma_nil (hs := he)) hG (by decide) (by decide) he rfl
end
end Dl

/-! ## CsTop -/
namespace Cs
open PySem PySem.Spec PyProof.Rows L2 Dl
abbrev R : PySem.W.OpenRow := PySem.W.OpenLaw.row PySem.Challenge.rw_cutstand_k54_whole_in_any_order
def top (i : Nat) : Stmt := PySem.Challenge.pw_cutstand_k54_whole_in_any_order.main.body.getD i (.Pass ⟨0, 0, 0, 0⟩)
end Cs

/-! ## CsT -/
namespace Cs
open PySem PySem.Spec PyProof.Rows L2 Dl
abbrev rNin : DR2 := fun x y μ Q => ∃ (ds : List D) (k : Int) (ns : List Int), seqD y = some ds ∧ x = .int k ∧ ds = ns.map .int ∧ Q (.bl (!decide (k ∈ ns))) μ
abbrev rMin2 : DRs := fun ds μ Q => ∃ i j, ds = [.int i, .int j] ∧ Q (.int (if j < i then j else i)) μ
abbrev rInt : DRs := fun ds μ Q => ∃ b, ds = [.bl b] ∧ Q (.int (if b then 1 else 0)) μ

def t_up_to : DS :=
    (aSeq (aAsg (aNew aNil) (aName 2))
    (aSeq (aFor (aEnum (aVar 0)) (aTupG 2 (gConsD (aName 3) (gConsD (aName 4) gNilD))) (aSeq (aIfS (aTest (aOp (rInn false) (aVar 3) (aVar 1))) (aAsg (aTupL (aLc (aSeqI (aVar 4)) (aName 5) (aTest (aOp (rLe) (aVar 5) (aOp rIxD (aVar 1) (aVar 3)))) (aVar 5) [5])) (aName 4)) aNext)
    (aDrop (aApp (aVar 2) (aVar 4)))))
    (aRet (aCall rTupD (aCons (aVar 2) aNil)))))
abbrev N_up_to : List Str := ["choices", "wanted", "found", "machine", "row", "place"]

def t_floor_of : DS :=
    (aRet (aMaxL (aLc (aSeqI (aVar 0)) (aName 2) (aTest (aOp (rLe) (aVar 2) (aVar 1))) (aVar 2) [2])))
abbrev N_floor_of : List Str := ["row", "number", "place"]

def t_next_of : DS :=
    (aSeq (aAsg (aNew (aLc (aSeqI (aVar 0)) (aName 3) (aTest (aOp (rGt) (aVar 3) (aVar 1))) (aVar 3) [3])) (aName 2))
    (aSeq (aIfS (aTest (aOp (rEqq false) (aVar 2) (aNew aNil))) (aRet (aC .non)) aNext)
    (aRet (aOp rIxD (aVar 2) (aC (.int 0))))))
abbrev N_next_of : List Str := ["row", "place", "above", "one"]

def t_is_whole : DS :=
    (aRet (aAndV (aIsT "int" (aVar 0)) (aNotV (aIsT "bool" (aVar 0)))))
abbrev N_is_whole : List Str := ["thing"]

def t_is_within (g_is_whole : DRs) : DS :=
    (aRet (aAndV (aCall g_is_whole (aCons (aVar 0) aNil)) (aChain (rLe) (rLe) (aVar 1) (aVar 0) (aVar 2))))
abbrev N_is_within : List Str := ["thing", "low", "high"]

def t_is_word : DS :=
    (aSeq (aIfS (aOr (aNot (aTest (aIsT "str" (aVar 0)))) (aOr (aTest (aOp (rLt) (aCall rLenD (aCons (aVar 0) aNil)) (aC (.int 1)))) (aTest (aOp (rGt) (aCall rLenD (aCons (aVar 0) aNil)) (aC (.int 8)))))) (aRet (aC (.bl false))) aNext)
    (aRet (aAllL (aLc (aStrI (aVar 0)) (aName 1) aYes (aOp (rInn false) (aVar 1) (aC (.str "abcdefghijklmnopqrstuvwxyz"))) [1]))))
abbrev N_is_word : List Str := ["thing", "sign"]

def t_is_sign (g_is_word : DRs) : DS :=
    (aRet (aAndV (aCall g_is_word (aCons (aVar 0) aNil)) (aOp (rEqq false) (aCall rLenD (aCons (aVar 0) aNil)) (aC (.int 1)))))
abbrev N_is_sign : List Str := ["thing"]

def t_is_tuple : DS :=
    (aRet (aAndV (aIsT "tuple" (aVar 0)) (aOp (rEqq false) (aCall rLenD (aCons (aVar 0) aNil)) (aVar 1))))
abbrev N_is_tuple : List Str := ["thing", "many"]

def t_answer : DS :=
    (aSeq (aFor (aSeqI (aOp rIxD (aOp rIxD (aOp rIxD (aVar 0) (aC (.int 0))) (aVar 1)) (aC (.int 1)))) (aName 4) (aIfS (aAnd (aTest (aOp (rEqq false) (aOp rIxD (aVar 4) (aC (.int 0))) (aVar 2))) (aTest (aOp (rEqq false) (aOp rIxD (aVar 4) (aC (.int 1))) (aVar 3)))) (aRet (aTup (aCons (aOp rIxD (aVar 4) (aC (.int 2))) (aCons (aOp rIxD (aVar 4) (aC (.int 3))) (aCons (aOp rIxD (aVar 4) (aC (.int 4))) aNil))))) aNext))
    (aSeq (aIfS (aTest (aOp (rEqq false) (aVar 3) (aC (.str "own")))) (aRet (aC .non)) aNext)
    (aRet (aTup (aCons (aVar 2) (aCons (aTup aNil) (aCons (aC .non) aNil)))))))
abbrev N_answer : List Str := ["form", "m", "state", "cause", "move"]

def t_waits : DS :=
    (aRet (aNew (aList (aOp rIxD (aOp rIxD (aOp rIxD (aVar 0) (aC (.int 1))) (aVar 1)) (aC (.int 1))))))
abbrev N_waits : List Str := ["stand", "road"]

def t_is_plain (g_is_within : DRs) (g_is_sign : DRs) (g_is_tuple : DRs) (g_is_whole : DRs) : DS :=
    (aSeq (aIfS (aOr (aNot (aTest (aIsT "tuple" (aVar 1)))) (aOr (aTest (aOp (rLt) (aCall rLenD (aCons (aVar 1) aNil)) (aC (.int 2)))) (aNot (aTest (aIsT "str" (aOp rIxD (aVar 1) (aC (.int 0)))))))) (aRet (aC (.bl false))) aNext)
    (aSeq (aIfS (aTest (aOp (rEqq false) (aOp rIxD (aVar 1) (aC (.int 0))) (aC (.str "own")))) (aRet (aAndV (aOp (rEqq false) (aCall rLenD (aCons (aVar 1) aNil)) (aC (.int 2))) (aCall g_is_within (aCons (aOp rIxD (aVar 1) (aC (.int 1))) (aCons (aC (.int 0)) (aCons (aOp (rSub) (aCall rLenD (aCons (aOp rIxD (aVar 0) (aC (.int 0))) aNil)) (aC (.int 1))) aNil)))))) aNext)
    (aSeq (aIfS (aTest (aOp (rEqq false) (aOp rIxD (aVar 1) (aC (.int 0))) (aC (.str "hear")))) (aRet (aAndV (aOp (rEqq false) (aCall rLenD (aCons (aVar 1) aNil)) (aC (.int 3))) (aAndV (aCall g_is_within (aCons (aOp rIxD (aVar 1) (aC (.int 1))) (aCons (aC (.int 0)) (aCons (aOp (rSub) (aCall rLenD (aCons (aOp rIxD (aVar 0) (aC (.int 0))) aNil)) (aC (.int 1))) aNil)))) (aCall g_is_sign (aCons (aOp rIxD (aVar 1) (aC (.int 2))) aNil))))) aNext)
    (aRet (aAndV (aOp (rEqq false) (aOp rIxD (aVar 1) (aC (.int 0))) (aC (.str "come"))) (aAndV (aCall g_is_tuple (aCons (aVar 1) (aCons (aC (.int 3)) aNil))) (aAndV (aCall g_is_within (aCons (aOp rIxD (aVar 1) (aC (.int 1))) (aCons (aC (.int 0)) (aCons (aOp (rSub) (aCall rLenD (aCons (aOp rIxD (aVar 0) (aC (.int 1))) aNil)) (aC (.int 1))) aNil)))) (aCall g_is_whole (aCons (aOp rIxD (aVar 1) (aC (.int 2))) aNil)))))))))
abbrev N_is_plain : List Str := ["form", "thing"]

def t_machine_of : DS :=
    (aSeq (aIfS (aTest (aOp (rEqq false) (aOp rIxD (aVar 1) (aC (.int 0))) (aC (.str "come")))) (aRet (aOp rIxD (aOp rIxD (aOp rIxD (aVar 0) (aC (.int 1))) (aOp rIxD (aVar 1) (aC (.int 1)))) (aC (.int 1)))) aNext)
    (aRet (aOp rIxD (aVar 1) (aC (.int 1)))))
abbrev N_machine_of : List Str := ["form", "deed"]

def t_cause_of (g_waits : DRs) : DS :=
    (aSeq (aIfS (aTest (aOp (rEqq false) (aOp rIxD (aVar 2) (aC (.int 0))) (aC (.str "own")))) (aRet (aC (.str "own"))) aNext)
    (aSeq (aIfS (aTest (aOp (rEqq false) (aOp rIxD (aVar 2) (aC (.int 0))) (aC (.str "hear")))) (aRet (aOp rIxD (aVar 2) (aC (.int 2)))) aNext)
    (aSeq (aAsg (aCall g_waits (aCons (aVar 1) (aCons (aOp rIxD (aVar 2) (aC (.int 1))) aNil))) (aName 3))
    (aSeq (aIfS (aTest (aOp (rEqq false) (aOp rIxD (aOp rIxD (aOp rIxD (aVar 0) (aC (.int 1))) (aOp rIxD (aVar 2) (aC (.int 1)))) (aC (.int 2))) (aC (.str "row")))) (aAsg (aNew (aSlL (aVar 3) aNoPart (aPart (aC (.int 1))))) (aName 3)) aNext)
    (aSeq (aFor (aSeqI (aVar 3)) (aTupG 2 (gConsD (aName 4) (gConsD (aName 5) gNilD))) (aIfS (aTest (aOp (rEqq false) (aVar 4) (aOp rIxD (aVar 2) (aC (.int 2))))) (aRet (aVar 5)) aNext))
    (aRet (aC .non)))))))
abbrev N_cause_of : List Str := ["form", "stand", "deed", "waiting", "number", "sign"]

def t_answered (g_cause_of : DRs) (g_machine_of : DRs) (g_answer : DRs) : DS :=
    (aSeq (aAsg (aCall g_cause_of (aCons (aVar 0) (aCons (aVar 1) (aCons (aVar 2) aNil)))) (aName 3))
    (aSeq (aIfS (aTest (aOp (rIs false) (aVar 3) (aC .non))) (aRet (aC .non)) aNext)
    (aSeq (aAsg (aCall g_machine_of (aCons (aVar 0) (aCons (aVar 2) aNil))) (aName 4))
    (aRet (aCall g_answer (aCons (aVar 0) (aCons (aVar 4) (aCons (aOp rIxD (aOp rIxD (aVar 1) (aC (.int 0))) (aVar 4)) (aCons (aVar 3) aNil)))))))))
abbrev N_answered : List Str := ["form", "stand", "deed", "cause", "m"]

def t_can (g_is_plain : DRs) (g_answered : DRs) : DS :=
    (aRet (aAndV (aCall g_is_plain (aCons (aVar 0) (aCons (aVar 2) aNil))) (aOp (rIs true) (aCall g_answered (aCons (aVar 0) (aCons (aVar 1) (aCons (aVar 2) aNil)))) (aC .non))))
abbrev N_can : List Str := ["form", "stand", "thing"]

def t_taken_out : DS :=
    (aSeq (aAsg (aOp rIxD (aVar 0) (aVar 1)) (aTupG 2 (gConsD (aName 3) (gConsD (aName 4) gNilD))))
    (aSeq (aAsg (aTupL (aLc (aSeqI (aVar 4)) (aName 6) (aTest (aOp (rEqq true) (aOp rIxD (aVar 6) (aC (.int 0))) (aVar 2))) (aVar 6) [6])) (aName 5))
    (aRet (aOp (rAdd) (aOp (rAdd) (aSl (aVar 0) aNoPart (aPart (aVar 1))) (aTup (aCons (aTup (aCons (aVar 3) (aCons (aVar 5) aNil))) aNil))) (aSl (aVar 0) (aPart (aOp (rAdd) (aVar 1) (aC (.int 1)))) aNoPart)))))
abbrev N_taken_out : List Str := ["loads", "road", "number", "sent", "waiting", "left", "letter"]

def t_sent_out : DS :=
    (aSeq (aFor (aSeqI (aVar 1)) (aTupG 2 (gConsD (aName 2) (gConsD (aName 3) gNilD))) (aSeq (aAsg (aOp rIxD (aVar 0) (aVar 2)) (aTupG 2 (gConsD (aName 4) (gConsD (aName 5) gNilD))))
    (aAsg (aOp (rAdd) (aOp (rAdd) (aSl (aVar 0) aNoPart (aPart (aVar 2))) (aTup (aCons (aTup (aCons (aOp (rAdd) (aVar 4) (aC (.int 1))) (aCons (aOp (rAdd) (aVar 5) (aTup (aCons (aTup (aCons (aVar 4) (aCons (aVar 3) aNil))) aNil))) aNil))) aNil))) (aSl (aVar 0) (aPart (aOp (rAdd) (aVar 2) (aC (.int 1)))) aNoPart)) (aName 0))))
    (aRet (aVar 0)))
abbrev N_sent_out : List Str := ["loads", "sends", "road", "sign", "sent", "waiting"]

def t_done (g_can : DRs) (g_answered : DRs) (g_machine_of : DRs) (g_taken_out : DRs) (g_sent_out : DRs) : DS :=
    (aSeq (aIfS (aNot (aTest (aCall g_can (aCons (aVar 0) (aCons (aVar 1) (aCons (aVar 2) aNil)))))) aNever aNext)
    (aSeq (aAsg (aCall g_answered (aCons (aVar 0) (aCons (aVar 1) (aCons (aVar 2) aNil)))) (aTupG 3 (gConsD (aName 3) (gConsD (aName 4) (gConsD (aName 5) gNilD)))))
    (aSeq (aAsg (aCall g_machine_of (aCons (aVar 0) (aCons (aVar 2) aNil))) (aName 6))
    (aSeq (aAsg (aOp (rAdd) (aOp (rAdd) (aSl (aOp rIxD (aVar 1) (aC (.int 0))) aNoPart (aPart (aVar 6))) (aTup (aCons (aVar 3) aNil))) (aSl (aOp rIxD (aVar 1) (aC (.int 0))) (aPart (aOp (rAdd) (aVar 6) (aC (.int 1)))) aNoPart)) (aName 7))
    (aSeq (aAsg (aOp rIxD (aVar 1) (aC (.int 1))) (aName 8))
    (aSeq (aIfS (aTest (aOp (rEqq false) (aOp rIxD (aVar 2) (aC (.int 0))) (aC (.str "come")))) (aAsg (aCall g_taken_out (aCons (aVar 8) (aCons (aOp rIxD (aVar 2) (aC (.int 1))) (aCons (aOp rIxD (aVar 2) (aC (.int 2))) aNil)))) (aName 8)) aNext)
    (aSeq (aAsg (aC .non) (aName 9))
    (aSeq (aIfS (aTest (aOp (rIs true) (aVar 5) (aC .non))) (aAsg (aTup (aCons (aVar 6) (aCons (aVar 5) aNil))) (aName 9)) aNext)
    (aRet (aTup (aCons (aTup (aCons (aVar 7) (aCons (aCall g_sent_out (aCons (aVar 8) (aCons (aVar 4) aNil))) aNil))) (aCons (aVar 9) aNil))))))))))))
abbrev N_done : List Str := ["form", "stand", "deed", "after", "sends", "word", "m", "states", "loads", "told"]

def t_run (g_can : DRs) (g_done : DRs) : DS :=
    (aSeq (aAsg (aNew aNil) (aName 3))
    (aSeq (aFor (aEnum (aVar 2)) (aTupG 2 (gConsD (aName 4) (gConsD (aName 5) gNilD))) (aSeq (aIfS (aNot (aTest (aCall g_can (aCons (aVar 0) (aCons (aVar 1) (aCons (aVar 5) aNil)))))) aNever aNext)
    (aSeq (aAsg (aCall g_done (aCons (aVar 0) (aCons (aVar 1) (aCons (aVar 5) aNil)))) (aTupG 2 (gConsD (aName 1) (gConsD (aName 6) gNilD))))
    (aIfS (aTest (aOp (rIs true) (aVar 6) (aC .non))) (aDrop (aApp (aVar 3) (aVar 6))) aNext))))
    (aRet (aTup (aCons (aVar 1) (aCons (aVar 3) aNil))))))
abbrev N_run : List Str := ["form", "stand", "deeds", "words", "number", "deed", "told"]

def t_events_of (g_machine_of : DRs) : DS :=
    (aSeq (aAsg (aNew (aLc (aSeqI (aOp rIxD (aVar 0) (aC (.int 0)))) (aName 3) aYes (aC (.int 0)) [3])) (aName 2))
    (aSeq (aAsg (aNew aNil) (aName 4))
    (aSeq (aFor (aSeqI (aVar 1)) (aName 5) (aSeq (aAsg (aCall g_machine_of (aCons (aVar 0) (aCons (aVar 5) aNil))) (aName 6))
    (aSeq (aDrop (aApp (aVar 4) (aTup (aCons (aVar 6) (aCons (aOp rIxD (aVar 2) (aVar 6)) aNil)))))
    (aAsg (aOp (rAdd) (aOp rIxD (aVar 2) (aVar 6)) (aC (.int 1))) (aSubG (aVar 2) (aVar 6) setD)))))
    (aRet (aVar 4)))))
abbrev N_events_of : List Str := ["form", "deeds", "many", "rule", "found", "deed", "m"]

def t_letters_of (g_run : DRs) (g_waits : DRs) (g_done : DRs) : DS :=
    (aSeq (aDrop (aCall g_run (aCons (aVar 0) (aCons (aVar 1) (aCons (aVar 2) aNil)))))
    (aSeq (aAsg aNewT (aName 3))
    (aSeq (aFor (aRng1 (aCons (aCall rLenD (aCons (aOp rIxD (aVar 0) (aC (.int 1))) aNil)) aNil)) (aName 4) (aFor (aSeqI (aCall g_waits (aCons (aVar 1) (aCons (aVar 4) aNil)))) (aTupG 2 (gConsD (aName 5) (gConsD (aName 6) gNilD))) (aAsg (aTup (aCons (aC .non) (aCons (aC .non) aNil))) (aSubG (aVar 3) (aTup (aCons (aVar 4) (aCons (aVar 5) aNil))) setD))))
    (aSeq (aFor (aEnum (aVar 2)) (aTupG 2 (gConsD (aName 7) (gConsD (aName 8) gNilD))) (aSeq (aIfS (aTest (aOp (rEqq false) (aOp rIxD (aVar 8) (aC (.int 0))) (aC (.str "come")))) (aSeq (aAsg (aTup (aCons (aOp rIxD (aVar 8) (aC (.int 1))) (aCons (aOp rIxD (aVar 8) (aC (.int 2))) aNil))) (aName 10))
    (aAsg (aTup (aCons (aOp rIxD (aOp rIxD (aVar 3) (aVar 10)) (aC (.int 0))) (aCons (aVar 7) aNil))) (aSubG (aVar 3) (aVar 10) setD))) aNext)
    (aSeq (aAsg (aOp rIxD (aCall g_done (aCons (aVar 0) (aCons (aVar 1) (aCons (aVar 8) aNil)))) (aC (.int 0))) (aName 9))
    (aSeq (aFor (aRng1 (aCons (aCall rLenD (aCons (aOp rIxD (aVar 0) (aC (.int 1))) aNil)) aNil)) (aName 4) (aFor (aRng2 (aCons (aOp rIxD (aOp rIxD (aOp rIxD (aVar 1) (aC (.int 1))) (aVar 4)) (aC (.int 0))) (aCons (aOp rIxD (aOp rIxD (aOp rIxD (aVar 9) (aC (.int 1))) (aVar 4)) (aC (.int 0))) aNil))) (aName 5) (aAsg (aTup (aCons (aVar 7) (aCons (aC .non) aNil))) (aSubG (aVar 3) (aTup (aCons (aVar 4) (aCons (aVar 5) aNil))) setD))))
    (aAsg (aVar 9) (aName 1))))))
    (aRet (aVar 3))))))
abbrev N_letters_of : List Str := ["form", "stand", "deeds", "found", "road", "number", "sign", "k", "deed", "behind", "letter"]

def t_event_number : DS :=
    (aSeq (aIfS (aTest (aOp (rIs false) (aVar 1) (aC .non))) (aRet (aC .non)) aNext)
    (aRet (aOp rIxD (aOp rIxD (aVar 0) (aVar 1)) (aC (.int 1)))))
abbrev N_event_number : List Str := ["events", "deed"]

def t_trips (g_events_of : DRs) (g_letters_of : DRs) (g_event_number : DRs) : DS :=
    (aSeq (aAsg (aCall g_events_of (aCons (aVar 0) (aCons (aVar 2) aNil))) (aName 3))
    (aSeq (aAsg (aCall g_letters_of (aCons (aVar 0) (aCons (aVar 1) (aCons (aVar 2) aNil)))) (aName 4))
    (aSeq (aAsg (aNew aNil) (aName 5))
    (aSeq (aFor (aNewI (aSortT (aVar 4))) (aName 6) (aSeq (aAsg (aOp rIxD (aOp rIxD (aVar 0) (aC (.int 1))) (aOp rIxD (aVar 6) (aC (.int 0)))) (aTupG 3 (gConsD (aName 7) (gConsD (aName 8) (gConsD (aName 9) gNilD)))))
    (aSeq (aAsg (aOp rIxD (aVar 4) (aVar 6)) (aTupG 2 (gConsD (aName 10) (gConsD (aName 11) gNilD))))
    (aDrop (aApp (aVar 5) (aTup (aCons (aVar 6) (aCons (aVar 7) (aCons (aCall g_event_number (aCons (aVar 3) (aCons (aVar 10) aNil))) (aCons (aVar 8) (aCons (aCall g_event_number (aCons (aVar 3) (aCons (aVar 11) aNil))) aNil)))))))))))
    (aRet (aVar 5))))))
abbrev N_trips : List Str := ["form", "base", "deeds", "events", "letters", "found", "letter", "one", "other", "order", "sending", "coming"]

def t_was_sent : DS :=
    (aRet (aOrV (aOp (rIs false) (aOp rIxD (aVar 0) (aC (.int 2))) (aC .non)) (aOp (rLt) (aOp rIxD (aVar 0) (aC (.int 2))) (aOp rIxD (aVar 1) (aOp rIxD (aVar 0) (aC (.int 1)))))))
abbrev N_was_sent : List Str := ["trip", "cut"]

def t_has_come : DS :=
    (aRet (aAndV (aOp (rIs true) (aOp rIxD (aVar 0) (aC (.int 4))) (aC .non)) (aOp (rLt) (aOp rIxD (aVar 0) (aC (.int 4))) (aOp rIxD (aVar 1) (aOp rIxD (aVar 0) (aC (.int 3)))))))
abbrev N_has_come : List Str := ["trip", "cut"]

def t_is_whole_trip : DS :=
    (aRet (aAndV (aOp (rIs true) (aOp rIxD (aVar 0) (aC (.int 2))) (aC .non)) (aOp (rIs true) (aOp rIxD (aVar 0) (aC (.int 4))) (aC .non))))
abbrev N_is_whole_trip : List Str := ["trip"]

def t_is_number : DS :=
    (aRet (aAndV (aIsT "int" (aVar 0)) (aNotV (aIsT "bool" (aVar 0)))))
abbrev N_is_number : List Str := ["thing"]

def t_is_letters (g_is_number : DRs) : DS :=
    (aSeq (aIfS (aNot (aTest (aIsT "tuple" (aVar 0)))) (aRet (aC (.bl false))) aNext)
    (aRet (aAllL (aLc (aSeqI (aVar 0)) (aName 1) aYes (aAndV (aIsT "tuple" (aVar 1)) (aAndV (aOp (rEqq false) (aCall rLenD (aCons (aVar 1) aNil)) (aC (.int 2))) (aAllL (aLc (aSeqI (aVar 1)) (aName 2) aYes (aCall g_is_number (aCons (aVar 2) aNil)) [2])))) [1]))))
abbrev N_is_letters : List Str := ["thing", "one", "part"]

def t_crossing (g_has_come : DRs) (g_was_sent : DRs) : DS :=
    (aSeq (aFor (aSeqI (aVar 0)) (aName 2) (aIfS (aAnd (aTest (aCall g_has_come (aCons (aVar 2) (aCons (aVar 1) aNil)))) (aNot (aTest (aCall g_was_sent (aCons (aVar 2) (aCons (aVar 1) aNil)))))) (aRet (aVar 2)) aNext))
    (aRet (aC .non)))
abbrev N_crossing : List Str := ["all_trips", "cut", "trip"]

def t_lowered (g_crossing : DRs) (g_floor_of : DRs) : DS :=
    (aSeq (aAsg (aNew (aLc (aSeqI (aVar 1)) (aName 3) aYes (aOp rIxD (aVar 3) (aNeg (aC (.int 1)))) [3])) (aName 2))
    (aSeq (aAsg aNewK (aName 4))
    (aSeq (aAsg (aCall g_crossing (aCons (aVar 0) (aCons (aVar 2) aNil))) (aName 5))
    (aSeq (aWhile (aTest (aOp (rIs true) (aVar 5) (aC .non))) (aSeq (aAsg (aVar 5) (aTupG 5 (gConsD (aName 6) (gConsD (aName 7) (gConsD (aName 8) (gConsD (aName 9) (gConsD (aName 10) gNilD)))))))
    (aSeq (aAsg (aCall g_floor_of (aCons (aOp rIxD (aVar 1) (aVar 9)) (aCons (aVar 10) aNil))) (aSubG (aVar 2) (aVar 9) setD))
    (aSeq (aAsg (aOp (rAdd) (aGet2 (aVar 4) (aVar 7) (aTup aNil)) (aTup (aCons (aVar 6) aNil))) (aSubG (aVar 4) (aVar 9) setD))
    (aAsg (aCall g_crossing (aCons (aVar 0) (aCons (aVar 2) aNil))) (aName 5))))))
    (aRet (aTup (aCons (aCall rTupD (aCons (aVar 2) aNil)) (aCons (aNew (aLc (aNewI (aSortK (aVar 4))) (aName 11) aYes (aTup (aCons (aVar 11) (aCons (aOp rIxD (aVar 4) (aVar 11)) aNil))) [11])) aNil))))))))
abbrev N_lowered : List Str := ["all_trips", "choices", "line", "row", "ways", "trip", "letter", "sender", "sent", "taker", "came", "machine"]

def t_latest (g_lowered : DRs) (g_trips : DRs) : DS :=
    (aRet (aCall g_lowered (aCons (aCall g_trips (aCons (aVar 0) (aCons (aVar 1) (aCons (aVar 2) aNil)))) (aCons (aVar 3) aNil))))
abbrev N_latest : List Str := ["form", "base", "deeds", "choices"]

def t_wrong_place (g_is_whole_trip : DRs) (g_floor_of : DRs) : DS :=
    (aSeq (aAsg (aC .non) (aName 3))
    (aSeq (aFor (aEnum (aVar 2)) (aTupG 2 (gConsD (aName 4) (gConsD (aName 5) gNilD))) (aSeq (aAsg (aGet1 (aVar 0) (aVar 5)) (aName 6))
    (aSeq (aIfS (aOr (aTest (aOp (rIs false) (aVar 6) (aC .non))) (aNot (aTest (aCall g_is_whole_trip (aCons (aVar 6) aNil))))) (aRet (aVar 4)) aNext)
    (aSeq (aAsg (aOp rIxD (aVar 1) (aOp rIxD (aVar 6) (aC (.int 1)))) (aName 7))
    (aSeq (aIfS (aTest (aOp (rIs false) (aVar 3) (aC .non))) (aIfS (aTest (aOp (rLt) (aOp rIxD (aVar 6) (aC (.int 2))) (aOp rIxD (aVar 7) (aNeg (aC (.int 1)))))) (aRet (aVar 4)) aNext) (aIfS (aOr (aTest (aOp (rEqq true) (aOp rIxD (aVar 6) (aC (.int 1))) (aOp rIxD (aVar 3) (aC (.int 3))))) (aTest (aOp (rLt) (aOp rIxD (aVar 6) (aC (.int 2))) (aCall g_floor_of (aCons (aVar 7) (aCons (aOp rIxD (aVar 3) (aC (.int 4))) aNil)))))) (aRet (aVar 4)) aNext))
    (aAsg (aVar 6) (aName 3)))))))
    (aRet (aC .non))))
abbrev N_wrong_place : List Str := ["by_letter", "choices", "way", "ahead", "place", "letter", "trip", "row"]

def t_ends_at : DS :=
    (aSeq (aIfS (aTest (aOp (rEqq false) (aVar 1) (aTup aNil))) (aRet (aC (.bl false))) aNext)
    (aSeq (aAsg (aOp rIxD (aVar 0) (aOp rIxD (aVar 1) (aNeg (aC (.int 1))))) (aName 4))
    (aRet (aAndV (aOp (rEqq false) (aOp rIxD (aVar 4) (aC (.int 3))) (aVar 2)) (aOp (rLt) (aOp rIxD (aVar 4) (aC (.int 4))) (aVar 3))))))
abbrev N_ends_at : List Str := ["by_letter", "way", "machine", "choice", "trip"]

def t_ask_line (g_is_number : DRs) : DS :=
    (aSeq (aIfS (aOr (aNot (aTest (aIsT "tuple" (aVar 1)))) (aOr (aTest (aOp (rEqq true) (aCall rLenD (aCons (aVar 1) aNil)) (aCall rLenD (aCons (aVar 0) aNil)))) (aNot (aTest (aAllL (aLc (aSeqI (aVar 1)) (aName 2) aYes (aCall g_is_number (aCons (aVar 2) aNil)) [2])))))) aNever aNext)
    (aFor (aEnum (aVar 1)) (aTupG 2 (gConsD (aName 3) (gConsD (aName 2) gNilD))) (aIfS (aTest (aOp (rNin) (aVar 2) (aOp rIxD (aVar 0) (aVar 3)))) aNever aNext)))
abbrev N_ask_line : List Str := ["choices", "line", "place", "machine"]

def t_ask_right (g_has_come : DRs) (g_was_sent : DRs) : DS :=
    (aSeq (aAsg (aNew (aLc (aSeqI (aVar 0)) (aName 3) (aAnd (aTest (aCall g_has_come (aCons (aVar 3) (aCons (aVar 1) aNil)))) (aNot (aTest (aCall g_was_sent (aCons (aVar 3) (aCons (aVar 1) aNil)))))) (aOp rIxD (aVar 3) (aC (.int 3))) [3])) (aName 2))
    (aIfS (aTest (aOp (rEqq true) (aVar 2) (aNew aNil))) aNever aNext))
abbrev N_ask_right : List Str := ["all_trips", "line", "wrong", "trip"]

def t_ask_rows (g_is_number : DRs) (g_is_letters : DRs) : DS :=
    (aSeq (aAsg (aIsT "list" (aVar 0)) (aName 3))
    (aSeq (aIfS (aTest (aVar 3)) (aFor (aSeqI (aVar 0)) (aName 4) (aAsg (aAndV (aVar 3) (aAndV (aIsT "tuple" (aVar 4)) (aAndV (aOp (rEqq false) (aCall rLenD (aCons (aVar 4) aNil)) (aC (.int 2))) (aAndV (aCall g_is_number (aCons (aOp rIxD (aVar 4) (aC (.int 0))) aNil)) (aCall g_is_letters (aCons (aOp rIxD (aVar 4) (aC (.int 1))) aNil)))))) (aName 3))) aNext)
    (aIfS (aOr (aNot (aTest (aVar 3))) (aTest (aOp (rEqq true) (aNew (aLc (aSeqI (aVar 0)) (aName 4) aYes (aOp rIxD (aVar 4) (aC (.int 0))) [4])) (aVar 1)))) aNever aNext)))
abbrev N_ask_rows : List Str := ["rows", "machines", "word", "is_so", "row"]

def t_line_asked (g_trips : DRs) (g_ask_line : DRs) (g_ask_right : DRs) (g_ask_rows : DRs) (g_next_of : DRs) (g_wrong_place : DRs) (g_ends_at : DRs) : DS :=
    (aSeq (aAsg (aCall g_trips (aCons (aVar 0) (aCons (aVar 1) (aCons (aVar 2) aNil)))) (aName 6))
    (aSeq (aDrop (aCall g_ask_line (aCons (aVar 3) (aCons (aVar 4) aNil))))
    (aSeq (aDrop (aCall g_ask_right (aCons (aVar 6) (aCons (aVar 4) aNil))))
    (aSeq (aAsg (aNew (aLc (aEnum (aVar 3)) (aTupG 2 (gConsD (aName 8) (gConsD (aName 9) gNilD))) (aTest (aOp (rEqq true) (aOp rIxD (aVar 4) (aVar 8)) (aOp rIxD (aVar 9) (aNeg (aC (.int 1)))))) (aVar 8) [8, 9])) (aName 7))
    (aSeq (aDrop (aCall g_ask_rows (aCons (aVar 5) (aCons (aVar 7) (aCons (aC (.str "ways")) aNil)))))
    (aSeq (aAsg aNewT (aName 10))
    (aSeq (aFor (aSeqI (aVar 6)) (aName 11) (aAsg (aVar 11) (aSubG (aVar 10) (aOp rIxD (aVar 11) (aC (.int 0))) setD)))
    (aSeq (aFor (aSeqI (aVar 5)) (aTupG 2 (gConsD (aName 8) (gConsD (aName 12) gNilD))) (aSeq (aAsg (aCall g_next_of (aCons (aOp rIxD (aVar 3) (aVar 8)) (aCons (aOp rIxD (aVar 4) (aVar 8)) aNil))) (aName 13))
    (aIfS (aOr (aTest (aOp (rIs true) (aCall g_wrong_place (aCons (aVar 10) (aCons (aVar 3) (aCons (aVar 12) aNil)))) (aC .non))) (aNot (aTest (aCall g_ends_at (aCons (aVar 10) (aCons (aVar 12) (aCons (aVar 8) (aCons (aVar 13) aNil)))))))) aNever aNext)))
    (aRet (aC (.bl true)))))))))))
abbrev N_line_asked : List Str := ["form", "base", "deeds", "choices", "line", "ways", "all_trips", "machines", "machine", "row", "by_letter", "trip", "way", "choice"]

def t_told_of (g_lowered : DRs) (g_up_to : DRs) : DS :=
    (aSeq (aAsg (aCall g_lowered (aCons (aVar 0) (aCons (aCall g_up_to (aCons (aVar 1) (aCons (aVar 2) aNil))) aNil))) (aTupG 2 (gConsD (aName 3) (gConsD (aName 4) gNilD))))
    (aSeq (aFor (aSeqI (aVar 4)) (aTupG 2 (gConsD (aName 5) (gConsD (aName 6) gNilD))) (aIfS (aTest (aOp (rInn false) (aVar 5) (aVar 2))) (aRet (aTup (aCons (aC (.str "way")) (aCons (aVar 6) aNil)))) aNext))
    (aRet (aTup (aCons (aC (.str "line")) (aCons (aVar 3) (aCons (aVar 4) aNil)))))))
abbrev N_told_of : List Str := ["all_trips", "choices", "wanted", "line", "ways", "machine", "way"]

def t_extended (g_told_of : DRs) (g_trips : DRs) : DS :=
    (aRet (aCall g_told_of (aCons (aCall g_trips (aCons (aVar 0) (aCons (aVar 1) (aCons (aVar 2) aNil)))) (aCons (aVar 3) (aCons (aVar 4) aNil)))))
abbrev N_extended : List Str := ["form", "base", "deeds", "choices", "wanted"]

def t_ask_way (g_trips : DRs) (g_wrong_place : DRs) (g_ends_at : DRs) : DS :=
    (aSeq (aAsg aNewT (aName 6))
    (aSeq (aFor (aSeqI (aCall g_trips (aCons (aVar 0) (aCons (aVar 1) (aCons (aVar 2) aNil))))) (aName 7) (aAsg (aVar 7) (aSubG (aVar 6) (aOp rIxD (aVar 7) (aC (.int 0))) setD)))
    (aSeq (aAsg (aCall g_wrong_place (aCons (aVar 6) (aCons (aVar 3) (aCons (aVar 5) aNil)))) (aName 8))
    (aSeq (aIfS (aTest (aOp (rIs true) (aVar 8) (aC .non))) aNever aNext)
    (aIfS (aNot (aTest (aAnyL (aKeysLc (aVar 4) (aName 9) aYes (aCall g_ends_at (aCons (aVar 6) (aCons (aVar 5) (aCons (aVar 9) (aCons (aOp rIxD (aVar 4) (aVar 9)) aNil))))) [9])))) aNever aNext)))))
abbrev N_ask_way : List Str := ["form", "base", "deeds", "choices", "wanted", "way", "by_letter", "trip", "place", "machine"]

def t_extended_asked (g_up_to : DRs) (g_line_asked : DRs) (g_is_letters : DRs) (g_ask_way : DRs) : DS :=
    (aSeq (aAsg (aCall g_up_to (aCons (aVar 3) (aCons (aVar 4) aNil))) (aName 6))
    (aSeq (aIfS (aOr (aNot (aTest (aIsT "tuple" (aVar 5)))) (aOr (aTest (aOp (rEqq false) (aCall rLenD (aCons (aVar 5) aNil)) (aC (.int 0)))) (aNot (aTest (aIsT "str" (aOp rIxD (aVar 5) (aC (.int 0)))))))) aNever aNext)
    (aSeq (aIfS (aAnd (aTest (aOp (rEqq false) (aOp rIxD (aVar 5) (aC (.int 0))) (aC (.str "line")))) (aTest (aOp (rEqq false) (aCall rLenD (aCons (aVar 5) aNil)) (aC (.int 3))))) (aSeq (aDrop (aCall g_line_asked (aCons (aVar 0) (aCons (aVar 1) (aCons (aVar 2) (aCons (aVar 6) (aCons (aOp rIxD (aVar 5) (aC (.int 1))) (aCons (aOp rIxD (aVar 5) (aC (.int 2))) aNil))))))))
    (aSeq (aFor (aNewI (aSortK (aVar 4))) (aName 7) (aIfS (aTest (aOp (rEqq true) (aOp rIxD (aOp rIxD (aVar 5) (aC (.int 1))) (aVar 7)) (aOp rIxD (aVar 4) (aVar 7)))) aNever aNext))
    (aRet (aC (.bl true))))) aNext)
    (aSeq (aIfS (aOr (aTest (aOp (rEqq true) (aOp rIxD (aVar 5) (aC (.int 0))) (aC (.str "way")))) (aOr (aTest (aOp (rEqq true) (aCall rLenD (aCons (aVar 5) aNil)) (aC (.int 2)))) (aNot (aTest (aCall g_is_letters (aCons (aOp rIxD (aVar 5) (aC (.int 1))) aNil)))))) aNever aNext)
    (aSeq (aDrop (aCall g_ask_way (aCons (aVar 0) (aCons (aVar 1) (aCons (aVar 2) (aCons (aVar 6) (aCons (aVar 4) (aCons (aOp rIxD (aVar 5) (aC (.int 1))) aNil))))))))
    (aRet (aC (.bl true))))))))
abbrev N_extended_asked : List Str := ["form", "base", "deeds", "choices", "wanted", "told", "row", "machine"]

def t_first_useless (g_told_of : DRs) : DS :=
    (aSeq (aFor (aEnum (aVar 1)) (aTupG 2 (gConsD (aName 2) (gConsD (aName 3) gNilD))) (aFor (aSeqI (aVar 3)) (aName 4) (aSeq (aAsg (aCall g_told_of (aCons (aVar 0) (aCons (aVar 1) (aCons (aDisp [((aVar 2), (aVar 4))]) aNil)))) (aName 5))
    (aIfS (aTest (aOp (rEqq false) (aOp rIxD (aVar 5) (aC (.int 0))) (aC (.str "way")))) (aRet (aTup (aCons (aC (.str "useless")) (aCons (aVar 2) (aCons (aVar 4) (aCons (aOp rIxD (aVar 5) (aC (.int 1))) aNil)))))) aNext))))
    (aRet (aC .non)))
abbrev N_first_useless : List Str := ["all_trips", "choices", "machine", "row", "choice", "told"]

def t_place_in (g_floor_of : DRs) : DS :=
    (aRet (aIdx (aOp rIxD (aVar 0) (aVar 1)) (aCall g_floor_of (aCons (aOp rIxD (aVar 0) (aVar 1)) (aCons (aVar 2) aNil)))))
abbrev N_place_in : List Str := ["choices", "machine", "number"]

def t_raised : DS :=
    (aSeq (aAsg (aC (.bl false)) (aName 3))
    (aSeq (aFor (aSeqI (aVar 2)) (aName 4) (aFor (aRng2 (aCons (aC (.int 1)) (aCons (aCall rLenD (aCons (aVar 4) aNil)) aNil))) (aName 5) (aIfS (aTest (aOp (rLe) (aOp rIxD (aVar 4) (aVar 5)) (aOp rIxD (aVar 4) (aOp (rSub) (aVar 5) (aC (.int 1)))))) (aSeq (aAsg (aOp (rAdd) (aOp rIxD (aVar 4) (aOp (rSub) (aVar 5) (aC (.int 1)))) (aC (.int 1))) (aSubG (aVar 4) (aVar 5) setD))
    (aAsg (aC (.bl true)) (aName 3))) aNext)))
    (aSeq (aFor (aSeqI (aVar 1)) (aTupG 4 (gConsD (aName 6) (gConsD (aName 7) (gConsD (aName 8) (gConsD (aName 9) gNilD))))) (aIfS (aTest (aOp (rLt) (aOp rIxD (aOp rIxD (aVar 2) (aVar 8)) (aVar 9)) (aOp rIxD (aOp rIxD (aVar 2) (aVar 6)) (aVar 7)))) (aSeq (aAsg (aOp rIxD (aOp rIxD (aVar 2) (aVar 6)) (aVar 7)) (aSubG (aOp rIxD (aVar 2) (aVar 8)) (aVar 9) setD))
    (aAsg (aC (.bl true)) (aName 3))) aNext))
    (aRet (aVar 3)))))
abbrev N_raised : List Str := ["choices", "steps", "numbers", "is_raised", "row", "place", "one", "ahead", "other", "behind"]

def t_numbers_of (g_trips : DRs) (g_first_useless : DRs) (g_is_whole_trip : DRs) (g_place_in : DRs) (g_raised : DRs) : DS :=
    (aSeq (aAsg (aCall g_trips (aCons (aVar 0) (aCons (aVar 1) (aCons (aVar 2) aNil)))) (aName 4))
    (aSeq (aAsg (aCall g_first_useless (aCons (aVar 4) (aCons (aVar 3) aNil))) (aName 5))
    (aSeq (aIfS (aTest (aOp (rIs true) (aVar 5) (aC .non))) (aRet (aVar 5)) aNext)
    (aSeq (aAsg (aNew aNil) (aName 6))
    (aSeq (aFor (aSeqI (aVar 4)) (aName 7) (aIfS (aTest (aCall g_is_whole_trip (aCons (aVar 7) aNil))) (aSeq (aAsg (aCall g_place_in (aCons (aVar 3) (aCons (aOp rIxD (aVar 7) (aC (.int 1))) (aCons (aOp rIxD (aVar 7) (aC (.int 2))) aNil)))) (aName 8))
    (aDrop (aApp (aVar 6) (aTup (aCons (aOp rIxD (aVar 7) (aC (.int 1))) (aCons (aVar 8) (aCons (aOp rIxD (aVar 7) (aC (.int 3))) (aCons (aCall g_place_in (aCons (aVar 3) (aCons (aOp rIxD (aVar 7) (aC (.int 3))) (aCons (aOp rIxD (aVar 7) (aC (.int 4))) aNil)))) aNil)))))))) aNext))
    (aSeq (aAsg (aNew (aLc (aSeqI (aVar 3)) (aName 10) aYes (aNew (aLc (aSeqI (aVar 10)) (aName 11) aYes (aC (.int 0)) [11])) [10])) (aName 9))
    (aSeq (aWhile (aTest (aCall g_raised (aCons (aVar 3) (aCons (aVar 6) (aCons (aVar 9) aNil))))) aNext)
    (aRet (aTup (aCons (aC (.str "numbers")) (aCons (aTupL (aLc (aSeqI (aVar 9)) (aName 10) aYes (aCall rTupD (aCons (aVar 10) aNil)) [10])) aNil)))))))))))
abbrev N_numbers_of : List Str := ["form", "base", "deeds", "choices", "all_trips", "found", "steps", "trip", "ahead", "numbers", "row", "place"]

def t_is_form_of (g_is_number : DRs) : DS :=
    (aSeq (aIfS (aOr (aNot (aTest (aIsT "tuple" (aVar 1)))) (aTest (aOp (rEqq true) (aCall rLenD (aCons (aVar 1) aNil)) (aCall rLenD (aCons (aVar 0) aNil))))) (aRet (aC (.bl false))) aNext)
    (aSeq (aFor (aZip (aCons (aVar 0) (aCons (aVar 1) aNil))) (aTupG 2 (gConsD (aName 2) (gConsD (aName 3) gNilD))) (aSeq (aIfS (aOr (aNot (aTest (aIsT "tuple" (aVar 3)))) (aTest (aOp (rEqq true) (aCall rLenD (aCons (aVar 3) aNil)) (aCall rLenD (aCons (aVar 2) aNil))))) (aRet (aC (.bl false))) aNext)
    (aIfS (aNot (aTest (aAllL (aLc (aSeqI (aVar 3)) (aName 4) aYes (aAndV (aCall g_is_number (aCons (aVar 4) aNil)) (aOp (rGe) (aVar 4) (aC (.int 0)))) [4])))) (aRet (aC (.bl false))) aNext)))
    (aRet (aC (.bl true)))))
abbrev N_is_form_of : List Str := ["choices", "numbers", "row", "own", "one"]

def t_ask_trip (g_place_in : DRs) : DS :=
    (aSeq (aAsg (aSl (aVar 2) (aPart (aC (.int 1))) aNoPart) (aTupG 4 (gConsD (aName 3) (gConsD (aName 4) (gConsD (aName 5) (gConsD (aName 6) gNilD))))))
    (aSeq (aIfS (aAnd (aTest (aOp (rLt) (aVar 6) (aOp rIxD (aOp rIxD (aVar 0) (aVar 5)) (aNeg (aC (.int 1)))))) (aTest (aOp (rGe) (aVar 4) (aOp rIxD (aOp rIxD (aVar 0) (aVar 3)) (aNeg (aC (.int 1))))))) aNever aNext)
    (aSeq (aAsg (aCall g_place_in (aCons (aVar 0) (aCons (aVar 3) (aCons (aVar 4) aNil)))) (aName 7))
    (aSeq (aAsg (aCall g_place_in (aCons (aVar 0) (aCons (aVar 5) (aCons (aVar 6) aNil)))) (aName 8))
    (aIfS (aTest (aOp (rLt) (aOp rIxD (aOp rIxD (aVar 1) (aVar 5)) (aVar 8)) (aOp rIxD (aOp rIxD (aVar 1) (aVar 3)) (aVar 7)))) aNever aNext)))))
abbrev N_ask_trip : List Str := ["choices", "numbers", "trip", "sender", "sent", "taker", "came", "ahead", "behind"]

def t_numbers_asked (g_is_form_of : DRs) (g_trips : DRs) (g_is_whole_trip : DRs) (g_ask_trip : DRs) : DS :=
    (aSeq (aIfS (aNot (aTest (aCall g_is_form_of (aCons (aVar 3) (aCons (aVar 4) aNil))))) aNever aNext)
    (aSeq (aFor (aEnum (aVar 4)) (aTupG 2 (gConsD (aName 5) (gConsD (aName 6) gNilD))) (aFor (aRng2 (aCons (aC (.int 1)) (aCons (aCall rLenD (aCons (aVar 6) aNil)) aNil))) (aName 7) (aIfS (aTest (aOp (rLe) (aOp rIxD (aVar 6) (aVar 7)) (aOp rIxD (aVar 6) (aOp (rSub) (aVar 7) (aC (.int 1)))))) aNever aNext)))
    (aSeq (aFor (aSeqI (aCall g_trips (aCons (aVar 0) (aCons (aVar 1) (aCons (aVar 2) aNil))))) (aName 8) (aIfS (aTest (aCall g_is_whole_trip (aCons (aVar 8) aNil))) (aDrop (aCall g_ask_trip (aCons (aVar 3) (aCons (aVar 4) (aCons (aVar 8) aNil))))) aNext))
    (aRet (aC (.bl true))))))
abbrev N_numbers_asked : List Str := ["form", "base", "deeds", "choices", "numbers", "machine", "own", "place", "trip"]

def t__law_feed : DS :=
    (aRet (aNew (aCons (aOp (rAdd) (aNew (aSlL (aVar 0) aNoPart (aPart (aC (.int 63))))) (aOp (rMul) (aNew (aCons (aC (.int 0)) aNil)) (aCall rInt (aCons (aOp (rEqq false) (aVar 0) (aNew aNil)) aNil)))) (aCons (aC (.int 0)) (aCons (aC (.int 0)) (aCons (aC (.int 0)) aNil))))))
abbrev N__law_feed : List Str := ["_law_script"]

def t__law_draw : DS :=
    (aSeq (aAsg (aOp (rAdd) (aOp rIxD (aVar 0) (aC (.int 3))) (aC (.int 1))) (aSubG (aVar 0) (aC (.int 3)) setD))
    (aSeq (aIfS (aTest (aOp (rGt) (aOp rIxD (aVar 0) (aC (.int 2))) (aC (.int 0)))) (aSeq (aAsg (aOp (rMod) (aOp rIxD (aVar 0) (aC (.int 2))) (aVar 1)) (aName 2))
    (aSeq (aAsg (aOp (rFdiv) (aOp rIxD (aVar 0) (aC (.int 2))) (aVar 1)) (aSubG (aVar 0) (aC (.int 2)) setD))
    (aRet (aVar 2)))) aNext)
    (aSeq (aAsg (aOp rIxD (aOp rIxD (aVar 0) (aC (.int 0))) (aOp (rMod) (aOp rIxD (aVar 0) (aC (.int 1))) (aCall rLenD (aCons (aOp rIxD (aVar 0) (aC (.int 0))) aNil)))) (aName 3))
    (aSeq (aAsg (aOp (rAdd) (aOp rIxD (aVar 0) (aC (.int 1))) (aC (.int 1))) (aSubG (aVar 0) (aC (.int 1)) setD))
    (aSeq (aIfS (aTest (aOp (rGe) (aVar 3) (aOp (rPow) (aC (.int 10)) (aC (.int 18))))) (aSeq (aAsg (aOp (rFdiv) (aVar 3) (aVar 1)) (aSubG (aVar 0) (aC (.int 2)) setD))
    (aRet (aOp (rMod) (aVar 3) (aVar 1)))) aNext)
    (aSeq (aAsg (aOp (rAdd) (aOp (rAdd) (aOp (rMul) (aOp (rMul) (aC (.int 31)) (aOp rIxD (aVar 0) (aC (.int 3)))) (aOp rIxD (aVar 0) (aC (.int 3)))) (aOp (rMul) (aC (.int 7919)) (aOp rIxD (aVar 0) (aC (.int 3))))) (aC (.int 1))) (aName 4))
    (aSeq (aAsg (aOp (rMod) (aOp (rMul) (aOp (rAdd) (aOp (rMod) (aVar 3) (aC (.int 2147483629))) (aC (.int 1))) (aVar 4)) (aC (.int 2147483647))) (aName 5))
    (aSeq (aAsg (aOp (rAdd) (aOp (rMul) (aVar 5) (aOp (rAdd) (aOp (rMod) (aVar 5) (aC (.int 65521))) (aC (.int 48271)))) (aOp rIxD (aVar 0) (aC (.int 3)))) (aName 5))
    (aRet (aOp (rMod) (aOp (rFdiv) (aOp (rMod) (aVar 5) (aC (.int 2147483629))) (aC (.int 7))) (aVar 1)))))))))))
abbrev N__law_draw : List Str := ["_law_feed_here", "_law_many", "_law_found", "_law_cell", "_law_turn", "_law_mixed"]

def t__law_rule (g__law_draw : DRs) : DS :=
    (aSeq (aAsg (aNew aNil) (aName 2))
    (aSeq (aFor (aRng1 (aCons (aC (.int 3)) aNil)) (aName 3) (aFor (aNewI (aCons (aC (.str "own")) (aCons (aC (.str "a")) (aCons (aC (.str "b")) aNil)))) (aName 4) (aIfS (aTest (aOp (rGt) (aCall g__law_draw (aCons (aVar 0) (aCons (aC (.int 6)) aNil))) (aC (.int 0)))) (aSeq (aAsg (aNew aNil) (aName 5))
    (aSeq (aFor (aRng1 (aCons (aOp (rMul) (aIxL (aCons (aC (.int 1)) (aCons (aC (.int 2)) (aCons (aC (.int 0)) (aCons (aC (.int 1)) aNil)))) (aCall g__law_draw (aCons (aVar 0) (aCons (aC (.int 4)) aNil)))) (aCall rInt (aCons (aOp (rEqq true) (aVar 1) (aNew aNil)) aNil))) aNil)) (aName 6) (aDrop (aApp (aVar 5) (aTup (aCons (aOp rIxD (aVar 1) (aCall g__law_draw (aCons (aVar 0) (aCons (aCall rLenD (aCons (aVar 1) aNil)) aNil)))) (aCons (aOp rIxD (aC (.str "abc")) (aCall g__law_draw (aCons (aVar 0) (aCons (aC (.int 3)) aNil)))) aNil))))))
    (aSeq (aAsg (aIxL (aCons (aC .non) (aCons (aC .non) (aCons (aC (.str "w")) (aCons (aC (.str "ab")) aNil)))) (aCall g__law_draw (aCons (aVar 0) (aCons (aC (.int 4)) aNil)))) (aName 7))
    (aDrop (aApp (aVar 2) (aTup (aCons (aVar 3) (aCons (aVar 4) (aCons (aCall g__law_draw (aCons (aVar 0) (aCons (aC (.int 3)) aNil))) (aCons (aCall rTupD (aCons (aVar 5) aNil)) (aCons (aVar 7) aNil))))))))))) aNext)))
    (aRet (aTup (aCons (aCall g__law_draw (aCons (aVar 0) (aCons (aC (.int 3)) aNil))) (aCons (aCall rTupD (aCons (aVar 2) aNil)) aNil))))))
abbrev N__law_rule : List Str := ["_law_feed_here", "_law_mine", "_law_moves", "_law_state", "_law_cause", "_law_sends", "_law_k", "_law_word"]

def t__law_form (g__law_draw : DRs) (g__law_rule : DRs) : DS :=
    (aSeq (aAsg (aIxL (aCons (aC (.int 2)) (aCons (aC (.int 3)) (aCons (aC (.int 3)) (aCons (aC (.int 4)) (aCons (aC (.int 1)) aNil))))) (aCall g__law_draw (aCons (aVar 0) (aCons (aC (.int 5)) aNil)))) (aName 1))
    (aSeq (aAsg (aNew aNil) (aName 2))
    (aSeq (aFor (aRng1 (aCons (aOp (rMul) (aIxL (aCons (aC (.int 2)) (aCons (aC (.int 4)) (aCons (aC (.int 3)) (aCons (aC (.int 6)) (aCons (aC (.int 8)) aNil))))) (aCall g__law_draw (aCons (aVar 0) (aCons (aC (.int 5)) aNil)))) (aCall rInt (aCons (aOp (rGt) (aVar 1) (aC (.int 1))) aNil))) aNil)) (aName 3) (aSeq (aAsg (aCall g__law_draw (aCons (aVar 0) (aCons (aVar 1) aNil))) (aName 4))
    (aSeq (aAsg (aOp (rMod) (aOp (rAdd) (aOp (rAdd) (aVar 4) (aC (.int 1))) (aCall g__law_draw (aCons (aVar 0) (aCons (aOp (rSub) (aVar 1) (aC (.int 1))) aNil)))) (aVar 1)) (aName 5))
    (aDrop (aApp (aVar 2) (aTup (aCons (aVar 4) (aCons (aVar 5) (aCons (aIxL (aCons (aC (.str "row")) (aCons (aC (.str "heap")) aNil)) (aCall g__law_draw (aCons (aVar 0) (aCons (aC (.int 2)) aNil)))) aNil)))))))))
    (aSeq (aAsg (aNew aNil) (aName 6))
    (aSeq (aFor (aRng1 (aCons (aVar 1) aNil)) (aName 7) (aDrop (aApp (aVar 6) (aCall g__law_rule (aCons (aVar 0) (aCons (aNew (aLc (aRng1 (aCons (aCall rLenD (aCons (aVar 2) aNil)) aNil)) (aName 8) (aTest (aOp (rEqq false) (aOp rIxD (aOp rIxD (aVar 2) (aVar 8)) (aC (.int 0))) (aVar 7))) (aVar 8) [8])) aNil))))))
    (aRet (aTup (aCons (aCall rTupD (aCons (aVar 6) aNil)) (aCons (aCall rTupD (aCons (aVar 2) aNil)) aNil)))))))))
abbrev N__law_form : List Str := ["_law_feed_here", "_law_machines", "_law_roads", "_law_k", "_law_one", "_law_other", "_law_rules", "_law_m", "_law_road"]

def t__law_base (g__law_draw : DRs) : DS :=
    (aSeq (aAsg (aNew aNil) (aName 2))
    (aSeq (aFor (aSeqI (aOp rIxD (aVar 1) (aC (.int 1)))) (aName 3) (aSeq (aAsg (aIxL (aCons (aC (.int 0)) (aCons (aC (.int 0)) (aCons (aC (.int 2)) (aCons (aC (.int 5)) (aCons (aOp (rPow) (aC (.int 10)) (aC (.int 6))) aNil))))) (aCall g__law_draw (aCons (aVar 0) (aCons (aC (.int 5)) aNil)))) (aName 4))
    (aSeq (aAsg (aNew (aListRg (aOp (rSub) (aVar 4) (aCall g__law_draw (aCons (aVar 0) (aCons (aOp (rAdd) (aCall rMin2 (aCons (aVar 4) (aCons (aC (.int 3)) aNil))) (aC (.int 1))) aNil)))) (aVar 4))) (aName 5))
    (aSeq (aIfS (aTest (aOp (rEqq false) (aOp rIxD (aVar 3) (aC (.int 2))) (aC (.str "heap")))) (aAsg (aNew (aLc (aSeqI (aVar 5)) (aName 6) (aTest (aOp (rEqq false) (aCall g__law_draw (aCons (aVar 0) (aCons (aC (.int 2)) aNil))) (aC (.int 0)))) (aVar 6) [6])) (aName 5)) aNext)
    (aDrop (aApp (aVar 2) (aTup (aCons (aVar 4) (aCons (aTupL (aLc (aSeqI (aVar 5)) (aName 6) aYes (aTup (aCons (aVar 6) (aCons (aOp rIxD (aC (.str "abc")) (aCall g__law_draw (aCons (aVar 0) (aCons (aC (.int 3)) aNil)))) aNil))) [6])) aNil)))))))))
    (aRet (aTup (aCons (aTupL (aLc (aSeqI (aOp rIxD (aVar 1) (aC (.int 0)))) (aName 7) aYes (aCall g__law_draw (aCons (aVar 0) (aCons (aC (.int 3)) aNil))) [7])) (aCons (aCall rTupD (aCons (aVar 2) aNil)) aNil))))))
abbrev N__law_base : List Str := ["_law_feed_here", "_law_form_here", "_law_roads", "_law_road", "_law_sent", "_law_numbers", "_law_k", "_law_rule_here"]

def t__law_begun : DS :=
    (aSeq (aAsg (aDisp [((aC (.str "form")), (aVar 0)), ((aC (.str "base")), (aVar 1)), ((aC (.str "deeds")), (aNew aNil)), ((aC (.str "ends")), (aNew (aLc (aSeqI (aOp rIxD (aVar 0) (aC (.int 0)))) (aName 3) aYes (aC (.int 0)) [3]))), ((aC (.str "trips")), aNewT)]) (aName 2))
    (aSeq (aAsg (aNew (aList (aOp rIxD (aVar 1) (aC (.int 0))))) (aSubG (aVar 2) (aC (.str "states")) setD))
    (aSeq (aAsg (aNew (aLc (aSeqI (aOp rIxD (aVar 1) (aC (.int 1)))) (aName 4) aYes (aOp rIxD (aVar 4) (aC (.int 0))) [4])) (aSubG (aVar 2) (aC (.str "sent")) setD))
    (aSeq (aAsg (aNew (aLc (aSeqI (aOp rIxD (aVar 1) (aC (.int 1)))) (aName 4) aYes (aNew (aList (aOp rIxD (aVar 4) (aC (.int 1))))) [4])) (aSubG (aVar 2) (aC (.str "waiting")) setD))
    (aSeq (aFor (aRng1 (aCons (aCall rLenD (aCons (aOp rIxD (aVar 0) (aC (.int 1))) aNil)) aNil)) (aName 4) (aFor (aSeqI (aOp rIxD (aOp rIxD (aOp rIxD (aVar 1) (aC (.int 1))) (aVar 4)) (aC (.int 1)))) (aTupG 2 (gConsD (aName 5) (gConsD (aName 6) gNilD))) (aAsg (aNew (aCons (aOp rIxD (aOp rIxD (aOp rIxD (aVar 0) (aC (.int 1))) (aVar 4)) (aC (.int 0))) (aCons (aC .non) (aCons (aOp rIxD (aOp rIxD (aOp rIxD (aVar 0) (aC (.int 1))) (aVar 4)) (aC (.int 1))) (aCons (aC .non) aNil))))) (aSubG (aOp rIxD (aVar 2) (aC (.str "trips"))) (aTup (aCons (aVar 4) (aCons (aVar 5) aNil))) setD))))
    (aRet (aVar 2)))))))
abbrev N__law_begun : List Str := ["_law_form_here", "_law_base_here", "_law_world", "_law_rule_here", "_law_road", "_law_k", "_law_sign"]

def t__law_move : DS :=
    (aSeq (aFor (aSeqI (aOp rIxD (aOp rIxD (aOp rIxD (aOp rIxD (aVar 0) (aC (.str "form"))) (aC (.int 0))) (aVar 1)) (aC (.int 1)))) (aTupG 5 (gConsD (aName 3) (gConsD (aName 4) (gConsD (aName 5) (gConsD (aName 6) (gConsD (aName 7) gNilD)))))) (aIfS (aAnd (aTest (aOp (rEqq false) (aVar 3) (aOp rIxD (aOp rIxD (aVar 0) (aC (.str "states"))) (aVar 1)))) (aTest (aOp (rEqq false) (aVar 4) (aVar 2)))) (aRet (aTup (aCons (aVar 5) (aCons (aVar 6) (aCons (aVar 7) aNil))))) aNext))
    (aRet (aC .non)))
abbrev N__law_move : List Str := ["_law_world", "_law_m", "_law_cause", "_law_state", "_law_own", "_law_behind", "_law_sends", "_law_word"]

def t__law_do (g__law_move : DRs) : DS :=
    (aSeq (aAsg (aOp rIxD (aVar 1) (aC (.int 1))) (aName 2))
    (aSeq (aAsg (aOp rIxD (aVar 1) (aC (.int 0))) (aName 3))
    (aSeq (aIfS (aTest (aOp (rEqq false) (aOp rIxD (aVar 1) (aC (.int 0))) (aC (.str "hear")))) (aAsg (aOp rIxD (aVar 1) (aC (.int 2))) (aName 3)) aNext)
    (aSeq (aIfS (aTest (aOp (rEqq false) (aOp rIxD (aVar 1) (aC (.int 0))) (aC (.str "come")))) (aSeq (aAsg (aOp rIxD (aOp rIxD (aOp rIxD (aOp rIxD (aVar 0) (aC (.str "form"))) (aC (.int 1))) (aOp rIxD (aVar 1) (aC (.int 1)))) (aC (.int 1))) (aName 2))
    (aSeq (aAsg (aOp rIxD (aCall rDictP (aCons (aOp rIxD (aOp rIxD (aVar 0) (aC (.str "waiting"))) (aOp rIxD (aVar 1) (aC (.int 1)))) aNil)) (aOp rIxD (aVar 1) (aC (.int 2)))) (aName 3))
    (aSeq (aDrop (aRem (aOp rIxD (aOp rIxD (aVar 0) (aC (.str "waiting"))) (aOp rIxD (aVar 1) (aC (.int 1)))) (aTup (aCons (aOp rIxD (aVar 1) (aC (.int 2))) (aCons (aVar 3) aNil)))))
    (aAsg (aOp rIxD (aOp rIxD (aVar 0) (aC (.str "ends"))) (aVar 2)) (aSubG (aOp rIxD (aOp rIxD (aVar 0) (aC (.str "trips"))) (aSl (aVar 1) (aPart (aC (.int 1))) aNoPart)) (aC (.int 3)) setD))))) aNext)
    (aSeq (aAsg (aCall g__law_move (aCons (aVar 0) (aCons (aVar 2) (aCons (aVar 3) aNil)))) (aName 4))
    (aSeq (aIfS (aTest (aOp (rIs true) (aVar 4) (aC .non))) (aSeq (aAsg (aOp rIxD (aVar 4) (aC (.int 0))) (aSubG (aOp rIxD (aVar 0) (aC (.str "states"))) (aVar 2) setD))
    (aFor (aSeqI (aOp rIxD (aVar 4) (aC (.int 1)))) (aTupG 2 (gConsD (aName 5) (gConsD (aName 6) gNilD))) (aSeq (aAsg (aOp rIxD (aOp rIxD (aVar 0) (aC (.str "sent"))) (aVar 5)) (aName 7))
    (aSeq (aAsg (aOp (rAdd) (aVar 7) (aC (.int 1))) (aSubG (aOp rIxD (aVar 0) (aC (.str "sent"))) (aVar 5) setD))
    (aSeq (aDrop (aApp (aOp rIxD (aOp rIxD (aVar 0) (aC (.str "waiting"))) (aVar 5)) (aTup (aCons (aVar 7) (aCons (aVar 6) aNil)))))
    (aAsg (aNew (aCons (aVar 2) (aCons (aOp rIxD (aOp rIxD (aVar 0) (aC (.str "ends"))) (aVar 2)) (aCons (aOp rIxD (aOp rIxD (aOp rIxD (aOp rIxD (aVar 0) (aC (.str "form"))) (aC (.int 1))) (aVar 5)) (aC (.int 1))) (aCons (aC .non) aNil))))) (aSubG (aOp rIxD (aVar 0) (aC (.str "trips"))) (aTup (aCons (aVar 5) (aCons (aVar 7) aNil))) setD))))))) aNext)
    (aSeq (aAsg (aOp (rAdd) (aOp rIxD (aOp rIxD (aVar 0) (aC (.str "ends"))) (aVar 2)) (aC (.int 1))) (aSubG (aOp rIxD (aVar 0) (aC (.str "ends"))) (aVar 2) setD))
    (aDrop (aApp (aOp rIxD (aVar 0) (aC (.str "deeds"))) (aVar 1))))))))))
abbrev N__law_do : List Str := ["_law_world", "_law_deed_here", "_law_m", "_law_cause", "_law_move_here", "_law_road", "_law_sign", "_law_k"]

def t__law_deed (g__law_draw : DRs) (g__law_move : DRs) : DS :=
    (aSeq (aAsg (aNew (aLc (aRng1 (aCons (aCall rLenD (aCons (aOp rIxD (aVar 1) (aC (.str "waiting"))) aNil)) aNil)) (aName 3) (aTest (aOp (rEqq true) (aOp rIxD (aOp rIxD (aVar 1) (aC (.str "waiting"))) (aVar 3)) (aNew aNil))) (aVar 3) [3])) (aName 2))
    (aSeq (aIfS (aAnd (aTest (aOp (rEqq true) (aVar 2) (aNew aNil))) (aTest (aOp (rGt) (aCall g__law_draw (aCons (aVar 0) (aCons (aC (.int 5)) aNil))) (aC (.int 1))))) (aSeq (aAsg (aOp rIxD (aVar 2) (aCall g__law_draw (aCons (aVar 0) (aCons (aCall rLenD (aCons (aVar 2) aNil)) aNil)))) (aName 3))
    (aSeq (aAsg (aC (.int 0)) (aName 4))
    (aSeq (aIfS (aTest (aOp (rEqq false) (aOp rIxD (aOp rIxD (aOp rIxD (aOp rIxD (aVar 1) (aC (.str "form"))) (aC (.int 1))) (aVar 3)) (aC (.int 2))) (aC (.str "heap")))) (aAsg (aCall g__law_draw (aCons (aVar 0) (aCons (aCall rLenD (aCons (aOp rIxD (aOp rIxD (aVar 1) (aC (.str "waiting"))) (aVar 3)) aNil)) aNil))) (aName 4)) aNext)
    (aRet (aTup (aCons (aC (.str "come")) (aCons (aVar 3) (aCons (aOp rIxD (aOp rIxD (aOp rIxD (aOp rIxD (aVar 1) (aC (.str "waiting"))) (aVar 3)) (aVar 4)) (aC (.int 0))) aNil)))))))) aNext)
    (aSeq (aAsg (aCall g__law_draw (aCons (aVar 0) (aCons (aCall rLenD (aCons (aOp rIxD (aVar 1) (aC (.str "ends"))) aNil)) aNil))) (aName 5))
    (aSeq (aIfS (aAnd (aTest (aOp (rIs true) (aCall g__law_move (aCons (aVar 1) (aCons (aVar 5) (aCons (aC (.str "own")) aNil)))) (aC .non))) (aTest (aOp (rGt) (aCall g__law_draw (aCons (aVar 0) (aCons (aC (.int 3)) aNil))) (aC (.int 0))))) (aRet (aTup (aCons (aC (.str "own")) (aCons (aVar 5) aNil)))) aNext)
    (aRet (aTup (aCons (aC (.str "hear")) (aCons (aVar 5) (aCons (aOp rIxD (aC (.str "abc")) (aCall g__law_draw (aCons (aVar 0) (aCons (aC (.int 3)) aNil)))) aNil)))))))))
abbrev N__law_deed : List Str := ["_law_feed_here", "_law_world", "_law_full", "_law_road", "_law_at", "_law_m"]

def t__law_run (g__law_form : DRs) (g__law_begun : DRs) (g__law_base : DRs) (g__law_draw : DRs) (g__law_do : DRs) (g__law_deed : DRs) : DS :=
    (aSeq (aAsg (aCall g__law_form (aCons (aVar 0) aNil)) (aName 2))
    (aSeq (aAsg (aCall g__law_begun (aCons (aVar 2) (aCons (aCall g__law_base (aCons (aVar 0) (aCons (aVar 2) aNil))) aNil))) (aName 3))
    (aSeq (aFor (aRng1 (aCons (aOp (rAdd) (aIxL (aCons (aOp (rFdiv) (aVar 1) (aC (.int 4))) (aCons (aOp (rFdiv) (aVar 1) (aC (.int 2))) (aCons (aVar 1) (aCons (aC (.int 0)) aNil)))) (aCall g__law_draw (aCons (aVar 0) (aCons (aC (.int 4)) aNil)))) (aCall g__law_draw (aCons (aVar 0) (aCons (aC (.int 6)) aNil)))) aNil)) (aName 4) (aDrop (aCall g__law_do (aCons (aVar 3) (aCons (aCall g__law_deed (aCons (aVar 0) (aCons (aVar 3) aNil))) aNil)))))
    (aRet (aVar 3)))))
abbrev N__law_run : List Str := ["_law_feed_here", "_law_most", "_law_form_here", "_law_world", "_law_k"]

def t__law_choices (g__law_draw : DRs) : DS :=
    (aSeq (aAsg (aOp (rAdd) (aC (.int 2)) (aCall g__law_draw (aCons (aVar 0) (aCons (aC (.int 4)) aNil)))) (aName 2))
    (aSeq (aAsg (aNew aNil) (aName 3))
    (aSeq (aFor (aSeqI (aOp rIxD (aVar 1) (aC (.str "ends")))) (aName 4) (aDrop (aApp (aVar 3) (aOp (rCatF') (aTupF (aCons (aC (.int 0)) aNil)) (aTupL (aLc (aRng2 (aCons (aC (.int 1)) (aCons (aOp (rAdd) (aVar 4) (aC (.int 1))) aNil))) (aName 5) (aTest (aOp (rEqq false) (aCall g__law_draw (aCons (aVar 0) (aCons (aVar 2) aNil))) (aC (.int 0)))) (aVar 5) [5]))))))
    (aRet (aCall rTupD (aCons (aVar 3) aNil))))))
abbrev N__law_choices : List Str := ["_law_feed_here", "_law_world", "_law_some", "_law_rows", "_law_many", "_law_place"]

def t__law_wanted (g__law_draw : DRs) : DS :=
    (aSeq (aAsg aNewK (aName 2))
    (aSeq (aFor (aRng1 (aCons (aCall rLenD (aCons (aVar 1) aNil)) aNil)) (aName 3) (aIfS (aTest (aOp (rEqq false) (aCall g__law_draw (aCons (aVar 0) (aCons (aC (.int 2)) aNil))) (aC (.int 0)))) (aAsg (aOp rIxD (aOp rIxD (aVar 1) (aVar 3)) (aCall g__law_draw (aCons (aVar 0) (aCons (aCall rLenD (aCons (aOp rIxD (aVar 1) (aVar 3)) aNil)) aNil)))) (aSubG (aVar 2) (aVar 3) setD)) aNext))
    (aRet (aVar 2))))
abbrev N__law_wanted : List Str := ["_law_feed_here", "_law_choices_here", "_law_wanted_here", "_law_m"]

def t__law_machine : DS :=
    (aSeq (aIfS (aTest (aOp (rEqq false) (aOp rIxD (aVar 1) (aC (.int 0))) (aC (.str "come")))) (aRet (aOp rIxD (aOp rIxD (aOp rIxD (aOp rIxD (aVar 0) (aC (.str "form"))) (aC (.int 1))) (aOp rIxD (aVar 1) (aC (.int 1)))) (aC (.int 1)))) aNext)
    (aRet (aOp rIxD (aVar 1) (aC (.int 1)))))
abbrev N__law_machine : List Str := ["_law_world", "_law_deed_here"]

def t__law_can : DS :=
    (aSeq (aIfS (aTest (aOp (rEqq true) (aOp rIxD (aVar 1) (aC (.int 0))) (aC (.str "come")))) (aRet (aC (.bl true))) aNext)
    (aSeq (aAsg (aNew (aLc (aSeqI (aOp rIxD (aOp rIxD (aVar 0) (aC (.str "waiting"))) (aOp rIxD (aVar 1) (aC (.int 1))))) (aName 3) aYes (aOp rIxD (aVar 3) (aC (.int 0))) [3])) (aName 2))
    (aSeq (aIfS (aTest (aOp (rEqq false) (aOp rIxD (aOp rIxD (aOp rIxD (aOp rIxD (aVar 0) (aC (.str "form"))) (aC (.int 1))) (aOp rIxD (aVar 1) (aC (.int 1)))) (aC (.int 2))) (aC (.str "row")))) (aRet (aOp (rEqq false) (aNew (aSlL (aVar 2) aNoPart (aPart (aC (.int 1))))) (aNew (aCons (aOp rIxD (aVar 1) (aC (.int 2))) aNil)))) aNext)
    (aRet (aOp (rInn false) (aOp rIxD (aVar 1) (aC (.int 2))) (aVar 2))))))
abbrev N__law_can : List Str := ["_law_world", "_law_deed_here", "_law_numbers", "_law_letter"]

def t__law_other_order (g__law_machine : DRs) (g__law_begun : DRs) (g__law_can : DRs) (g__law_do : DRs) (g__law_draw : DRs) : DS :=
    (aSeq (aAsg (aNew (aLc (aRng1 (aCons (aCall rLenD (aCons (aOp rIxD (aVar 1) (aC (.str "ends"))) aNil)) aNil)) (aName 3) aYes (aNew (aLc (aSeqI (aOp rIxD (aVar 1) (aC (.str "deeds")))) (aName 4) (aTest (aOp (rEqq false) (aCall g__law_machine (aCons (aVar 1) (aCons (aVar 4) aNil))) (aVar 3))) (aVar 4) [4])) [3])) (aName 2))
    (aSeq (aAsg (aCall g__law_begun (aCons (aOp rIxD (aVar 1) (aC (.str "form"))) (aCons (aOp rIxD (aVar 1) (aC (.str "base"))) aNil))) (aName 5))
    (aSeq (aFor (aRng1 (aCons (aCall rLenD (aCons (aOp rIxD (aVar 1) (aC (.str "deeds"))) aNil)) aNil)) (aName 6) (aSeq (aAsg (aNew (aLc (aRng1 (aCons (aCall rLenD (aCons (aVar 2) aNil)) aNil)) (aName 3) (aAnd (aTest (aOp (rEqq true) (aOp rIxD (aVar 2) (aVar 3)) (aNew aNil))) (aTest (aCall g__law_can (aCons (aVar 5) (aCons (aOp rIxD (aOp rIxD (aVar 2) (aVar 3)) (aC (.int 0))) aNil))))) (aVar 3) [3])) (aName 7))
    (aDrop (aCall g__law_do (aCons (aVar 5) (aCons (aPopAt (aOp rIxD (aVar 2) (aOp rIxD (aVar 7) (aCall g__law_draw (aCons (aVar 0) (aCons (aCall rLenD (aCons (aVar 7) aNil)) aNil))))) (aC (.int 0))) aNil))))))
    (aRet (aOp rIxD (aVar 5) (aC (.str "deeds")))))))
abbrev N__law_other_order : List Str := ["_law_feed_here", "_law_world", "_law_rows", "_law_m", "_law_deed_here", "_law_other", "_law_k", "_law_ready"]

def t_law (g__law_feed : DRs) (g__law_run : DRs) (g__law_choices : DRs) (g__law_wanted : DRs) (g__law_other_order : DRs) (g_latest : DRs) (g_line_asked : DRs) (g_extended : DRs) (g_extended_asked : DRs) (g_numbers_of : DRs) (g_numbers_asked : DRs) : DS :=
    (aSeq (aAsg (aCall g__law_feed (aCons (aVar 0) aNil)) (aName 1))
    (aSeq (aAsg (aCall g__law_run (aCons (aVar 1) (aCons (aC (.int 30)) aNil))) (aName 2))
    (aSeq (aAsg (aCall g__law_choices (aCons (aVar 1) (aCons (aVar 2) aNil))) (aName 3))
    (aSeq (aAsg (aCall g__law_wanted (aCons (aVar 1) (aCons (aVar 3) aNil))) (aName 4))
    (aSeq (aAsg (aOp rIxD (aVar 2) (aC (.str "form"))) (aName 5))
    (aSeq (aAsg (aOp rIxD (aVar 2) (aC (.str "base"))) (aName 6))
    (aSeq (aAsg (aNew (aList (aOp rIxD (aVar 2) (aC (.str "deeds"))))) (aName 7))
    (aSeq (aAsg (aCall g__law_other_order (aCons (aVar 1) (aCons (aVar 2) aNil))) (aName 8))
    (aSeq (aAsg (aCall g_latest (aCons (aVar 5) (aCons (aVar 6) (aCons (aVar 7) (aCons (aVar 3) aNil))))) (aTupG 2 (gConsD (aName 9) (gConsD (aName 10) gNilD))))
    (aSeq (aIfS (aTest (aOp (rEqq true) (aRepr (aOp rIxD (aCall g_latest (aCons (aVar 5) (aCons (aVar 6) (aCons (aVar 8) (aCons (aVar 3) aNil))))) (aC (.int 0)))) (aRepr (aVar 9)))) (aRet (aC (.bl false))) aNext)
    (aSeq (aIfS (aTest (aOp (rIs true) (aCall g_line_asked (aCons (aVar 5) (aCons (aVar 6) (aCons (aVar 8) (aCons (aVar 3) (aCons (aVar 9) (aCons (aVar 10) aNil))))))) (aC (.bl true)))) (aRet (aC (.bl false))) aNext)
    (aSeq (aAsg (aCall g_extended (aCons (aVar 5) (aCons (aVar 6) (aCons (aVar 7) (aCons (aVar 3) (aCons (aVar 4) aNil)))))) (aName 11))
    (aSeq (aAsg (aCall g_extended (aCons (aVar 5) (aCons (aVar 6) (aCons (aVar 8) (aCons (aVar 3) (aCons (aVar 4) aNil)))))) (aName 12))
    (aSeq (aIfS (aOr (aTest (aOp (rEqq true) (aOp rIxD (aVar 11) (aC (.int 0))) (aOp rIxD (aVar 12) (aC (.int 0))))) (aAnd (aTest (aOp (rEqq false) (aOp rIxD (aVar 11) (aC (.int 0))) (aC (.str "line")))) (aTest (aOp (rEqq true) (aOp rIxD (aVar 11) (aC (.int 1))) (aOp rIxD (aVar 12) (aC (.int 1))))))) (aRet (aC (.bl false))) aNext)
    (aSeq (aIfS (aTest (aOp (rIs true) (aCall g_extended_asked (aCons (aVar 5) (aCons (aVar 6) (aCons (aVar 8) (aCons (aVar 3) (aCons (aVar 4) (aCons (aVar 11) aNil))))))) (aC (.bl true)))) (aRet (aC (.bl false))) aNext)
    (aSeq (aAsg (aCall g_numbers_of (aCons (aVar 5) (aCons (aVar 6) (aCons (aVar 7) (aCons (aVar 3) aNil))))) (aName 11))
    (aSeq (aAsg (aCall g_numbers_of (aCons (aVar 5) (aCons (aVar 6) (aCons (aVar 8) (aCons (aVar 3) aNil))))) (aName 12))
    (aSeq (aIfS (aTest (aOp (rEqq false) (aOp rIxD (aVar 11) (aC (.int 0))) (aC (.str "useless")))) (aRet (aOp (rEqq false) (aSl (aVar 11) aNoPart (aPart (aC (.int 3)))) (aSl (aVar 12) aNoPart (aPart (aC (.int 3)))))) aNext)
    (aRet (aAndV (aOp (rEqq false) (aVar 11) (aVar 12)) (aOp (rIs false) (aCall g_numbers_asked (aCons (aVar 5) (aCons (aVar 6) (aCons (aVar 8) (aCons (aVar 3) (aCons (aOp rIxD (aVar 11) (aC (.int 1))) aNil)))))) (aC (.bl true)))))))))))))))))))))))
abbrev N_law : List Str := ["_law_script", "_law_feed_here", "_law_world", "_law_choices_here", "_law_wanted_here", "_law_form_here", "_law_base_here", "_law_one", "_law_other", "_law_line", "_law_ways", "_law_told", "_law_again"]

end Cs

/-! ## CsW -/
namespace Cs
open PySem PySem.Spec PyProof.Rows L2 Dl

theorem sc_up_to : FnScope N_up_to ["choices", "wanted"] (defScope (top 1)) := ⟨rfl, rfl, rfl, by decide +kernel, rfl, by decide +kernel, by decide +kernel⟩
theorem cal_up_to {P : Program} {w : World} {K : PySem.W.Frag} {mg : Str → Option Value} {base : Heap} {k : Nat} {G : DRs} (Z : Fz mg) (F : Df K mg "up_to" (top 1))
    (len : ∀ ds μ Q, G ds μ Q → ds.length = 2) (hG : ∀ ds μ Q, G ds μ Q → Body (t_up_to) 6 ds μ Q) : Cal P w K mg base (k + 1) "up_to" G := by
  refine cal_own F sc_up_to (fun _ _ _ _ _ _ us hl => match us, hl with | [_, _], _ => rfl) (fun f cdv A outer s H E hr => ?_) len hG
  have hu := hu_of hr
  have hu64 := hr.units
  have hc : (cxOf CX0 P w K mg base N_up_to "up_to" (defScope (top 1)) f cdv A outer s H E).nox.calm = true := rfl
  have hN := (sc_up_to).nd
  exact (mss_cons (ms_set (i := 2) hN rfl (by first | exact Or.inl rfl | exact Or.inr rfl) (me_new (ml_lst ma_nil)))
    (mss_cons (ms_for PassesOwn.never hc (mi_enum Z.enumerate (me_var 0)) (mg_tup (by exact hc) (mgs_cons (mg_name (i := 3) (by exact hN) (by rfl) (by first | exact Or.inl rfl | exact Or.inr rfl)) (mgs_cons (mg_name (i := 4) (by exact hN) (by rfl) (by first | exact Or.inl rfl | exact Or.inr rfl)) mgs_nil))) (mss_cons (ms_if (mt_cmp (mo_in hu) (me_var 3) (me_var 1) (by rfl)) (mss_one (ms_set (i := 4) hN rfl (by first | exact Or.inl rfl | exact Or.inr rfl) (me_tupL Z.tuple (ml_lc (by exact hc) (by exact hN) (mi_seq (me_var 4)) (blkOk_by (own := [("place", 5)]) (by rfl)) (fun _ _ _ _ _ => (mg_name (i := 5) (by exact hN) (by rfl) (by first | exact Or.inl rfl | exact Or.inr rfl))) (fun _ _ _ _ _ => (mts_one (mt_cmp (mo_le) (me_var 5) (me_ix hu (me_var 1) (me_var 3)) (nomark _)))) (fun _ _ _ _ _ => (me_var 5)))))) mss_nil)
    (mss_one (ms_expr (me_append (me_var 2) (me_var 4))))))
    (mss_one (ms_ret (me_callTy mc_tup Z.tuple bt_tuple (ma_cons (me_var 2) ma_nil))))))

theorem sc_floor_of : FnScope N_floor_of ["row", "number"] (defScope (top 2)) := ⟨rfl, rfl, rfl, by decide +kernel, rfl, by decide +kernel, by decide +kernel⟩
theorem cal_floor_of {P : Program} {w : World} {K : PySem.W.Frag} {mg : Str → Option Value} {base : Heap} {k : Nat} {G : DRs} (Z : Fz mg) (F : Df K mg "floor_of" (top 2))
    (len : ∀ ds μ Q, G ds μ Q → ds.length = 2) (hG : ∀ ds μ Q, G ds μ Q → Body (t_floor_of) 3 ds μ Q) : Cal P w K mg base (k + 1) "floor_of" G := by
  refine cal_own F sc_floor_of (fun _ _ _ _ _ _ us hl => match us, hl with | [_, _], _ => rfl) (fun f cdv A outer s H E hr => ?_) len hG
  have hu := hu_of hr
  have hu64 := hr.units
  have hc : (cxOf CX0 P w K mg base N_floor_of "floor_of" (defScope (top 2)) f cdv A outer s H E).nox.calm = true := rfl
  have hN := (sc_floor_of).nd
  exact (mss_one (ms_ret (me_maxL (by exact hc) Z.max (ml_lc (by exact hc) (by exact hN) (mi_seq (me_var 0)) (blkOk_by (own := [("place", 2)]) (by rfl)) (fun _ _ _ _ _ => (mg_name (i := 2) (by exact hN) (by rfl) (by first | exact Or.inl rfl | exact Or.inr rfl))) (fun _ _ _ _ _ => (mts_one (mt_cmp (mo_le) (me_var 2) (me_var 1) (nomark _)))) (fun _ _ _ _ _ => (me_var 2))))))

theorem sc_next_of : FnScope N_next_of ["row", "place"] (defScope (top 3)) := ⟨rfl, rfl, rfl, by decide +kernel, rfl, by decide +kernel, by decide +kernel⟩
theorem cal_next_of {P : Program} {w : World} {K : PySem.W.Frag} {mg : Str → Option Value} {base : Heap} {k : Nat} {G : DRs} (Z : Fz mg) (F : Df K mg "next_of" (top 3))
    (len : ∀ ds μ Q, G ds μ Q → ds.length = 2) (hG : ∀ ds μ Q, G ds μ Q → Body (t_next_of) 4 ds μ Q) : Cal P w K mg base (k + 1) "next_of" G := by
  refine cal_own F sc_next_of (fun _ _ _ _ _ _ us hl => match us, hl with | [_, _], _ => rfl) (fun f cdv A outer s H E hr => ?_) len hG
  have hu := hu_of hr
  have hu64 := hr.units
  have hc : (cxOf CX0 P w K mg base N_next_of "next_of" (defScope (top 3)) f cdv A outer s H E).nox.calm = true := rfl
  have hN := (sc_next_of).nd
  exact (mss_cons (ms_setLc (j := 2) hc hN rfl rfl (sw_true rfl rfl rfl rfl) (mi_seq (me_var 0)) (blkOk_by (own := [("one", 3)]) (by rfl)) (fun _ _ _ _ _ => (mg_name (i := 3) (by exact hN) (by rfl) (by first | exact Or.inl rfl | exact Or.inr rfl))) (fun _ _ _ _ _ => (mts_one (mt_cmp (mo_gt) (me_var 3) (me_var 1) (nomark _)))) (fun _ _ _ _ _ => (me_var 3)))
    (mss_cons (ms_if (mt_cmp (mo_eq hu64) (me_var 2) (me_new (ml_lst ma_nil)) (nomark _)) (mss_one (ms_ret me_non)) mss_nil)
    (mss_one (ms_ret (me_ix hu (me_var 2) me_int)))))

theorem sc_is_whole : FnScope N_is_whole ["thing"] (defScope (top 13)) := ⟨rfl, rfl, rfl, by decide +kernel, rfl, by decide +kernel, by decide +kernel⟩
theorem cal_is_whole {P : Program} {w : World} {K : PySem.W.Frag} {mg : Str → Option Value} {base : Heap} {k : Nat} {G : DRs} (Z : Fz mg) (F : Df K mg "is_whole" (top 13))
    (len : ∀ ds μ Q, G ds μ Q → ds.length = 1) (hG : ∀ ds μ Q, G ds μ Q → Body (t_is_whole) 1 ds μ Q) : Cal P w K mg base (k + 1) "is_whole" G := by
  refine cal_own F sc_is_whole (fun _ _ _ _ _ _ us hl => match us, hl with | [_], _ => rfl) (fun f cdv A outer s H E hr => ?_) len hG
  have hu := hu_of hr
  have hu64 := hr.units
  have hc : (cxOf CX0 P w K mg base N_is_whole "is_whole" (defScope (top 13)) f cdv A outer s H E).nox.calm = true := rfl
  have hN := (sc_is_whole).nd
  exact (mss_one (ms_ret (me_and (me_isT (T := "int") rfl Z.isinstance Z.int bt_int (me_var 0)) (me_one (me_not (me_isT (T := "bool") rfl Z.isinstance Z.bool bt_bool (me_var 0)))))))

theorem sc_is_within : FnScope N_is_within ["thing", "low", "high"] (defScope (top 14)) := ⟨rfl, rfl, rfl, by decide +kernel, rfl, by decide +kernel, by decide +kernel⟩
theorem cal_is_within {P : Program} {w : World} {K : PySem.W.Frag} {mg : Str → Option Value} {base : Heap} {k : Nat} {G : DRs} {g_is_whole : DRs} (Z : Fz mg) (F : Df K mg "is_within" (top 14)) (c_is_whole : Cal P w K mg base k "is_whole" g_is_whole)
    (len : ∀ ds μ Q, G ds μ Q → ds.length = 3) (hG : ∀ ds μ Q, G ds μ Q → Body (t_is_within g_is_whole) 3 ds μ Q) : Cal P w K mg base (k + 1) "is_within" G := by
  refine cal_own F sc_is_within (fun _ _ _ _ _ _ us hl => match us, hl with | [_, _, _], _ => rfl) (fun f cdv A outer s H E hr => ?_) len hG
  have hu := hu_of hr
  have hu64 := hr.units
  have hc : (cxOf CX0 P w K mg base N_is_within "is_within" (defScope (top 14)) f cdv A outer s H E).nox.calm = true := rfl
  have hN := (sc_is_within).nd
  exact (mss_one (ms_ret (me_and (me_call c_is_whole hr (ma_cons (me_var 0) ma_nil)) (me_one (me_chain (mo_le) (mo_le) (me_var 1) (me_var 0) (me_var 2) (by rfl))))))

theorem sc_is_word : FnScope N_is_word ["thing"] (defScope (top 15)) := ⟨rfl, rfl, rfl, by decide +kernel, rfl, by decide +kernel, by decide +kernel⟩
theorem cal_is_word {P : Program} {w : World} {K : PySem.W.Frag} {mg : Str → Option Value} {base : Heap} {k : Nat} {G : DRs} (Z : Fz mg) (F : Df K mg "is_word" (top 15))
    (len : ∀ ds μ Q, G ds μ Q → ds.length = 1) (hG : ∀ ds μ Q, G ds μ Q → Body (t_is_word) 2 ds μ Q) : Cal P w K mg base (k + 1) "is_word" G := by
  refine cal_own F sc_is_word (fun _ _ _ _ _ _ us hl => match us, hl with | [_], _ => rfl) (fun f cdv A outer s H E hr => ?_) len hG
  have hu := hu_of hr
  have hu64 := hr.units
  have hc : (cxOf CX0 P w K mg base N_is_word "is_word" (defScope (top 15)) f cdv A outer s H E).nox.calm = true := rfl
  have hN := (sc_is_word).nd
  exact (mss_cons (ms_if (mt_w (mw_or (mt_not (mt_val (me_isT (T := "str") rfl Z.isinstance Z.str bt_str (me_var 0)))) (mw_or (mt_cmp (mo_lt) (me_callB mc_len Z.len bt_len (ma_cons (me_var 0) ma_nil)) me_int (nomark _)) (mw_or1 (mt_cmp (mo_gt) (me_callB mc_len Z.len bt_len (ma_cons (me_var 0) ma_nil)) (me_gint Z.most) (nomark _)))))) (mss_one (ms_ret me_bl)) mss_nil)
    (mss_one (ms_ret (me_allL (by exact hc) Z.all (ml_lc (by exact hc) (by exact hN) (mi_str (me_var 0)) (blkOk_by (own := [("sign", 1)]) (by rfl)) (fun _ _ _ _ _ => (mg_name (i := 1) (by exact hN) (by rfl) (by first | exact Or.inl rfl | exact Or.inr rfl))) (fun _ _ _ _ _ => mts_nil) (fun _ _ _ _ _ => (me_cmp (mo_in hu) (me_var 1) (me_gstr Z.letters) (by rfl))))))))

theorem sc_is_sign : FnScope N_is_sign ["thing"] (defScope (top 16)) := ⟨rfl, rfl, rfl, by decide +kernel, rfl, by decide +kernel, by decide +kernel⟩
theorem cal_is_sign {P : Program} {w : World} {K : PySem.W.Frag} {mg : Str → Option Value} {base : Heap} {k : Nat} {G : DRs} {g_is_word : DRs} (Z : Fz mg) (F : Df K mg "is_sign" (top 16)) (c_is_word : Cal P w K mg base k "is_word" g_is_word)
    (len : ∀ ds μ Q, G ds μ Q → ds.length = 1) (hG : ∀ ds μ Q, G ds μ Q → Body (t_is_sign g_is_word) 1 ds μ Q) : Cal P w K mg base (k + 1) "is_sign" G := by
  refine cal_own F sc_is_sign (fun _ _ _ _ _ _ us hl => match us, hl with | [_], _ => rfl) (fun f cdv A outer s H E hr => ?_) len hG
  have hu := hu_of hr
  have hu64 := hr.units
  have hc : (cxOf CX0 P w K mg base N_is_sign "is_sign" (defScope (top 16)) f cdv A outer s H E).nox.calm = true := rfl
  have hN := (sc_is_sign).nd
  exact (mss_one (ms_ret (me_and (me_call c_is_word hr (ma_cons (me_var 0) ma_nil)) (me_one (me_cmp (mo_eq hu64) (me_callB mc_len Z.len bt_len (ma_cons (me_var 0) ma_nil)) me_int (nomark _))))))

theorem sc_is_tuple : FnScope N_is_tuple ["thing", "many"] (defScope (top 17)) := ⟨rfl, rfl, rfl, by decide +kernel, rfl, by decide +kernel, by decide +kernel⟩
theorem cal_is_tuple {P : Program} {w : World} {K : PySem.W.Frag} {mg : Str → Option Value} {base : Heap} {k : Nat} {G : DRs} (Z : Fz mg) (F : Df K mg "is_tuple" (top 17))
    (len : ∀ ds μ Q, G ds μ Q → ds.length = 2) (hG : ∀ ds μ Q, G ds μ Q → Body (t_is_tuple) 2 ds μ Q) : Cal P w K mg base (k + 1) "is_tuple" G := by
  refine cal_own F sc_is_tuple (fun _ _ _ _ _ _ us hl => match us, hl with | [_, _], _ => rfl) (fun f cdv A outer s H E hr => ?_) len hG
  have hu := hu_of hr
  have hu64 := hr.units
  have hc : (cxOf CX0 P w K mg base N_is_tuple "is_tuple" (defScope (top 17)) f cdv A outer s H E).nox.calm = true := rfl
  have hN := (sc_is_tuple).nd
  exact (mss_one (ms_ret (me_and (me_isT (T := "tuple") rfl Z.isinstance Z.tuple bt_tuple (me_var 0)) (me_one (me_cmp (mo_eq hu64) (me_callB mc_len Z.len bt_len (ma_cons (me_var 0) ma_nil)) (me_var 1) (nomark _))))))

theorem sc_answer : FnScope N_answer ["form", "m", "state", "cause"] (defScope (top 18)) := ⟨rfl, rfl, rfl, by decide +kernel, rfl, by decide +kernel, by decide +kernel⟩
theorem cal_answer {P : Program} {w : World} {K : PySem.W.Frag} {mg : Str → Option Value} {base : Heap} {k : Nat} {G : DRs} (Z : Fz mg) (F : Df K mg "answer" (top 18))
    (len : ∀ ds μ Q, G ds μ Q → ds.length = 4) (hG : ∀ ds μ Q, G ds μ Q → Body (t_answer) 5 ds μ Q) : Cal P w K mg base (k + 1) "answer" G := by
  refine cal_own F sc_answer (fun _ _ _ _ _ _ us hl => match us, hl with | [_, _, _, _], _ => rfl) (fun f cdv A outer s H E hr => ?_) len hG
  have hu := hu_of hr
  have hu64 := hr.units
  have hc : (cxOf CX0 P w K mg base N_answer "answer" (defScope (top 18)) f cdv A outer s H E).nox.calm = true := rfl
  have hN := (sc_answer).nd
  exact (mss_cons (ms_for PassesOwn.never hc (mi_seq (me_ix hu (me_ix hu (me_ix hu (me_var 0) me_int) (me_var 1)) me_int)) (mg_name (i := 4) (by exact hN) (by rfl) (by first | exact Or.inl rfl | exact Or.inr rfl)) (mss_one (ms_if (mt_w (mw_and (mt_cmp (mo_eq hu64) (me_ix hu (me_var 4) me_int) (me_var 2) (nomark _)) (mw_and1 (mt_cmp (mo_eq hu64) (me_ix hu (me_var 4) me_int) (me_var 3) (nomark _))))) (mss_one (ms_ret (me_tup (ma_cons (me_ix hu (me_var 4) me_int) (ma_cons (me_ix hu (me_var 4) me_int) (ma_cons (me_ix hu (me_var 4) me_int) ma_nil)))))) mss_nil)))
    (mss_cons (ms_if (mt_cmp (mo_eq hu64) (me_var 3) me_str (nomark _)) (mss_one (ms_ret me_non)) mss_nil)
    (mss_one (ms_ret (me_tup (ma_cons (me_var 2) (ma_cons (me_tup ma_nil) (ma_cons me_non ma_nil))))))))

theorem sc_waits : FnScope N_waits ["stand", "road"] (defScope (top 20)) := ⟨rfl, rfl, rfl, by decide +kernel, rfl, by decide +kernel, by decide +kernel⟩
theorem cal_waits {P : Program} {w : World} {K : PySem.W.Frag} {mg : Str → Option Value} {base : Heap} {k : Nat} {G : DRs} (Z : Fz mg) (F : Df K mg "waits" (top 20))
    (len : ∀ ds μ Q, G ds μ Q → ds.length = 2) (hG : ∀ ds μ Q, G ds μ Q → Body (t_waits) 2 ds μ Q) : Cal P w K mg base (k + 1) "waits" G := by
  refine cal_own F sc_waits (fun _ _ _ _ _ _ us hl => match us, hl with | [_, _], _ => rfl) (fun f cdv A outer s H E hr => ?_) len hG
  have hu := hu_of hr
  have hu64 := hr.units
  have hc : (cxOf CX0 P w K mg base N_waits "waits" (defScope (top 20)) f cdv A outer s H E).nox.calm = true := rfl
  have hN := (sc_waits).nd
  exact (mss_one (ms_ret (me_new (ml_list Z.list (me_ix hu (me_ix hu (me_ix hu (me_var 0) me_int) (me_var 1)) me_int)))))

theorem sc_is_plain : FnScope N_is_plain ["form", "thing"] (defScope (top 22)) := ⟨rfl, rfl, rfl, by decide +kernel, rfl, by decide +kernel, by decide +kernel⟩
theorem cal_is_plain {P : Program} {w : World} {K : PySem.W.Frag} {mg : Str → Option Value} {base : Heap} {k : Nat} {G : DRs} {g_is_within g_is_sign g_is_tuple g_is_whole : DRs} (Z : Fz mg) (F : Df K mg "is_plain" (top 22)) (c_is_within : Cal P w K mg base k "is_within" g_is_within) (c_is_sign : Cal P w K mg base k "is_sign" g_is_sign) (c_is_tuple : Cal P w K mg base k "is_tuple" g_is_tuple) (c_is_whole : Cal P w K mg base k "is_whole" g_is_whole)
    (len : ∀ ds μ Q, G ds μ Q → ds.length = 2) (hG : ∀ ds μ Q, G ds μ Q → Body (t_is_plain g_is_within g_is_sign g_is_tuple g_is_whole) 2 ds μ Q) : Cal P w K mg base (k + 1) "is_plain" G := by
  refine cal_own F sc_is_plain (fun _ _ _ _ _ _ us hl => match us, hl with | [_, _], _ => rfl) (fun f cdv A outer s H E hr => ?_) len hG
  have hu := hu_of hr
  have hu64 := hr.units
  have hc : (cxOf CX0 P w K mg base N_is_plain "is_plain" (defScope (top 22)) f cdv A outer s H E).nox.calm = true := rfl
  have hN := (sc_is_plain).nd
  exact (mss_cons (ms_if (mt_w (mw_or (mt_not (mt_val (me_isT (T := "tuple") rfl Z.isinstance Z.tuple bt_tuple (me_var 1)))) (mw_or (mt_cmp (mo_lt) (me_callB mc_len Z.len bt_len (ma_cons (me_var 1) ma_nil)) me_int (nomark _)) (mw_or1 (mt_not (mt_val (me_isT (T := "str") rfl Z.isinstance Z.str bt_str (me_ix hu (me_var 1) me_int)))))))) (mss_one (ms_ret me_bl)) mss_nil)
    (mss_cons (ms_if (mt_cmp (mo_eq hu64) (me_ix hu (me_var 1) me_int) me_str (nomark _)) (mss_one (ms_ret (me_and (me_cmp (mo_eq hu64) (me_callB mc_len Z.len bt_len (ma_cons (me_var 1) ma_nil)) me_int (nomark _)) (me_one (me_call c_is_within hr (ma_cons (me_ix hu (me_var 1) me_int) (ma_cons me_int (ma_cons (me_op (mo_sub) (me_callB mc_len Z.len bt_len (ma_cons (me_ix hu (me_var 0) me_int) ma_nil)) me_int) ma_nil)))))))) mss_nil)
    (mss_cons (ms_if (mt_cmp (mo_eq hu64) (me_ix hu (me_var 1) me_int) me_str (nomark _)) (mss_one (ms_ret (me_and (me_cmp (mo_eq hu64) (me_callB mc_len Z.len bt_len (ma_cons (me_var 1) ma_nil)) me_int (nomark _)) (me_and (me_call c_is_within hr (ma_cons (me_ix hu (me_var 1) me_int) (ma_cons me_int (ma_cons (me_op (mo_sub) (me_callB mc_len Z.len bt_len (ma_cons (me_ix hu (me_var 0) me_int) ma_nil)) me_int) ma_nil)))) (me_one (me_call c_is_sign hr (ma_cons (me_ix hu (me_var 1) me_int) ma_nil))))))) mss_nil)
    (mss_one (ms_ret (me_and (me_cmp (mo_eq hu64) (me_ix hu (me_var 1) me_int) me_str (nomark _)) (me_and (me_call c_is_tuple hr (ma_cons (me_var 1) (ma_cons me_int ma_nil))) (me_and (me_call c_is_within hr (ma_cons (me_ix hu (me_var 1) me_int) (ma_cons me_int (ma_cons (me_op (mo_sub) (me_callB mc_len Z.len bt_len (ma_cons (me_ix hu (me_var 0) me_int) ma_nil)) me_int) ma_nil)))) (me_one (me_call c_is_whole hr (ma_cons (me_ix hu (me_var 1) me_int) ma_nil)))))))))))

theorem sc_machine_of : FnScope N_machine_of ["form", "deed"] (defScope (top 23)) := ⟨rfl, rfl, rfl, by decide +kernel, rfl, by decide +kernel, by decide +kernel⟩
theorem cal_machine_of {P : Program} {w : World} {K : PySem.W.Frag} {mg : Str → Option Value} {base : Heap} {k : Nat} {G : DRs} (Z : Fz mg) (F : Df K mg "machine_of" (top 23))
    (len : ∀ ds μ Q, G ds μ Q → ds.length = 2) (hG : ∀ ds μ Q, G ds μ Q → Body (t_machine_of) 2 ds μ Q) : Cal P w K mg base (k + 1) "machine_of" G := by
  refine cal_own F sc_machine_of (fun _ _ _ _ _ _ us hl => match us, hl with | [_, _], _ => rfl) (fun f cdv A outer s H E hr => ?_) len hG
  have hu := hu_of hr
  have hu64 := hr.units
  have hc : (cxOf CX0 P w K mg base N_machine_of "machine_of" (defScope (top 23)) f cdv A outer s H E).nox.calm = true := rfl
  have hN := (sc_machine_of).nd
  exact (mss_cons (ms_if (mt_cmp (mo_eq hu64) (me_ix hu (me_var 1) me_int) me_str (nomark _)) (mss_one (ms_ret (me_ix hu (me_ix hu (me_ix hu (me_var 0) me_int) (me_ix hu (me_var 1) me_int)) me_int))) mss_nil)
    (mss_one (ms_ret (me_ix hu (me_var 1) me_int))))

theorem sc_cause_of : FnScope N_cause_of ["form", "stand", "deed"] (defScope (top 24)) := ⟨rfl, rfl, rfl, by decide +kernel, rfl, by decide +kernel, by decide +kernel⟩
theorem cal_cause_of {P : Program} {w : World} {K : PySem.W.Frag} {mg : Str → Option Value} {base : Heap} {k : Nat} {G : DRs} {g_waits : DRs} (Z : Fz mg) (F : Df K mg "cause_of" (top 24)) (c_waits : Cal P w K mg base k "waits" g_waits)
    (len : ∀ ds μ Q, G ds μ Q → ds.length = 3) (hG : ∀ ds μ Q, G ds μ Q → Body (t_cause_of g_waits) 6 ds μ Q) : Cal P w K mg base (k + 1) "cause_of" G := by
  refine cal_own F sc_cause_of (fun _ _ _ _ _ _ us hl => match us, hl with | [_, _, _], _ => rfl) (fun f cdv A outer s H E hr => ?_) len hG
  have hu := hu_of hr
  have hu64 := hr.units
  have hc : (cxOf CX0 P w K mg base N_cause_of "cause_of" (defScope (top 24)) f cdv A outer s H E).nox.calm = true := rfl
  have hN := (sc_cause_of).nd
  exact (mss_cons (ms_if (mt_cmp (mo_eq hu64) (me_ix hu (me_var 2) me_int) me_str (nomark _)) (mss_one (ms_ret me_str)) mss_nil)
    (mss_cons (ms_if (mt_cmp (mo_eq hu64) (me_ix hu (me_var 2) me_int) me_str (nomark _)) (mss_one (ms_ret (me_ix hu (me_var 2) me_int))) mss_nil)
    (mss_cons (ms_set (i := 3) hN rfl (by first | exact Or.inl rfl | exact Or.inr rfl) (me_call c_waits hr (ma_cons (me_var 1) (ma_cons (me_ix hu (me_var 2) me_int) ma_nil))))
    (mss_cons (ms_if (mt_cmp (mo_eq hu64) (me_ix hu (me_ix hu (me_ix hu (me_var 0) me_int) (me_ix hu (me_var 2) me_int)) me_int) me_str (nomark _)) (mss_one (ms_set (i := 3) hN rfl (by first | exact Or.inl rfl | exact Or.inr rfl) (me_new (ml_sl (me_var 3) mo_none (mo_some me_int))))) mss_nil)
    (mss_cons (ms_for PassesOwn.never hc (mi_seq (me_var 3)) (mg_tup (by exact hc) (mgs_cons (mg_name (i := 4) (by exact hN) (by rfl) (by first | exact Or.inl rfl | exact Or.inr rfl)) (mgs_cons (mg_name (i := 5) (by exact hN) (by rfl) (by first | exact Or.inl rfl | exact Or.inr rfl)) mgs_nil))) (mss_one (ms_if (mt_cmp (mo_eq hu64) (me_var 4) (me_ix hu (me_var 2) me_int) (nomark _)) (mss_one (ms_ret (me_var 5))) mss_nil)))
    (mss_one (ms_ret me_non)))))))

theorem sc_answered : FnScope N_answered ["form", "stand", "deed"] (defScope (top 25)) := ⟨rfl, rfl, rfl, by decide +kernel, rfl, by decide +kernel, by decide +kernel⟩
theorem cal_answered {P : Program} {w : World} {K : PySem.W.Frag} {mg : Str → Option Value} {base : Heap} {k : Nat} {G : DRs} {g_cause_of g_machine_of g_answer : DRs} (Z : Fz mg) (F : Df K mg "answered" (top 25)) (c_cause_of : Cal P w K mg base k "cause_of" g_cause_of) (c_machine_of : Cal P w K mg base k "machine_of" g_machine_of) (c_answer : Cal P w K mg base k "answer" g_answer)
    (len : ∀ ds μ Q, G ds μ Q → ds.length = 3) (hG : ∀ ds μ Q, G ds μ Q → Body (t_answered g_cause_of g_machine_of g_answer) 5 ds μ Q) : Cal P w K mg base (k + 1) "answered" G := by
  refine cal_own F sc_answered (fun _ _ _ _ _ _ us hl => match us, hl with | [_, _, _], _ => rfl) (fun f cdv A outer s H E hr => ?_) len hG
  have hu := hu_of hr
  have hu64 := hr.units
  have hc : (cxOf CX0 P w K mg base N_answered "answered" (defScope (top 25)) f cdv A outer s H E).nox.calm = true := rfl
  have hN := (sc_answered).nd
  exact (mss_cons (ms_set (i := 3) hN rfl (by first | exact Or.inl rfl | exact Or.inr rfl) (me_call c_cause_of hr (ma_cons (me_var 0) (ma_cons (me_var 1) (ma_cons (me_var 2) ma_nil)))))
    (mss_cons (ms_if (mt_cmp (mo_is) (me_var 3) me_non (nomark _)) (mss_one (ms_ret me_non)) mss_nil)
    (mss_cons (ms_set (i := 4) hN rfl (by first | exact Or.inl rfl | exact Or.inr rfl) (me_call c_machine_of hr (ma_cons (me_var 0) (ma_cons (me_var 2) ma_nil))))
    (mss_one (ms_ret (me_call c_answer hr (ma_cons (me_var 0) (ma_cons (me_var 4) (ma_cons (me_ix hu (me_ix hu (me_var 1) me_int) (me_var 4)) (ma_cons (me_var 3) ma_nil))))))))))

theorem sc_can : FnScope N_can ["form", "stand", "thing"] (defScope (top 26)) := ⟨rfl, rfl, rfl, by decide +kernel, rfl, by decide +kernel, by decide +kernel⟩
theorem cal_can {P : Program} {w : World} {K : PySem.W.Frag} {mg : Str → Option Value} {base : Heap} {k : Nat} {G : DRs} {g_is_plain g_answered : DRs} (Z : Fz mg) (F : Df K mg "can" (top 26)) (c_is_plain : Cal P w K mg base k "is_plain" g_is_plain) (c_answered : Cal P w K mg base k "answered" g_answered)
    (len : ∀ ds μ Q, G ds μ Q → ds.length = 3) (hG : ∀ ds μ Q, G ds μ Q → Body (t_can g_is_plain g_answered) 3 ds μ Q) : Cal P w K mg base (k + 1) "can" G := by
  refine cal_own F sc_can (fun _ _ _ _ _ _ us hl => match us, hl with | [_, _, _], _ => rfl) (fun f cdv A outer s H E hr => ?_) len hG
  have hu := hu_of hr
  have hu64 := hr.units
  have hc : (cxOf CX0 P w K mg base N_can "can" (defScope (top 26)) f cdv A outer s H E).nox.calm = true := rfl
  have hN := (sc_can).nd
  exact (mss_one (ms_ret (me_and (me_call c_is_plain hr (ma_cons (me_var 0) (ma_cons (me_var 2) ma_nil))) (me_one (me_cmp (mo_isnot) (me_call c_answered hr (ma_cons (me_var 0) (ma_cons (me_var 1) (ma_cons (me_var 2) ma_nil)))) me_non (nomark _))))))

theorem sc_taken_out : FnScope N_taken_out ["loads", "road", "number"] (defScope (top 27)) := ⟨rfl, rfl, rfl, by decide +kernel, rfl, by decide +kernel, by decide +kernel⟩
theorem cal_taken_out {P : Program} {w : World} {K : PySem.W.Frag} {mg : Str → Option Value} {base : Heap} {k : Nat} {G : DRs} (Z : Fz mg) (F : Df K mg "taken_out" (top 27))
    (len : ∀ ds μ Q, G ds μ Q → ds.length = 3) (hG : ∀ ds μ Q, G ds μ Q → Body (t_taken_out) 7 ds μ Q) : Cal P w K mg base (k + 1) "taken_out" G := by
  refine cal_own F sc_taken_out (fun _ _ _ _ _ _ us hl => match us, hl with | [_, _, _], _ => rfl) (fun f cdv A outer s H E hr => ?_) len hG
  have hu := hu_of hr
  have hu64 := hr.units
  have hc : (cxOf CX0 P w K mg base N_taken_out "taken_out" (defScope (top 27)) f cdv A outer s H E).nox.calm = true := rfl
  have hN := (sc_taken_out).nd
  exact (mss_cons (ms_asg (me_ix hu (me_var 0) (me_var 1)) (mg_tup (by exact hc) (mgs_cons (mg_name (i := 3) (by exact hN) (by rfl) (by first | exact Or.inl rfl | exact Or.inr rfl)) (mgs_cons (mg_name (i := 4) (by exact hN) (by rfl) (by first | exact Or.inl rfl | exact Or.inr rfl)) mgs_nil))))
    (mss_cons (ms_set (i := 5) hN rfl (by first | exact Or.inl rfl | exact Or.inr rfl) (me_tupL Z.tuple (ml_lc (by exact hc) (by exact hN) (mi_seq (me_var 4)) (blkOk_by (own := [("letter", 6)]) (by rfl)) (fun _ _ _ _ _ => (mg_name (i := 6) (by exact hN) (by rfl) (by first | exact Or.inl rfl | exact Or.inr rfl))) (fun _ _ _ _ _ => (mts_one (mt_cmp (mo_ne hu64) (me_ix hu (me_var 6) me_int) (me_var 2) (nomark _)))) (fun _ _ _ _ _ => (me_var 6)))))
    (mss_one (ms_ret (me_op (mo_add) (me_op (mo_add) (me_sl (me_var 0) mo_none (mo_some (me_var 1))) (me_tup (ma_cons (me_tup (ma_cons (me_var 3) (ma_cons (me_var 5) ma_nil))) ma_nil))) (me_sl (me_var 0) (mo_some (me_op (mo_add) (me_var 1) me_int)) mo_none))))))

theorem sc_sent_out : FnScope N_sent_out ["loads", "sends"] (defScope (top 28)) := ⟨rfl, rfl, rfl, by decide +kernel, rfl, by decide +kernel, by decide +kernel⟩
theorem cal_sent_out {P : Program} {w : World} {K : PySem.W.Frag} {mg : Str → Option Value} {base : Heap} {k : Nat} {G : DRs} (Z : Fz mg) (F : Df K mg "sent_out" (top 28))
    (len : ∀ ds μ Q, G ds μ Q → ds.length = 2) (hG : ∀ ds μ Q, G ds μ Q → Body (t_sent_out) 6 ds μ Q) : Cal P w K mg base (k + 1) "sent_out" G := by
  refine cal_own F sc_sent_out (fun _ _ _ _ _ _ us hl => match us, hl with | [_, _], _ => rfl) (fun f cdv A outer s H E hr => ?_) len hG
  have hu := hu_of hr
  have hu64 := hr.units
  have hc : (cxOf CX0 P w K mg base N_sent_out "sent_out" (defScope (top 28)) f cdv A outer s H E).nox.calm = true := rfl
  have hN := (sc_sent_out).nd
  exact (mss_cons (ms_for PassesOwn.never hc (mi_seq (me_var 1)) (mg_tup (by exact hc) (mgs_cons (mg_name (i := 2) (by exact hN) (by rfl) (by first | exact Or.inl rfl | exact Or.inr rfl)) (mgs_cons (mg_name (i := 3) (by exact hN) (by rfl) (by first | exact Or.inl rfl | exact Or.inr rfl)) mgs_nil))) (mss_cons (ms_asg (me_ix hu (me_var 0) (me_var 2)) (mg_tup (by exact hc) (mgs_cons (mg_name (i := 4) (by exact hN) (by rfl) (by first | exact Or.inl rfl | exact Or.inr rfl)) (mgs_cons (mg_name (i := 5) (by exact hN) (by rfl) (by first | exact Or.inl rfl | exact Or.inr rfl)) mgs_nil))))
    (mss_one (ms_set (i := 0) hN rfl (by first | exact Or.inl rfl | exact Or.inr rfl) (me_op (mo_add) (me_op (mo_add) (me_sl (me_var 0) mo_none (mo_some (me_var 2))) (me_tup (ma_cons (me_tup (ma_cons (me_op (mo_add) (me_var 4) me_int) (ma_cons (me_op (mo_add) (me_var 5) (me_tup (ma_cons (me_tup (ma_cons (me_var 4) (ma_cons (me_var 3) ma_nil))) ma_nil))) ma_nil))) ma_nil))) (me_sl (me_var 0) (mo_some (me_op (mo_add) (me_var 2) me_int)) mo_none))))))
    (mss_one (ms_ret (me_var 0))))

theorem sc_done : FnScope N_done ["form", "stand", "deed"] (defScope (top 29)) := ⟨rfl, rfl, rfl, by decide +kernel, rfl, by decide +kernel, by decide +kernel⟩
theorem cal_done {P : Program} {w : World} {K : PySem.W.Frag} {mg : Str → Option Value} {base : Heap} {k : Nat} {G : DRs} {g_can g_answered g_machine_of g_taken_out g_sent_out : DRs} (Z : Fz mg) (F : Df K mg "done" (top 29)) (c_can : Cal P w K mg base k "can" g_can) (c_answered : Cal P w K mg base k "answered" g_answered) (c_machine_of : Cal P w K mg base k "machine_of" g_machine_of) (c_taken_out : Cal P w K mg base k "taken_out" g_taken_out) (c_sent_out : Cal P w K mg base k "sent_out" g_sent_out)
    (len : ∀ ds μ Q, G ds μ Q → ds.length = 3) (hG : ∀ ds μ Q, G ds μ Q → Body (t_done g_can g_answered g_machine_of g_taken_out g_sent_out) 10 ds μ Q) : Cal P w K mg base (k + 1) "done" G := by
  refine cal_own F sc_done (fun _ _ _ _ _ _ us hl => match us, hl with | [_, _, _], _ => rfl) (fun f cdv A outer s H E hr => ?_) len hG
  have hu := hu_of hr
  have hu64 := hr.units
  have hc : (cxOf CX0 P w K mg base N_done "done" (defScope (top 29)) f cdv A outer s H E).nox.calm = true := rfl
  have hN := (sc_done).nd
  exact (mss_cons (ms_if (mt_not (mt_val (me_call c_can hr (ma_cons (me_var 0) (ma_cons (me_var 1) (ma_cons (me_var 2) ma_nil)))))) mss_never mss_nil)
    (mss_cons (ms_asg (me_call c_answered hr (ma_cons (me_var 0) (ma_cons (me_var 1) (ma_cons (me_var 2) ma_nil)))) (mg_tup (by exact hc) (mgs_cons (mg_name (i := 3) (by exact hN) (by rfl) (by first | exact Or.inl rfl | exact Or.inr rfl)) (mgs_cons (mg_name (i := 4) (by exact hN) (by rfl) (by first | exact Or.inl rfl | exact Or.inr rfl)) (mgs_cons (mg_name (i := 5) (by exact hN) (by rfl) (by first | exact Or.inl rfl | exact Or.inr rfl)) mgs_nil)))))
    (mss_cons (ms_set (i := 6) hN rfl (by first | exact Or.inl rfl | exact Or.inr rfl) (me_call c_machine_of hr (ma_cons (me_var 0) (ma_cons (me_var 2) ma_nil))))
    (mss_cons (ms_set (i := 7) hN rfl (by first | exact Or.inl rfl | exact Or.inr rfl) (me_op (mo_add) (me_op (mo_add) (me_sl (me_ix hu (me_var 1) me_int) mo_none (mo_some (me_var 6))) (me_tup (ma_cons (me_var 3) ma_nil))) (me_sl (me_ix hu (me_var 1) me_int) (mo_some (me_op (mo_add) (me_var 6) me_int)) mo_none)))
    (mss_cons (ms_set (i := 8) hN rfl (by first | exact Or.inl rfl | exact Or.inr rfl) (me_ix hu (me_var 1) me_int))
    (mss_cons (ms_if (mt_cmp (mo_eq hu64) (me_ix hu (me_var 2) me_int) me_str (nomark _)) (mss_one (ms_set (i := 8) hN rfl (by first | exact Or.inl rfl | exact Or.inr rfl) (me_call c_taken_out hr (ma_cons (me_var 8) (ma_cons (me_ix hu (me_var 2) me_int) (ma_cons (me_ix hu (me_var 2) me_int) ma_nil)))))) mss_nil)
    (mss_cons (ms_set (i := 9) hN rfl (by first | exact Or.inl rfl | exact Or.inr rfl) me_non)
    (mss_cons (ms_if (mt_cmp (mo_isnot) (me_var 5) me_non (nomark _)) (mss_one (ms_set (i := 9) hN rfl (by first | exact Or.inl rfl | exact Or.inr rfl) (me_tup (ma_cons (me_var 6) (ma_cons (me_var 5) ma_nil))))) mss_nil)
    (mss_one (ms_ret (me_tup (ma_cons (me_tup (ma_cons (me_var 7) (ma_cons (me_call c_sent_out hr (ma_cons (me_var 8) (ma_cons (me_var 4) ma_nil))) ma_nil))) (ma_cons (me_var 9) ma_nil)))))))))))))

theorem sc_run : FnScope N_run ["form", "stand", "deeds"] (defScope (top 30)) := ⟨rfl, rfl, rfl, by decide +kernel, rfl, by decide +kernel, by decide +kernel⟩
theorem cal_run {P : Program} {w : World} {K : PySem.W.Frag} {mg : Str → Option Value} {base : Heap} {k : Nat} {G : DRs} {g_can g_done : DRs} (Z : Fz mg) (F : Df K mg "run" (top 30)) (c_can : Cal P w K mg base k "can" g_can) (c_done : Cal P w K mg base k "done" g_done)
    (len : ∀ ds μ Q, G ds μ Q → ds.length = 3) (hG : ∀ ds μ Q, G ds μ Q → Body (t_run g_can g_done) 7 ds μ Q) : Cal P w K mg base (k + 1) "run" G := by
  refine cal_own F sc_run (fun _ _ _ _ _ _ us hl => match us, hl with | [_, _, _], _ => rfl) (fun f cdv A outer s H E hr => ?_) len hG
  have hu := hu_of hr
  have hu64 := hr.units
  have hc : (cxOf CX0 P w K mg base N_run "run" (defScope (top 30)) f cdv A outer s H E).nox.calm = true := rfl
  have hN := (sc_run).nd
  exact (mss_cons (ms_set (i := 3) hN rfl (by first | exact Or.inl rfl | exact Or.inr rfl) (me_new (ml_lst ma_nil)))
    (mss_cons (ms_for PassesOwn.never hc (mi_enum Z.enumerate (me_var 2)) (mg_tup (by exact hc) (mgs_cons (mg_name (i := 4) (by exact hN) (by rfl) (by first | exact Or.inl rfl | exact Or.inr rfl)) (mgs_cons (mg_name (i := 5) (by exact hN) (by rfl) (by first | exact Or.inl rfl | exact Or.inr rfl)) mgs_nil))) (mss_cons (ms_if (mt_not (mt_val (me_call c_can hr (ma_cons (me_var 0) (ma_cons (me_var 1) (ma_cons (me_var 5) ma_nil)))))) mss_never mss_nil)
    (mss_cons (ms_asg (me_call c_done hr (ma_cons (me_var 0) (ma_cons (me_var 1) (ma_cons (me_var 5) ma_nil)))) (mg_tup (by exact hc) (mgs_cons (mg_name (i := 1) (by exact hN) (by rfl) (by first | exact Or.inl rfl | exact Or.inr rfl)) (mgs_cons (mg_name (i := 6) (by exact hN) (by rfl) (by first | exact Or.inl rfl | exact Or.inr rfl)) mgs_nil))))
    (mss_one (ms_if (mt_cmp (mo_isnot) (me_var 6) me_non (nomark _)) (mss_one (ms_expr (me_append (me_var 3) (me_var 6)))) mss_nil)))))
    (mss_one (ms_ret (me_tup (ma_cons (me_var 1) (ma_cons (me_var 3) ma_nil)))))))

theorem sc_events_of : FnScope N_events_of ["form", "deeds"] (defScope (top 32)) := ⟨rfl, rfl, rfl, by decide +kernel, rfl, by decide +kernel, by decide +kernel⟩
theorem cal_events_of {P : Program} {w : World} {K : PySem.W.Frag} {mg : Str → Option Value} {base : Heap} {k : Nat} {G : DRs} {g_machine_of : DRs} (Z : Fz mg) (F : Df K mg "events_of" (top 32)) (c_machine_of : Cal P w K mg base k "machine_of" g_machine_of)
    (len : ∀ ds μ Q, G ds μ Q → ds.length = 2) (hG : ∀ ds μ Q, G ds μ Q → Body (t_events_of g_machine_of) 7 ds μ Q) : Cal P w K mg base (k + 1) "events_of" G := by
  refine cal_own F sc_events_of (fun _ _ _ _ _ _ us hl => match us, hl with | [_, _], _ => rfl) (fun f cdv A outer s H E hr => ?_) len hG
  have hu := hu_of hr
  have hu64 := hr.units
  have hc : (cxOf CX0 P w K mg base N_events_of "events_of" (defScope (top 32)) f cdv A outer s H E).nox.calm = true := rfl
  have hN := (sc_events_of).nd
  exact (mss_cons (ms_setLc (j := 2) hc hN rfl rfl (sw_true rfl rfl rfl rfl) (mi_seq (me_ix hu (me_var 0) me_int)) (blkOk_by (own := [("rule", 3)]) (by rfl)) (fun _ _ _ _ _ => (mg_name (i := 3) (by exact hN) (by rfl) (by first | exact Or.inl rfl | exact Or.inr rfl))) (fun _ _ _ _ _ => mts_nil) (fun _ _ _ _ _ => me_int))
    (mss_cons (ms_set (i := 4) hN rfl (by first | exact Or.inl rfl | exact Or.inr rfl) (me_new (ml_lst ma_nil)))
    (mss_cons (ms_for PassesOwn.never hc (mi_seq (me_var 1)) (mg_name (i := 5) (by exact hN) (by rfl) (by first | exact Or.inl rfl | exact Or.inr rfl)) (mss_cons (ms_set (i := 6) hN rfl (by first | exact Or.inl rfl | exact Or.inr rfl) (me_call c_machine_of hr (ma_cons (me_var 0) (ma_cons (me_var 5) ma_nil))))
    (mss_cons (ms_expr (me_append (me_var 4) (me_tup (ma_cons (me_var 6) (ma_cons (me_ix hu (me_var 2) (me_var 6)) ma_nil)))))
    (mss_one (ms_asg (me_op (mo_add) (me_ix hu (me_var 2) (me_var 6)) me_int) (mg_sub (me_var 2) (me_var 6) (ps_setD hu)))))))
    (mss_one (ms_ret (me_var 4))))))

theorem sc_letters_of : FnScope N_letters_of ["form", "stand", "deeds"] (defScope (top 33)) := ⟨rfl, rfl, rfl, by decide +kernel, rfl, by decide +kernel, by decide +kernel⟩
theorem cal_letters_of {P : Program} {w : World} {K : PySem.W.Frag} {mg : Str → Option Value} {base : Heap} {k : Nat} {G : DRs} {g_run g_waits g_done : DRs} (Z : Fz mg) (F : Df K mg "letters_of" (top 33)) (c_run : Cal P w K mg base k "run" g_run) (c_waits : Cal P w K mg base k "waits" g_waits) (c_done : Cal P w K mg base k "done" g_done)
    (len : ∀ ds μ Q, G ds μ Q → ds.length = 3) (hG : ∀ ds μ Q, G ds μ Q → Body (t_letters_of g_run g_waits g_done) 11 ds μ Q) : Cal P w K mg base (k + 1) "letters_of" G := by
  refine cal_own F sc_letters_of (fun _ _ _ _ _ _ us hl => match us, hl with | [_, _, _], _ => rfl) (fun f cdv A outer s H E hr => ?_) len hG
  have hu := hu_of hr
  have hu64 := hr.units
  have hc : (cxOf CX0 P w K mg base N_letters_of "letters_of" (defScope (top 33)) f cdv A outer s H E).nox.calm = true := rfl
  have hN := (sc_letters_of).nd
  exact (mss_cons (ms_expr (me_call c_run hr (ma_cons (me_var 0) (ma_cons (me_var 1) (ma_cons (me_var 2) ma_nil)))))
    (mss_cons (ms_set (i := 3) hN rfl (by first | exact Or.inl rfl | exact Or.inr rfl) me_newT)
    (mss_cons (ms_for PassesOwn.never hc (mi_range1 Z.range (ma_cons (me_callB mc_len Z.len bt_len (ma_cons (me_ix hu (me_var 0) me_int) ma_nil)) ma_nil)) (mg_name (i := 4) (by exact hN) (by rfl) (by first | exact Or.inl rfl | exact Or.inr rfl)) (mss_one (ms_for PassesOwn.never hc (mi_seq (me_call c_waits hr (ma_cons (me_var 1) (ma_cons (me_var 4) ma_nil)))) (mg_tup (by exact hc) (mgs_cons (mg_name (i := 5) (by exact hN) (by rfl) (by first | exact Or.inl rfl | exact Or.inr rfl)) (mgs_cons (mg_name (i := 6) (by exact hN) (by rfl) (by first | exact Or.inl rfl | exact Or.inr rfl)) mgs_nil))) (mss_one (ms_asg (me_tup (ma_cons me_non (ma_cons me_non ma_nil))) (mg_sub (me_var 3) (me_tup (ma_cons (me_var 4) (ma_cons (me_var 5) ma_nil))) (ps_setD hu)))))))
    (mss_cons (ms_for PassesOwn.never hc (mi_enum Z.enumerate (me_var 2)) (mg_tup (by exact hc) (mgs_cons (mg_name (i := 7) (by exact hN) (by rfl) (by first | exact Or.inl rfl | exact Or.inr rfl)) (mgs_cons (mg_name (i := 8) (by exact hN) (by rfl) (by first | exact Or.inl rfl | exact Or.inr rfl)) mgs_nil))) (mss_cons (ms_if (mt_cmp (mo_eq hu64) (me_ix hu (me_var 8) me_int) me_str (nomark _)) (mss_cons (ms_set (i := 10) hN rfl (by first | exact Or.inl rfl | exact Or.inr rfl) (me_tup (ma_cons (me_ix hu (me_var 8) me_int) (ma_cons (me_ix hu (me_var 8) me_int) ma_nil))))
    (mss_one (ms_asg (me_tup (ma_cons (me_ix hu (me_ix hu (me_var 3) (me_var 10)) me_int) (ma_cons (me_var 7) ma_nil))) (mg_sub (me_var 3) (me_var 10) (ps_setD hu))))) mss_nil)
    (mss_cons (ms_set (i := 9) hN rfl (by first | exact Or.inl rfl | exact Or.inr rfl) (me_ix hu (me_call c_done hr (ma_cons (me_var 0) (ma_cons (me_var 1) (ma_cons (me_var 8) ma_nil)))) me_int))
    (mss_cons (ms_for PassesOwn.never hc (mi_range1 Z.range (ma_cons (me_callB mc_len Z.len bt_len (ma_cons (me_ix hu (me_var 0) me_int) ma_nil)) ma_nil)) (mg_name (i := 4) (by exact hN) (by rfl) (by first | exact Or.inl rfl | exact Or.inr rfl)) (mss_one (ms_for PassesOwn.never hc (mi_range2 Z.range (ma_cons (me_ix hu (me_ix hu (me_ix hu (me_var 1) me_int) (me_var 4)) me_int) (ma_cons (me_ix hu (me_ix hu (me_ix hu (me_var 9) me_int) (me_var 4)) me_int) ma_nil))) (mg_name (i := 5) (by exact hN) (by rfl) (by first | exact Or.inl rfl | exact Or.inr rfl)) (mss_one (ms_asg (me_tup (ma_cons (me_var 7) (ma_cons me_non ma_nil))) (mg_sub (me_var 3) (me_tup (ma_cons (me_var 4) (ma_cons (me_var 5) ma_nil))) (ps_setD hu)))))))
    (mss_one (ms_set (i := 1) hN rfl (by first | exact Or.inl rfl | exact Or.inr rfl) (me_var 9)))))))
    (mss_one (ms_ret (me_var 3)))))))

theorem sc_event_number : FnScope N_event_number ["events", "deed"] (defScope (top 35)) := ⟨rfl, rfl, rfl, by decide +kernel, rfl, by decide +kernel, by decide +kernel⟩
theorem cal_event_number {P : Program} {w : World} {K : PySem.W.Frag} {mg : Str → Option Value} {base : Heap} {k : Nat} {G : DRs} (Z : Fz mg) (F : Df K mg "event_number" (top 35))
    (len : ∀ ds μ Q, G ds μ Q → ds.length = 2) (hG : ∀ ds μ Q, G ds μ Q → Body (t_event_number) 2 ds μ Q) : Cal P w K mg base (k + 1) "event_number" G := by
  refine cal_own F sc_event_number (fun _ _ _ _ _ _ us hl => match us, hl with | [_, _], _ => rfl) (fun f cdv A outer s H E hr => ?_) len hG
  have hu := hu_of hr
  have hu64 := hr.units
  have hc : (cxOf CX0 P w K mg base N_event_number "event_number" (defScope (top 35)) f cdv A outer s H E).nox.calm = true := rfl
  have hN := (sc_event_number).nd
  exact (mss_cons (ms_if (mt_cmp (mo_is) (me_var 1) me_non (nomark _)) (mss_one (ms_ret me_non)) mss_nil)
    (mss_one (ms_ret (me_ix hu (me_ix hu (me_var 0) (me_var 1)) me_int))))

theorem sc_trips : FnScope N_trips ["form", "base", "deeds"] (defScope (top 36)) := ⟨rfl, rfl, rfl, by decide +kernel, rfl, by decide +kernel, by decide +kernel⟩
theorem cal_trips {P : Program} {w : World} {K : PySem.W.Frag} {mg : Str → Option Value} {base : Heap} {k : Nat} {G : DRs} {g_events_of g_letters_of g_event_number : DRs} (Z : Fz mg) (F : Df K mg "trips" (top 36)) (c_events_of : Cal P w K mg base k "events_of" g_events_of) (c_letters_of : Cal P w K mg base k "letters_of" g_letters_of) (c_event_number : Cal P w K mg base k "event_number" g_event_number)
    (len : ∀ ds μ Q, G ds μ Q → ds.length = 3) (hG : ∀ ds μ Q, G ds μ Q → Body (t_trips g_events_of g_letters_of g_event_number) 12 ds μ Q) : Cal P w K mg base (k + 1) "trips" G := by
  refine cal_own F sc_trips (fun _ _ _ _ _ _ us hl => match us, hl with | [_, _, _], _ => rfl) (fun f cdv A outer s H E hr => ?_) len hG
  have hu := hu_of hr
  have hu64 := hr.units
  have hc : (cxOf CX0 P w K mg base N_trips "trips" (defScope (top 36)) f cdv A outer s H E).nox.calm = true := rfl
  have hN := (sc_trips).nd
  exact (mss_cons (ms_set (i := 3) hN rfl (by first | exact Or.inl rfl | exact Or.inr rfl) (me_call c_events_of hr (ma_cons (me_var 0) (ma_cons (me_var 2) ma_nil))))
    (mss_cons (ms_set (i := 4) hN rfl (by first | exact Or.inl rfl | exact Or.inr rfl) (me_call c_letters_of hr (ma_cons (me_var 0) (ma_cons (me_var 1) (ma_cons (me_var 2) ma_nil)))))
    (mss_cons (ms_set (i := 5) hN rfl (by first | exact Or.inl rfl | exact Or.inr rfl) (me_new (ml_lst ma_nil)))
    (mss_cons (ms_for PassesOwn.never hc (mi_new (ml_sortT hc Z.sorted (me_var 4))) (mg_name (i := 6) (by exact hN) (by rfl) (by first | exact Or.inl rfl | exact Or.inr rfl)) (mss_cons (ms_asg (me_ix hu (me_ix hu (me_var 0) me_int) (me_ix hu (me_var 6) me_int)) (mg_tup (by exact hc) (mgs_cons (mg_name (i := 7) (by exact hN) (by rfl) (by first | exact Or.inl rfl | exact Or.inr rfl)) (mgs_cons (mg_name (i := 8) (by exact hN) (by rfl) (by first | exact Or.inl rfl | exact Or.inr rfl)) (mgs_cons (mg_name (i := 9) (by exact hN) (by rfl) (by first | exact Or.inl rfl | exact Or.inr rfl)) mgs_nil)))))
    (mss_cons (ms_asg (me_ix hu (me_var 4) (me_var 6)) (mg_tup (by exact hc) (mgs_cons (mg_name (i := 10) (by exact hN) (by rfl) (by first | exact Or.inl rfl | exact Or.inr rfl)) (mgs_cons (mg_name (i := 11) (by exact hN) (by rfl) (by first | exact Or.inl rfl | exact Or.inr rfl)) mgs_nil))))
    (mss_one (ms_expr (me_append (me_var 5) (me_tup (ma_cons (me_var 6) (ma_cons (me_var 7) (ma_cons (me_call c_event_number hr (ma_cons (me_var 3) (ma_cons (me_var 10) ma_nil))) (ma_cons (me_var 8) (ma_cons (me_call c_event_number hr (ma_cons (me_var 3) (ma_cons (me_var 11) ma_nil))) ma_nil))))))))))))
    (mss_one (ms_ret (me_var 5)))))))

theorem sc_was_sent : FnScope N_was_sent ["trip", "cut"] (defScope (top 37)) := ⟨rfl, rfl, rfl, by decide +kernel, rfl, by decide +kernel, by decide +kernel⟩
theorem cal_was_sent {P : Program} {w : World} {K : PySem.W.Frag} {mg : Str → Option Value} {base : Heap} {k : Nat} {G : DRs} (Z : Fz mg) (F : Df K mg "was_sent" (top 37))
    (len : ∀ ds μ Q, G ds μ Q → ds.length = 2) (hG : ∀ ds μ Q, G ds μ Q → Body (t_was_sent) 2 ds μ Q) : Cal P w K mg base (k + 1) "was_sent" G := by
  refine cal_own F sc_was_sent (fun _ _ _ _ _ _ us hl => match us, hl with | [_, _], _ => rfl) (fun f cdv A outer s H E hr => ?_) len hG
  have hu := hu_of hr
  have hu64 := hr.units
  have hc : (cxOf CX0 P w K mg base N_was_sent "was_sent" (defScope (top 37)) f cdv A outer s H E).nox.calm = true := rfl
  have hN := (sc_was_sent).nd
  exact (mss_one (ms_ret (me_or (me_cmp (mo_is) (me_ix hu (me_var 0) me_int) me_non (nomark _)) (me_one (me_cmp (mo_lt) (me_ix hu (me_var 0) me_int) (me_ix hu (me_var 1) (me_ix hu (me_var 0) me_int)) (nomark _))))))

theorem sc_has_come : FnScope N_has_come ["trip", "cut"] (defScope (top 38)) := ⟨rfl, rfl, rfl, by decide +kernel, rfl, by decide +kernel, by decide +kernel⟩
theorem cal_has_come {P : Program} {w : World} {K : PySem.W.Frag} {mg : Str → Option Value} {base : Heap} {k : Nat} {G : DRs} (Z : Fz mg) (F : Df K mg "has_come" (top 38))
    (len : ∀ ds μ Q, G ds μ Q → ds.length = 2) (hG : ∀ ds μ Q, G ds μ Q → Body (t_has_come) 2 ds μ Q) : Cal P w K mg base (k + 1) "has_come" G := by
  refine cal_own F sc_has_come (fun _ _ _ _ _ _ us hl => match us, hl with | [_, _], _ => rfl) (fun f cdv A outer s H E hr => ?_) len hG
  have hu := hu_of hr
  have hu64 := hr.units
  have hc : (cxOf CX0 P w K mg base N_has_come "has_come" (defScope (top 38)) f cdv A outer s H E).nox.calm = true := rfl
  have hN := (sc_has_come).nd
  exact (mss_one (ms_ret (me_and (me_cmp (mo_isnot) (me_ix hu (me_var 0) me_int) me_non (nomark _)) (me_one (me_cmp (mo_lt) (me_ix hu (me_var 0) me_int) (me_ix hu (me_var 1) (me_ix hu (me_var 0) me_int)) (nomark _))))))

theorem sc_is_whole_trip : FnScope N_is_whole_trip ["trip"] (defScope (top 39)) := ⟨rfl, rfl, rfl, by decide +kernel, rfl, by decide +kernel, by decide +kernel⟩
theorem cal_is_whole_trip {P : Program} {w : World} {K : PySem.W.Frag} {mg : Str → Option Value} {base : Heap} {k : Nat} {G : DRs} (Z : Fz mg) (F : Df K mg "is_whole_trip" (top 39))
    (len : ∀ ds μ Q, G ds μ Q → ds.length = 1) (hG : ∀ ds μ Q, G ds μ Q → Body (t_is_whole_trip) 1 ds μ Q) : Cal P w K mg base (k + 1) "is_whole_trip" G := by
  refine cal_own F sc_is_whole_trip (fun _ _ _ _ _ _ us hl => match us, hl with | [_], _ => rfl) (fun f cdv A outer s H E hr => ?_) len hG
  have hu := hu_of hr
  have hu64 := hr.units
  have hc : (cxOf CX0 P w K mg base N_is_whole_trip "is_whole_trip" (defScope (top 39)) f cdv A outer s H E).nox.calm = true := rfl
  have hN := (sc_is_whole_trip).nd
  exact (mss_one (ms_ret (me_and (me_cmp (mo_isnot) (me_ix hu (me_var 0) me_int) me_non (nomark _)) (me_one (me_cmp (mo_isnot) (me_ix hu (me_var 0) me_int) me_non (nomark _))))))

theorem sc_is_number : FnScope N_is_number ["thing"] (defScope (top 41)) := ⟨rfl, rfl, rfl, by decide +kernel, rfl, by decide +kernel, by decide +kernel⟩
theorem cal_is_number {P : Program} {w : World} {K : PySem.W.Frag} {mg : Str → Option Value} {base : Heap} {k : Nat} {G : DRs} (Z : Fz mg) (F : Df K mg "is_number" (top 41))
    (len : ∀ ds μ Q, G ds μ Q → ds.length = 1) (hG : ∀ ds μ Q, G ds μ Q → Body (t_is_number) 1 ds μ Q) : Cal P w K mg base (k + 1) "is_number" G := by
  refine cal_own F sc_is_number (fun _ _ _ _ _ _ us hl => match us, hl with | [_], _ => rfl) (fun f cdv A outer s H E hr => ?_) len hG
  have hu := hu_of hr
  have hu64 := hr.units
  have hc : (cxOf CX0 P w K mg base N_is_number "is_number" (defScope (top 41)) f cdv A outer s H E).nox.calm = true := rfl
  have hN := (sc_is_number).nd
  exact (mss_one (ms_ret (me_and (me_isT (T := "int") rfl Z.isinstance Z.int bt_int (me_var 0)) (me_one (me_not (me_isT (T := "bool") rfl Z.isinstance Z.bool bt_bool (me_var 0)))))))

theorem sc_is_letters : FnScope N_is_letters ["thing"] (defScope (top 42)) := ⟨rfl, rfl, rfl, by decide +kernel, rfl, by decide +kernel, by decide +kernel⟩
theorem cal_is_letters {P : Program} {w : World} {K : PySem.W.Frag} {mg : Str → Option Value} {base : Heap} {k : Nat} {G : DRs} {g_is_number : DRs} (Z : Fz mg) (F : Df K mg "is_letters" (top 42)) (c_is_number : Cal P w K mg base k "is_number" g_is_number)
    (len : ∀ ds μ Q, G ds μ Q → ds.length = 1) (hG : ∀ ds μ Q, G ds μ Q → Body (t_is_letters g_is_number) 3 ds μ Q) : Cal P w K mg base (k + 1) "is_letters" G := by
  refine cal_own F sc_is_letters (fun _ _ _ _ _ _ us hl => match us, hl with | [_], _ => rfl) (fun f cdv A outer s H E hr => ?_) len hG
  have hu := hu_of hr
  have hu64 := hr.units
  have hc : (cxOf CX0 P w K mg base N_is_letters "is_letters" (defScope (top 42)) f cdv A outer s H E).nox.calm = true := rfl
  have hN := (sc_is_letters).nd
  exact (mss_cons (ms_if (mt_not (mt_val (me_isT (T := "tuple") rfl Z.isinstance Z.tuple bt_tuple (me_var 0)))) (mss_one (ms_ret me_bl)) mss_nil)
    (mss_one (ms_ret (me_allL (by exact hc) Z.all (ml_lc (by exact hc) (by exact hN) (mi_seq (me_var 0)) (blkOk_by (own := [("one", 1)]) (by rfl)) (fun _ _ _ _ _ => (mg_name (i := 1) (by exact hN) (by rfl) (by first | exact Or.inl rfl | exact Or.inr rfl))) (fun _ _ _ _ _ => mts_nil) (fun _ _ _ _ _ => (me_and (me_isT (T := "tuple") rfl Z.isinstance Z.tuple bt_tuple (me_var 1)) (me_and (me_cmp (mo_eq hu64) (me_callB mc_len Z.len bt_len (ma_cons (me_var 1) ma_nil)) me_int (nomark _)) (me_one (me_allL (by exact hc) Z.all (ml_lc (by exact hc) (by exact hN) (mi_seq (me_var 1)) (blkOk_by (own := [("part", 2)]) (by rfl)) (fun _ _ _ _ _ => (mg_name (i := 2) (by exact hN) (by rfl) (by first | exact Or.inl rfl | exact Or.inr rfl))) (fun _ _ _ _ _ => mts_nil) (fun _ _ _ _ _ => (me_call c_is_number hr (ma_cons (me_var 2) ma_nil))))))))))))))

theorem sc_crossing : FnScope N_crossing ["all_trips", "cut"] (defScope (top 43)) := ⟨rfl, rfl, rfl, by decide +kernel, rfl, by decide +kernel, by decide +kernel⟩
theorem cal_crossing {P : Program} {w : World} {K : PySem.W.Frag} {mg : Str → Option Value} {base : Heap} {k : Nat} {G : DRs} {g_has_come g_was_sent : DRs} (Z : Fz mg) (F : Df K mg "crossing" (top 43)) (c_has_come : Cal P w K mg base k "has_come" g_has_come) (c_was_sent : Cal P w K mg base k "was_sent" g_was_sent)
    (len : ∀ ds μ Q, G ds μ Q → ds.length = 2) (hG : ∀ ds μ Q, G ds μ Q → Body (t_crossing g_has_come g_was_sent) 3 ds μ Q) : Cal P w K mg base (k + 1) "crossing" G := by
  refine cal_own F sc_crossing (fun _ _ _ _ _ _ us hl => match us, hl with | [_, _], _ => rfl) (fun f cdv A outer s H E hr => ?_) len hG
  have hu := hu_of hr
  have hu64 := hr.units
  have hc : (cxOf CX0 P w K mg base N_crossing "crossing" (defScope (top 43)) f cdv A outer s H E).nox.calm = true := rfl
  have hN := (sc_crossing).nd
  exact (mss_cons (ms_for PassesOwn.never hc (mi_seq (me_var 0)) (mg_name (i := 2) (by exact hN) (by rfl) (by first | exact Or.inl rfl | exact Or.inr rfl)) (mss_one (ms_if (mt_w (mw_and (mt_val (me_call c_has_come hr (ma_cons (me_var 2) (ma_cons (me_var 1) ma_nil)))) (mw_and1 (mt_not (mt_val (me_call c_was_sent hr (ma_cons (me_var 2) (ma_cons (me_var 1) ma_nil)))))))) (mss_one (ms_ret (me_var 2))) mss_nil)))
    (mss_one (ms_ret me_non)))

theorem sc_lowered : FnScope N_lowered ["all_trips", "choices"] (defScope (top 44)) := ⟨rfl, rfl, rfl, by decide +kernel, rfl, by decide +kernel, by decide +kernel⟩
theorem cal_lowered {P : Program} {w : World} {K : PySem.W.Frag} {mg : Str → Option Value} {base : Heap} {k : Nat} {G : DRs} {g_crossing g_floor_of : DRs} (Z : Fz mg) (F : Df K mg "lowered" (top 44)) (c_crossing : Cal P w K mg base k "crossing" g_crossing) (c_floor_of : Cal P w K mg base k "floor_of" g_floor_of)
    (len : ∀ ds μ Q, G ds μ Q → ds.length = 2) (hG : ∀ ds μ Q, G ds μ Q → Body (t_lowered g_crossing g_floor_of) 12 ds μ Q) : Cal P w K mg base (k + 1) "lowered" G := by
  refine cal_own F sc_lowered (fun _ _ _ _ _ _ us hl => match us, hl with | [_, _], _ => rfl) (fun f cdv A outer s H E hr => ?_) len hG
  have hu := hu_of hr
  have hu64 := hr.units
  have hc : (cxOf CX0 P w K mg base N_lowered "lowered" (defScope (top 44)) f cdv A outer s H E).nox.calm = true := rfl
  have hN := (sc_lowered).nd
  exact (mss_cons (ms_setLc (j := 2) hc hN rfl rfl (sw_true rfl rfl rfl rfl) (mi_seq (me_var 1)) (blkOk_by (own := [("row", 3)]) (by rfl)) (fun _ _ _ _ _ => (mg_name (i := 3) (by exact hN) (by rfl) (by first | exact Or.inl rfl | exact Or.inr rfl))) (fun _ _ _ _ _ => mts_nil) (fun _ _ _ _ _ => (me_ix hu (me_var 3) (me_neg me_int))))
    (mss_cons (ms_set (i := 4) hN rfl (by first | exact Or.inl rfl | exact Or.inr rfl) me_newK)
    (mss_cons (ms_set (i := 5) hN rfl (by first | exact Or.inl rfl | exact Or.inr rfl) (me_call c_crossing hr (ma_cons (me_var 0) (ma_cons (me_var 2) ma_nil))))
    (mss_cons (ms_while PassesOwn.never (mt_cmp (mo_isnot) (me_var 5) me_non (nomark _)) (mss_cons (ms_asg (me_var 5) (mg_tup (by exact hc) (mgs_cons (mg_name (i := 6) (by exact hN) (by rfl) (by first | exact Or.inl rfl | exact Or.inr rfl)) (mgs_cons (mg_name (i := 7) (by exact hN) (by rfl) (by first | exact Or.inl rfl | exact Or.inr rfl)) (mgs_cons (mg_name (i := 8) (by exact hN) (by rfl) (by first | exact Or.inl rfl | exact Or.inr rfl)) (mgs_cons (mg_name (i := 9) (by exact hN) (by rfl) (by first | exact Or.inl rfl | exact Or.inr rfl)) (mgs_cons (mg_name (i := 10) (by exact hN) (by rfl) (by first | exact Or.inl rfl | exact Or.inr rfl)) mgs_nil)))))))
    (mss_cons (ms_asg (me_call c_floor_of hr (ma_cons (me_ix hu (me_var 1) (me_var 9)) (ma_cons (me_var 10) ma_nil))) (mg_sub (me_var 2) (me_var 9) (ps_setD hu)))
    (mss_cons (ms_asg (me_op (mo_add) (me_get2 hu (me_var 4) (me_var 7) (me_tup ma_nil)) (me_tup (ma_cons (me_var 6) ma_nil))) (mg_sub (me_var 4) (me_var 9) (ps_setD hu)))
    (mss_one (ms_set (i := 5) hN rfl (by first | exact Or.inl rfl | exact Or.inr rfl) (me_call c_crossing hr (ma_cons (me_var 0) (ma_cons (me_var 2) ma_nil)))))))))
    (mss_one (ms_ret (me_tup (ma_cons (me_callTy mc_tup Z.tuple bt_tuple (ma_cons (me_var 2) ma_nil)) (ma_cons (me_new (ml_lc (by exact hc) (by exact hN) (mi_new (ml_sortK hc Z.sorted (me_var 4))) (blkOk_by (own := [("machine", 11)]) (by rfl)) (fun _ _ _ _ _ => (mg_name (i := 11) (by exact hN) (by rfl) (by first | exact Or.inl rfl | exact Or.inr rfl))) (fun _ _ _ _ _ => mts_nil) (fun _ _ _ _ _ => (me_tup (ma_cons (me_var 11) (ma_cons (me_ix hu (me_var 4) (me_var 11)) ma_nil)))))) ma_nil)))))))))

theorem sc_latest : FnScope N_latest ["form", "base", "deeds", "choices"] (defScope (top 45)) := ⟨rfl, rfl, rfl, by decide +kernel, rfl, by decide +kernel, by decide +kernel⟩
theorem cal_latest {P : Program} {w : World} {K : PySem.W.Frag} {mg : Str → Option Value} {base : Heap} {k : Nat} {G : DRs} {g_lowered g_trips : DRs} (Z : Fz mg) (F : Df K mg "latest" (top 45)) (c_lowered : Cal P w K mg base k "lowered" g_lowered) (c_trips : Cal P w K mg base k "trips" g_trips)
    (len : ∀ ds μ Q, G ds μ Q → ds.length = 4) (hG : ∀ ds μ Q, G ds μ Q → Body (t_latest g_lowered g_trips) 4 ds μ Q) : Cal P w K mg base (k + 1) "latest" G := by
  refine cal_own F sc_latest (fun _ _ _ _ _ _ us hl => match us, hl with | [_, _, _, _], _ => rfl) (fun f cdv A outer s H E hr => ?_) len hG
  have hu := hu_of hr
  have hu64 := hr.units
  have hc : (cxOf CX0 P w K mg base N_latest "latest" (defScope (top 45)) f cdv A outer s H E).nox.calm = true := rfl
  have hN := (sc_latest).nd
  exact (mss_one (ms_ret (me_call c_lowered hr (ma_cons (me_call c_trips hr (ma_cons (me_var 0) (ma_cons (me_var 1) (ma_cons (me_var 2) ma_nil)))) (ma_cons (me_var 3) ma_nil)))))

theorem sc_wrong_place : FnScope N_wrong_place ["by_letter", "choices", "way"] (defScope (top 46)) := ⟨rfl, rfl, rfl, by decide +kernel, rfl, by decide +kernel, by decide +kernel⟩
theorem cal_wrong_place {P : Program} {w : World} {K : PySem.W.Frag} {mg : Str → Option Value} {base : Heap} {k : Nat} {G : DRs} {g_is_whole_trip g_floor_of : DRs} (Z : Fz mg) (F : Df K mg "wrong_place" (top 46)) (c_is_whole_trip : Cal P w K mg base k "is_whole_trip" g_is_whole_trip) (c_floor_of : Cal P w K mg base k "floor_of" g_floor_of)
    (len : ∀ ds μ Q, G ds μ Q → ds.length = 3) (hG : ∀ ds μ Q, G ds μ Q → Body (t_wrong_place g_is_whole_trip g_floor_of) 8 ds μ Q) : Cal P w K mg base (k + 1) "wrong_place" G := by
  refine cal_own F sc_wrong_place (fun _ _ _ _ _ _ us hl => match us, hl with | [_, _, _], _ => rfl) (fun f cdv A outer s H E hr => ?_) len hG
  have hu := hu_of hr
  have hu64 := hr.units
  have hc : (cxOf CX0 P w K mg base N_wrong_place "wrong_place" (defScope (top 46)) f cdv A outer s H E).nox.calm = true := rfl
  have hN := (sc_wrong_place).nd
  exact (mss_cons (ms_set (i := 3) hN rfl (by first | exact Or.inl rfl | exact Or.inr rfl) me_non)
    (mss_cons (ms_for PassesOwn.never hc (mi_enum Z.enumerate (me_var 2)) (mg_tup (by exact hc) (mgs_cons (mg_name (i := 4) (by exact hN) (by rfl) (by first | exact Or.inl rfl | exact Or.inr rfl)) (mgs_cons (mg_name (i := 5) (by exact hN) (by rfl) (by first | exact Or.inl rfl | exact Or.inr rfl)) mgs_nil))) (mss_cons (ms_set (i := 6) hN rfl (by first | exact Or.inl rfl | exact Or.inr rfl) (me_get1 hu (me_var 0) (me_var 5)))
    (mss_cons (ms_if (mt_w (mw_or (mt_cmp (mo_is) (me_var 6) me_non (nomark _)) (mw_or1 (mt_not (mt_val (me_call c_is_whole_trip hr (ma_cons (me_var 6) ma_nil))))))) (mss_one (ms_ret (me_var 4))) mss_nil)
    (mss_cons (ms_set (i := 7) hN rfl (by first | exact Or.inl rfl | exact Or.inr rfl) (me_ix hu (me_var 1) (me_ix hu (me_var 6) me_int)))
    (mss_cons (ms_if (mt_cmp (mo_is) (me_var 3) me_non (nomark _)) (mss_one (ms_if (mt_cmp (mo_lt) (me_ix hu (me_var 6) me_int) (me_ix hu (me_var 7) (me_neg me_int)) (nomark _)) (mss_one (ms_ret (me_var 4))) mss_nil)) (mss_one (ms_if (mt_w (mw_or (mt_cmp (mo_ne hu64) (me_ix hu (me_var 6) me_int) (me_ix hu (me_var 3) me_int) (nomark _)) (mw_or1 (mt_cmp (mo_lt) (me_ix hu (me_var 6) me_int) (me_call c_floor_of hr (ma_cons (me_var 7) (ma_cons (me_ix hu (me_var 3) me_int) ma_nil))) (nomark _))))) (mss_one (ms_ret (me_var 4))) mss_nil)))
    (mss_one (ms_set (i := 3) hN rfl (by first | exact Or.inl rfl | exact Or.inr rfl) (me_var 6))))))))
    (mss_one (ms_ret me_non))))

theorem sc_ends_at : FnScope N_ends_at ["by_letter", "way", "machine", "choice"] (defScope (top 47)) := ⟨rfl, rfl, rfl, by decide +kernel, rfl, by decide +kernel, by decide +kernel⟩
theorem cal_ends_at {P : Program} {w : World} {K : PySem.W.Frag} {mg : Str → Option Value} {base : Heap} {k : Nat} {G : DRs} (Z : Fz mg) (F : Df K mg "ends_at" (top 47))
    (len : ∀ ds μ Q, G ds μ Q → ds.length = 4) (hG : ∀ ds μ Q, G ds μ Q → Body (t_ends_at) 5 ds μ Q) : Cal P w K mg base (k + 1) "ends_at" G := by
  refine cal_own F sc_ends_at (fun _ _ _ _ _ _ us hl => match us, hl with | [_, _, _, _], _ => rfl) (fun f cdv A outer s H E hr => ?_) len hG
  have hu := hu_of hr
  have hu64 := hr.units
  have hc : (cxOf CX0 P w K mg base N_ends_at "ends_at" (defScope (top 47)) f cdv A outer s H E).nox.calm = true := rfl
  have hN := (sc_ends_at).nd
  exact (mss_cons (ms_if (mt_cmp (mo_eq hu64) (me_var 1) (me_tup ma_nil) (nomark _)) (mss_one (ms_ret me_bl)) mss_nil)
    (mss_cons (ms_set (i := 4) hN rfl (by first | exact Or.inl rfl | exact Or.inr rfl) (me_ix hu (me_var 0) (me_ix hu (me_var 1) (me_neg me_int))))
    (mss_one (ms_ret (me_and (me_cmp (mo_eq hu64) (me_ix hu (me_var 4) me_int) (me_var 2) (nomark _)) (me_one (me_cmp (mo_lt) (me_ix hu (me_var 4) me_int) (me_var 3) (nomark _))))))))

theorem sc_ask_line : FnScope N_ask_line ["choices", "line"] (defScope (top 48)) := ⟨rfl, rfl, rfl, by decide +kernel, rfl, by decide +kernel, by decide +kernel⟩
theorem cal_ask_line {P : Program} {w : World} {K : PySem.W.Frag} {mg : Str → Option Value} {base : Heap} {k : Nat} {G : DRs} {g_is_number : DRs} (Z : Fz mg) (F : Df K mg "ask_line" (top 48)) (c_is_number : Cal P w K mg base k "is_number" g_is_number)
    (len : ∀ ds μ Q, G ds μ Q → ds.length = 2) (hG : ∀ ds μ Q, G ds μ Q → Body (t_ask_line g_is_number) 4 ds μ Q) : Cal P w K mg base (k + 1) "ask_line" G := by
  refine cal_own F sc_ask_line (fun _ _ _ _ _ _ us hl => match us, hl with | [_, _], _ => rfl) (fun f cdv A outer s H E hr => ?_) len hG
  have hu := hu_of hr
  have hu64 := hr.units
  have hc : (cxOf CX0 P w K mg base N_ask_line "ask_line" (defScope (top 48)) f cdv A outer s H E).nox.calm = true := rfl
  have hN := (sc_ask_line).nd
  exact (mss_cons (ms_if (mt_w (mw_or (mt_not (mt_val (me_isT (T := "tuple") rfl Z.isinstance Z.tuple bt_tuple (me_var 1)))) (mw_or (mt_cmp (mo_ne hu64) (me_callB mc_len Z.len bt_len (ma_cons (me_var 1) ma_nil)) (me_callB mc_len Z.len bt_len (ma_cons (me_var 0) ma_nil)) (nomark _)) (mw_or1 (mt_not (mt_val (me_allL (by exact hc) Z.all (ml_lc (by exact hc) (by exact hN) (mi_seq (me_var 1)) (blkOk_by (own := [("place", 2)]) (by rfl)) (fun _ _ _ _ _ => (mg_name (i := 2) (by exact hN) (by rfl) (by first | exact Or.inl rfl | exact Or.inr rfl))) (fun _ _ _ _ _ => mts_nil) (fun _ _ _ _ _ => (me_call c_is_number hr (ma_cons (me_var 2) ma_nil))))))))))) mss_never mss_nil)
    (mss_one (ms_for PassesOwn.never hc (mi_enum Z.enumerate (me_var 1)) (mg_tup (by exact hc) (mgs_cons (mg_name (i := 3) (by exact hN) (by rfl) (by first | exact Or.inl rfl | exact Or.inr rfl)) (mgs_cons (mg_name (i := 2) (by exact hN) (by rfl) (by first | exact Or.inl rfl | exact Or.inr rfl)) mgs_nil))) (mss_one (ms_if (mt_cmp (mo_notin) (me_var 2) (me_ix hu (me_var 0) (me_var 3)) (by rfl)) mss_never mss_nil)))))

theorem sc_ask_right : FnScope N_ask_right ["all_trips", "line"] (defScope (top 49)) := ⟨rfl, rfl, rfl, by decide +kernel, rfl, by decide +kernel, by decide +kernel⟩
theorem cal_ask_right {P : Program} {w : World} {K : PySem.W.Frag} {mg : Str → Option Value} {base : Heap} {k : Nat} {G : DRs} {g_has_come g_was_sent : DRs} (Z : Fz mg) (F : Df K mg "ask_right" (top 49)) (c_has_come : Cal P w K mg base k "has_come" g_has_come) (c_was_sent : Cal P w K mg base k "was_sent" g_was_sent)
    (len : ∀ ds μ Q, G ds μ Q → ds.length = 2) (hG : ∀ ds μ Q, G ds μ Q → Body (t_ask_right g_has_come g_was_sent) 4 ds μ Q) : Cal P w K mg base (k + 1) "ask_right" G := by
  refine cal_own F sc_ask_right (fun _ _ _ _ _ _ us hl => match us, hl with | [_, _], _ => rfl) (fun f cdv A outer s H E hr => ?_) len hG
  have hu := hu_of hr
  have hu64 := hr.units
  have hc : (cxOf CX0 P w K mg base N_ask_right "ask_right" (defScope (top 49)) f cdv A outer s H E).nox.calm = true := rfl
  have hN := (sc_ask_right).nd
  exact (mss_cons (ms_setLc (j := 2) hc hN rfl rfl (sw_true rfl rfl rfl rfl) (mi_seq (me_var 0)) (blkOk_by (own := [("trip", 3)]) (by rfl)) (fun _ _ _ _ _ => (mg_name (i := 3) (by exact hN) (by rfl) (by first | exact Or.inl rfl | exact Or.inr rfl))) (fun _ _ _ _ _ => (mts_one (mt_w (mw_and (mt_val (me_call c_has_come hr (ma_cons (me_var 3) (ma_cons (me_var 1) ma_nil)))) (mw_and1 (mt_not (mt_val (me_call c_was_sent hr (ma_cons (me_var 3) (ma_cons (me_var 1) ma_nil)))))))))) (fun _ _ _ _ _ => (me_ix hu (me_var 3) me_int)))
    (mss_one (ms_if (mt_cmp (mo_ne hu64) (me_var 2) (me_new (ml_lst ma_nil)) (nomark _)) mss_never mss_nil)))

theorem sc_ask_rows : FnScope N_ask_rows ["rows", "machines", "word"] (defScope (top 50)) := ⟨rfl, rfl, rfl, by decide +kernel, rfl, by decide +kernel, by decide +kernel⟩
theorem cal_ask_rows {P : Program} {w : World} {K : PySem.W.Frag} {mg : Str → Option Value} {base : Heap} {k : Nat} {G : DRs} {g_is_number g_is_letters : DRs} (Z : Fz mg) (F : Df K mg "ask_rows" (top 50)) (c_is_number : Cal P w K mg base k "is_number" g_is_number) (c_is_letters : Cal P w K mg base k "is_letters" g_is_letters)
    (len : ∀ ds μ Q, G ds μ Q → ds.length = 3) (hG : ∀ ds μ Q, G ds μ Q → Body (t_ask_rows g_is_number g_is_letters) 5 ds μ Q) : Cal P w K mg base (k + 1) "ask_rows" G := by
  refine cal_own F sc_ask_rows (fun _ _ _ _ _ _ us hl => match us, hl with | [_, _, _], _ => rfl) (fun f cdv A outer s H E hr => ?_) len hG
  have hu := hu_of hr
  have hu64 := hr.units
  have hc : (cxOf CX0 P w K mg base N_ask_rows "ask_rows" (defScope (top 50)) f cdv A outer s H E).nox.calm = true := rfl
  have hN := (sc_ask_rows).nd
  exact (mss_cons (ms_set (i := 3) hN rfl (by first | exact Or.inl rfl | exact Or.inr rfl) (me_isT (T := "list") rfl Z.isinstance Z.list bt_list (me_var 0)))
    (mss_cons (ms_if (mt_val (me_var 3)) (mss_one (ms_for PassesOwn.never hc (mi_seq (me_var 0)) (mg_name (i := 4) (by exact hN) (by rfl) (by first | exact Or.inl rfl | exact Or.inr rfl)) (mss_one (ms_set (i := 3) hN rfl (by first | exact Or.inl rfl | exact Or.inr rfl) (me_and (me_var 3) (me_and (me_isT (T := "tuple") rfl Z.isinstance Z.tuple bt_tuple (me_var 4)) (me_and (me_cmp (mo_eq hu64) (me_callB mc_len Z.len bt_len (ma_cons (me_var 4) ma_nil)) me_int (nomark _)) (me_and (me_call c_is_number hr (ma_cons (me_ix hu (me_var 4) me_int) ma_nil)) (me_one (me_call c_is_letters hr (ma_cons (me_ix hu (me_var 4) me_int) ma_nil))))))))))) mss_nil)
    (mss_one (ms_if (mt_w (mw_or (mt_not (mt_val (me_var 3))) (mw_or1 (mt_cmp (mo_ne hu64) (me_new (ml_lc (by exact hc) (by exact hN) (mi_seq (me_var 0)) (blkOk_by (own := [("row", 4)]) (by rfl)) (fun _ _ _ _ _ => (mg_name (i := 4) (by exact hN) (by rfl) (by first | exact Or.inl rfl | exact Or.inr rfl))) (fun _ _ _ _ _ => mts_nil) (fun _ _ _ _ _ => (me_ix hu (me_var 4) me_int)))) (me_var 1) (nomark _))))) mss_never mss_nil))))

theorem sc_line_asked : FnScope N_line_asked ["form", "base", "deeds", "choices", "line", "ways"] (defScope (top 51)) := ⟨rfl, rfl, rfl, by decide +kernel, rfl, by decide +kernel, by decide +kernel⟩
theorem cal_line_asked {P : Program} {w : World} {K : PySem.W.Frag} {mg : Str → Option Value} {base : Heap} {k : Nat} {G : DRs} {g_trips g_ask_line g_ask_right g_ask_rows g_next_of g_wrong_place g_ends_at : DRs} (Z : Fz mg) (F : Df K mg "line_asked" (top 51)) (c_trips : Cal P w K mg base k "trips" g_trips) (c_ask_line : Cal P w K mg base k "ask_line" g_ask_line) (c_ask_right : Cal P w K mg base k "ask_right" g_ask_right) (c_ask_rows : Cal P w K mg base k "ask_rows" g_ask_rows) (c_next_of : Cal P w K mg base k "next_of" g_next_of) (c_wrong_place : Cal P w K mg base k "wrong_place" g_wrong_place) (c_ends_at : Cal P w K mg base k "ends_at" g_ends_at)
    (len : ∀ ds μ Q, G ds μ Q → ds.length = 6) (hG : ∀ ds μ Q, G ds μ Q → Body (t_line_asked g_trips g_ask_line g_ask_right g_ask_rows g_next_of g_wrong_place g_ends_at) 14 ds μ Q) : Cal P w K mg base (k + 1) "line_asked" G := by
  refine cal_own F sc_line_asked (fun _ _ _ _ _ _ us hl => match us, hl with | [_, _, _, _, _, _], _ => rfl) (fun f cdv A outer s H E hr => ?_) len hG
  have hu := hu_of hr
  have hu64 := hr.units
  have hc : (cxOf CX0 P w K mg base N_line_asked "line_asked" (defScope (top 51)) f cdv A outer s H E).nox.calm = true := rfl
  have hN := (sc_line_asked).nd
  exact (mss_cons (ms_set (i := 6) hN rfl (by first | exact Or.inl rfl | exact Or.inr rfl) (me_call c_trips hr (ma_cons (me_var 0) (ma_cons (me_var 1) (ma_cons (me_var 2) ma_nil)))))
    (mss_cons (ms_expr (me_call c_ask_line hr (ma_cons (me_var 3) (ma_cons (me_var 4) ma_nil))))
    (mss_cons (ms_expr (me_call c_ask_right hr (ma_cons (me_var 6) (ma_cons (me_var 4) ma_nil))))
    (mss_cons (ms_setLc (j := 7) hc hN rfl rfl (sw_true rfl rfl rfl rfl) (mi_enum Z.enumerate (me_var 3)) (blkOk_by (own := [("machine", 8), ("row", 9)]) (by rfl)) (fun _ _ _ _ _ => (mg_tup (by exact hc) (mgs_cons (mg_name (i := 8) (by exact hN) (by rfl) (by first | exact Or.inl rfl | exact Or.inr rfl)) (mgs_cons (mg_name (i := 9) (by exact hN) (by rfl) (by first | exact Or.inl rfl | exact Or.inr rfl)) mgs_nil)))) (fun _ _ _ _ _ => (mts_one (mt_cmp (mo_ne hu64) (me_ix hu (me_var 4) (me_var 8)) (me_ix hu (me_var 9) (me_neg me_int)) (nomark _)))) (fun _ _ _ _ _ => (me_var 8)))
    (mss_cons (ms_expr (me_call c_ask_rows hr (ma_cons (me_var 5) (ma_cons (me_var 7) (ma_cons me_str ma_nil)))))
    (mss_cons (ms_set (i := 10) hN rfl (by first | exact Or.inl rfl | exact Or.inr rfl) me_newT)
    (mss_cons (ms_for PassesOwn.never hc (mi_seq (me_var 6)) (mg_name (i := 11) (by exact hN) (by rfl) (by first | exact Or.inl rfl | exact Or.inr rfl)) (mss_one (ms_asg (me_var 11) (mg_sub (me_var 10) (me_ix hu (me_var 11) me_int) (ps_setD hu)))))
    (mss_cons (ms_for PassesOwn.never hc (mi_seq (me_var 5)) (mg_tup (by exact hc) (mgs_cons (mg_name (i := 8) (by exact hN) (by rfl) (by first | exact Or.inl rfl | exact Or.inr rfl)) (mgs_cons (mg_name (i := 12) (by exact hN) (by rfl) (by first | exact Or.inl rfl | exact Or.inr rfl)) mgs_nil))) (mss_cons (ms_set (i := 13) hN rfl (by first | exact Or.inl rfl | exact Or.inr rfl) (me_call c_next_of hr (ma_cons (me_ix hu (me_var 3) (me_var 8)) (ma_cons (me_ix hu (me_var 4) (me_var 8)) ma_nil))))
    (mss_one (ms_if (mt_w (mw_or (mt_cmp (mo_isnot) (me_call c_wrong_place hr (ma_cons (me_var 10) (ma_cons (me_var 3) (ma_cons (me_var 12) ma_nil)))) me_non (nomark _)) (mw_or1 (mt_not (mt_val (me_call c_ends_at hr (ma_cons (me_var 10) (ma_cons (me_var 12) (ma_cons (me_var 8) (ma_cons (me_var 13) ma_nil)))))))))) mss_never mss_nil))))
    (mss_one (ms_ret me_bl))))))))))

theorem sc_told_of : FnScope N_told_of ["all_trips", "choices", "wanted"] (defScope (top 53)) := ⟨rfl, rfl, rfl, by decide +kernel, rfl, by decide +kernel, by decide +kernel⟩
theorem cal_told_of {P : Program} {w : World} {K : PySem.W.Frag} {mg : Str → Option Value} {base : Heap} {k : Nat} {G : DRs} {g_lowered g_up_to : DRs} (Z : Fz mg) (F : Df K mg "told_of" (top 53)) (c_lowered : Cal P w K mg base k "lowered" g_lowered) (c_up_to : Cal P w K mg base k "up_to" g_up_to)
    (len : ∀ ds μ Q, G ds μ Q → ds.length = 3) (hG : ∀ ds μ Q, G ds μ Q → Body (t_told_of g_lowered g_up_to) 7 ds μ Q) : Cal P w K mg base (k + 1) "told_of" G := by
  refine cal_own F sc_told_of (fun _ _ _ _ _ _ us hl => match us, hl with | [_, _, _], _ => rfl) (fun f cdv A outer s H E hr => ?_) len hG
  have hu := hu_of hr
  have hu64 := hr.units
  have hc : (cxOf CX0 P w K mg base N_told_of "told_of" (defScope (top 53)) f cdv A outer s H E).nox.calm = true := rfl
  have hN := (sc_told_of).nd
  exact (mss_cons (ms_asg (me_call c_lowered hr (ma_cons (me_var 0) (ma_cons (me_call c_up_to hr (ma_cons (me_var 1) (ma_cons (me_var 2) ma_nil))) ma_nil))) (mg_tup (by exact hc) (mgs_cons (mg_name (i := 3) (by exact hN) (by rfl) (by first | exact Or.inl rfl | exact Or.inr rfl)) (mgs_cons (mg_name (i := 4) (by exact hN) (by rfl) (by first | exact Or.inl rfl | exact Or.inr rfl)) mgs_nil))))
    (mss_cons (ms_for PassesOwn.never hc (mi_seq (me_var 4)) (mg_tup (by exact hc) (mgs_cons (mg_name (i := 5) (by exact hN) (by rfl) (by first | exact Or.inl rfl | exact Or.inr rfl)) (mgs_cons (mg_name (i := 6) (by exact hN) (by rfl) (by first | exact Or.inl rfl | exact Or.inr rfl)) mgs_nil))) (mss_one (ms_if (mt_cmp (mo_in hu) (me_var 5) (me_var 2) (by rfl)) (mss_one (ms_ret (me_tup (ma_cons me_str (ma_cons (me_var 6) ma_nil))))) mss_nil)))
    (mss_one (ms_ret (me_tup (ma_cons me_str (ma_cons (me_var 3) (ma_cons (me_var 4) ma_nil))))))))

theorem sc_extended : FnScope N_extended ["form", "base", "deeds", "choices", "wanted"] (defScope (top 54)) := ⟨rfl, rfl, rfl, by decide +kernel, rfl, by decide +kernel, by decide +kernel⟩
theorem cal_extended {P : Program} {w : World} {K : PySem.W.Frag} {mg : Str → Option Value} {base : Heap} {k : Nat} {G : DRs} {g_told_of g_trips : DRs} (Z : Fz mg) (F : Df K mg "extended" (top 54)) (c_told_of : Cal P w K mg base k "told_of" g_told_of) (c_trips : Cal P w K mg base k "trips" g_trips)
    (len : ∀ ds μ Q, G ds μ Q → ds.length = 5) (hG : ∀ ds μ Q, G ds μ Q → Body (t_extended g_told_of g_trips) 5 ds μ Q) : Cal P w K mg base (k + 1) "extended" G := by
  refine cal_own F sc_extended (fun _ _ _ _ _ _ us hl => match us, hl with | [_, _, _, _, _], _ => rfl) (fun f cdv A outer s H E hr => ?_) len hG
  have hu := hu_of hr
  have hu64 := hr.units
  have hc : (cxOf CX0 P w K mg base N_extended "extended" (defScope (top 54)) f cdv A outer s H E).nox.calm = true := rfl
  have hN := (sc_extended).nd
  exact (mss_one (ms_ret (me_call c_told_of hr (ma_cons (me_call c_trips hr (ma_cons (me_var 0) (ma_cons (me_var 1) (ma_cons (me_var 2) ma_nil)))) (ma_cons (me_var 3) (ma_cons (me_var 4) ma_nil))))))

theorem sc_ask_way : FnScope N_ask_way ["form", "base", "deeds", "choices", "wanted", "way"] (defScope (top 55)) := ⟨rfl, rfl, rfl, by decide +kernel, rfl, by decide +kernel, by decide +kernel⟩
theorem cal_ask_way {P : Program} {w : World} {K : PySem.W.Frag} {mg : Str → Option Value} {base : Heap} {k : Nat} {G : DRs} {g_trips g_wrong_place g_ends_at : DRs} (Z : Fz mg) (F : Df K mg "ask_way" (top 55)) (c_trips : Cal P w K mg base k "trips" g_trips) (c_wrong_place : Cal P w K mg base k "wrong_place" g_wrong_place) (c_ends_at : Cal P w K mg base k "ends_at" g_ends_at)
    (len : ∀ ds μ Q, G ds μ Q → ds.length = 6) (hG : ∀ ds μ Q, G ds μ Q → Body (t_ask_way g_trips g_wrong_place g_ends_at) 10 ds μ Q) : Cal P w K mg base (k + 1) "ask_way" G := by
  refine cal_own F sc_ask_way (fun _ _ _ _ _ _ us hl => match us, hl with | [_, _, _, _, _, _], _ => rfl) (fun f cdv A outer s H E hr => ?_) len hG
  have hu := hu_of hr
  have hu64 := hr.units
  have hc : (cxOf CX0 P w K mg base N_ask_way "ask_way" (defScope (top 55)) f cdv A outer s H E).nox.calm = true := rfl
  have hN := (sc_ask_way).nd
  exact (mss_cons (ms_set (i := 6) hN rfl (by first | exact Or.inl rfl | exact Or.inr rfl) me_newT)
    (mss_cons (ms_for PassesOwn.never hc (mi_seq (me_call c_trips hr (ma_cons (me_var 0) (ma_cons (me_var 1) (ma_cons (me_var 2) ma_nil))))) (mg_name (i := 7) (by exact hN) (by rfl) (by first | exact Or.inl rfl | exact Or.inr rfl)) (mss_one (ms_asg (me_var 7) (mg_sub (me_var 6) (me_ix hu (me_var 7) me_int) (ps_setD hu)))))
    (mss_cons (ms_set (i := 8) hN rfl (by first | exact Or.inl rfl | exact Or.inr rfl) (me_call c_wrong_place hr (ma_cons (me_var 6) (ma_cons (me_var 3) (ma_cons (me_var 5) ma_nil)))))
    (mss_cons (ms_if (mt_cmp (mo_isnot) (me_var 8) me_non (nomark _)) mss_never mss_nil)
    (mss_one (ms_if (mt_not (mt_val (me_anyL (by exact hc) Z.any (ml_keysLc (by exact hc) (by exact hN) (me_var 4) (blkOk_by (own := [("machine", 9)]) (by rfl)) (fun _ _ _ _ _ => (mg_name (i := 9) (by exact hN) (by rfl) (by first | exact Or.inl rfl | exact Or.inr rfl))) (fun _ _ _ _ _ => mts_nil) (fun _ _ _ _ _ => (me_call c_ends_at hr (ma_cons (me_var 6) (ma_cons (me_var 5) (ma_cons (me_var 9) (ma_cons (me_ix hu (me_var 4) (me_var 9)) ma_nil)))))))))) mss_never mss_nil))))))

theorem sc_extended_asked : FnScope N_extended_asked ["form", "base", "deeds", "choices", "wanted", "told"] (defScope (top 56)) := ⟨rfl, rfl, rfl, by decide +kernel, rfl, by decide +kernel, by decide +kernel⟩
theorem cal_extended_asked {P : Program} {w : World} {K : PySem.W.Frag} {mg : Str → Option Value} {base : Heap} {k : Nat} {G : DRs} {g_up_to g_line_asked g_is_letters g_ask_way : DRs} (Z : Fz mg) (F : Df K mg "extended_asked" (top 56)) (c_up_to : Cal P w K mg base k "up_to" g_up_to) (c_line_asked : Cal P w K mg base k "line_asked" g_line_asked) (c_is_letters : Cal P w K mg base k "is_letters" g_is_letters) (c_ask_way : Cal P w K mg base k "ask_way" g_ask_way)
    (len : ∀ ds μ Q, G ds μ Q → ds.length = 6) (hG : ∀ ds μ Q, G ds μ Q → Body (t_extended_asked g_up_to g_line_asked g_is_letters g_ask_way) 8 ds μ Q) : Cal P w K mg base (k + 1) "extended_asked" G := by
  refine cal_own F sc_extended_asked (fun _ _ _ _ _ _ us hl => match us, hl with | [_, _, _, _, _, _], _ => rfl) (fun f cdv A outer s H E hr => ?_) len hG
  have hu := hu_of hr
  have hu64 := hr.units
  have hc : (cxOf CX0 P w K mg base N_extended_asked "extended_asked" (defScope (top 56)) f cdv A outer s H E).nox.calm = true := rfl
  have hN := (sc_extended_asked).nd
  exact (mss_cons (ms_set (i := 6) hN rfl (by first | exact Or.inl rfl | exact Or.inr rfl) (me_call c_up_to hr (ma_cons (me_var 3) (ma_cons (me_var 4) ma_nil))))
    (mss_cons (ms_if (mt_w (mw_or (mt_not (mt_val (me_isT (T := "tuple") rfl Z.isinstance Z.tuple bt_tuple (me_var 5)))) (mw_or (mt_cmp (mo_eq hu64) (me_callB mc_len Z.len bt_len (ma_cons (me_var 5) ma_nil)) me_int (nomark _)) (mw_or1 (mt_not (mt_val (me_isT (T := "str") rfl Z.isinstance Z.str bt_str (me_ix hu (me_var 5) me_int)))))))) mss_never mss_nil)
    (mss_cons (ms_if (mt_w (mw_and (mt_cmp (mo_eq hu64) (me_ix hu (me_var 5) me_int) me_str (nomark _)) (mw_and1 (mt_cmp (mo_eq hu64) (me_callB mc_len Z.len bt_len (ma_cons (me_var 5) ma_nil)) me_int (nomark _))))) (mss_cons (ms_expr (me_call c_line_asked hr (ma_cons (me_var 0) (ma_cons (me_var 1) (ma_cons (me_var 2) (ma_cons (me_var 6) (ma_cons (me_ix hu (me_var 5) me_int) (ma_cons (me_ix hu (me_var 5) me_int) ma_nil))))))))
    (mss_cons (ms_for PassesOwn.never hc (mi_new (ml_sortK hc Z.sorted (me_var 4))) (mg_name (i := 7) (by exact hN) (by rfl) (by first | exact Or.inl rfl | exact Or.inr rfl)) (mss_one (ms_if (mt_cmp (mo_ne hu64) (me_ix hu (me_ix hu (me_var 5) me_int) (me_var 7)) (me_ix hu (me_var 4) (me_var 7)) (nomark _)) mss_never mss_nil)))
    (mss_one (ms_ret me_bl)))) mss_nil)
    (mss_cons (ms_if (mt_w (mw_or (mt_cmp (mo_ne hu64) (me_ix hu (me_var 5) me_int) me_str (nomark _)) (mw_or (mt_cmp (mo_ne hu64) (me_callB mc_len Z.len bt_len (ma_cons (me_var 5) ma_nil)) me_int (nomark _)) (mw_or1 (mt_not (mt_val (me_call c_is_letters hr (ma_cons (me_ix hu (me_var 5) me_int) ma_nil)))))))) mss_never mss_nil)
    (mss_cons (ms_expr (me_call c_ask_way hr (ma_cons (me_var 0) (ma_cons (me_var 1) (ma_cons (me_var 2) (ma_cons (me_var 6) (ma_cons (me_var 4) (ma_cons (me_ix hu (me_var 5) me_int) ma_nil))))))))
    (mss_one (ms_ret me_bl)))))))

theorem sc_first_useless : FnScope N_first_useless ["all_trips", "choices"] (defScope (top 58)) := ⟨rfl, rfl, rfl, by decide +kernel, rfl, by decide +kernel, by decide +kernel⟩
theorem cal_first_useless {P : Program} {w : World} {K : PySem.W.Frag} {mg : Str → Option Value} {base : Heap} {k : Nat} {G : DRs} {g_told_of : DRs} (Z : Fz mg) (F : Df K mg "first_useless" (top 58)) (c_told_of : Cal P w K mg base k "told_of" g_told_of)
    (len : ∀ ds μ Q, G ds μ Q → ds.length = 2) (hG : ∀ ds μ Q, G ds μ Q → Body (t_first_useless g_told_of) 6 ds μ Q) : Cal P w K mg base (k + 1) "first_useless" G := by
  refine cal_own F sc_first_useless (fun _ _ _ _ _ _ us hl => match us, hl with | [_, _], _ => rfl) (fun f cdv A outer s H E hr => ?_) len hG
  have hu := hu_of hr
  have hu64 := hr.units
  have hc : (cxOf CX0 P w K mg base N_first_useless "first_useless" (defScope (top 58)) f cdv A outer s H E).nox.calm = true := rfl
  have hN := (sc_first_useless).nd
  exact (mss_cons (ms_for PassesOwn.never hc (mi_enum Z.enumerate (me_var 1)) (mg_tup (by exact hc) (mgs_cons (mg_name (i := 2) (by exact hN) (by rfl) (by first | exact Or.inl rfl | exact Or.inr rfl)) (mgs_cons (mg_name (i := 3) (by exact hN) (by rfl) (by first | exact Or.inl rfl | exact Or.inr rfl)) mgs_nil))) (mss_one (ms_for PassesOwn.never hc (mi_seq (me_var 3)) (mg_name (i := 4) (by exact hN) (by rfl) (by first | exact Or.inl rfl | exact Or.inr rfl)) (mss_cons (ms_set (i := 5) hN rfl (by first | exact Or.inl rfl | exact Or.inr rfl) (me_call c_told_of hr (ma_cons (me_var 0) (ma_cons (me_var 1) (ma_cons (me_disp (mps_cons (me_var 2) (me_var 4) mps_nil)) ma_nil)))))
    (mss_one (ms_if (mt_cmp (mo_eq hu64) (me_ix hu (me_var 5) me_int) me_str (nomark _)) (mss_one (ms_ret (me_tup (ma_cons me_str (ma_cons (me_var 2) (ma_cons (me_var 4) (ma_cons (me_ix hu (me_var 5) me_int) ma_nil))))))) mss_nil))))))
    (mss_one (ms_ret me_non)))

theorem sc_place_in : FnScope N_place_in ["choices", "machine", "number"] (defScope (top 59)) := ⟨rfl, rfl, rfl, by decide +kernel, rfl, by decide +kernel, by decide +kernel⟩
theorem cal_place_in {P : Program} {w : World} {K : PySem.W.Frag} {mg : Str → Option Value} {base : Heap} {k : Nat} {G : DRs} {g_floor_of : DRs} (Z : Fz mg) (F : Df K mg "place_in" (top 59)) (c_floor_of : Cal P w K mg base k "floor_of" g_floor_of)
    (len : ∀ ds μ Q, G ds μ Q → ds.length = 3) (hG : ∀ ds μ Q, G ds μ Q → Body (t_place_in g_floor_of) 3 ds μ Q) : Cal P w K mg base (k + 1) "place_in" G := by
  refine cal_own F sc_place_in (fun _ _ _ _ _ _ us hl => match us, hl with | [_, _, _], _ => rfl) (fun f cdv A outer s H E hr => ?_) len hG
  have hu := hu_of hr
  have hu64 := hr.units
  have hc : (cxOf CX0 P w K mg base N_place_in "place_in" (defScope (top 59)) f cdv A outer s H E).nox.calm = true := rfl
  have hN := (sc_place_in).nd
  exact (mss_one (ms_ret (me_index (me_ix hu (me_var 0) (me_var 1)) (me_call c_floor_of hr (ma_cons (me_ix hu (me_var 0) (me_var 1)) (ma_cons (me_var 2) ma_nil))))))

theorem sc_raised : FnScope N_raised ["choices", "steps", "numbers"] (defScope (top 60)) := ⟨rfl, rfl, rfl, by decide +kernel, rfl, by decide +kernel, by decide +kernel⟩
theorem cal_raised {P : Program} {w : World} {K : PySem.W.Frag} {mg : Str → Option Value} {base : Heap} {k : Nat} {G : DRs} (Z : Fz mg) (F : Df K mg "raised" (top 60))
    (len : ∀ ds μ Q, G ds μ Q → ds.length = 3) (hG : ∀ ds μ Q, G ds μ Q → Body (t_raised) 10 ds μ Q) : Cal P w K mg base (k + 1) "raised" G := by
  refine cal_own F sc_raised (fun _ _ _ _ _ _ us hl => match us, hl with | [_, _, _], _ => rfl) (fun f cdv A outer s H E hr => ?_) len hG
  have hu := hu_of hr
  have hu64 := hr.units
  have hc : (cxOf CX0 P w K mg base N_raised "raised" (defScope (top 60)) f cdv A outer s H E).nox.calm = true := rfl
  have hN := (sc_raised).nd
  exact (mss_cons (ms_set (i := 3) hN rfl (by first | exact Or.inl rfl | exact Or.inr rfl) me_bl)
    (mss_cons (ms_for PassesOwn.never hc (mi_seq (me_var 2)) (mg_name (i := 4) (by exact hN) (by rfl) (by first | exact Or.inl rfl | exact Or.inr rfl)) (mss_one (ms_for PassesOwn.never hc (mi_range2 Z.range (ma_cons me_int (ma_cons (me_callB mc_len Z.len bt_len (ma_cons (me_var 4) ma_nil)) ma_nil))) (mg_name (i := 5) (by exact hN) (by rfl) (by first | exact Or.inl rfl | exact Or.inr rfl)) (mss_one (ms_if (mt_cmp (mo_le) (me_ix hu (me_var 4) (me_var 5)) (me_ix hu (me_var 4) (me_op (mo_sub) (me_var 5) me_int)) (nomark _)) (mss_cons (ms_asg (me_op (mo_add) (me_ix hu (me_var 4) (me_op (mo_sub) (me_var 5) me_int)) me_int) (mg_sub (me_var 4) (me_var 5) (ps_setD hu)))
    (mss_one (ms_set (i := 3) hN rfl (by first | exact Or.inl rfl | exact Or.inr rfl) me_bl))) mss_nil)))))
    (mss_cons (ms_for PassesOwn.never hc (mi_seq (me_var 1)) (mg_tup (by exact hc) (mgs_cons (mg_name (i := 6) (by exact hN) (by rfl) (by first | exact Or.inl rfl | exact Or.inr rfl)) (mgs_cons (mg_name (i := 7) (by exact hN) (by rfl) (by first | exact Or.inl rfl | exact Or.inr rfl)) (mgs_cons (mg_name (i := 8) (by exact hN) (by rfl) (by first | exact Or.inl rfl | exact Or.inr rfl)) (mgs_cons (mg_name (i := 9) (by exact hN) (by rfl) (by first | exact Or.inl rfl | exact Or.inr rfl)) mgs_nil))))) (mss_one (ms_if (mt_cmp (mo_lt) (me_ix hu (me_ix hu (me_var 2) (me_var 8)) (me_var 9)) (me_ix hu (me_ix hu (me_var 2) (me_var 6)) (me_var 7)) (nomark _)) (mss_cons (ms_asg (me_ix hu (me_ix hu (me_var 2) (me_var 6)) (me_var 7)) (mg_sub (me_ix hu (me_var 2) (me_var 8)) (me_var 9) (ps_setD hu)))
    (mss_one (ms_set (i := 3) hN rfl (by first | exact Or.inl rfl | exact Or.inr rfl) me_bl))) mss_nil)))
    (mss_one (ms_ret (me_var 3))))))

theorem sc_numbers_of : FnScope N_numbers_of ["form", "base", "deeds", "choices"] (defScope (top 61)) := ⟨rfl, rfl, rfl, by decide +kernel, rfl, by decide +kernel, by decide +kernel⟩
theorem cal_numbers_of {P : Program} {w : World} {K : PySem.W.Frag} {mg : Str → Option Value} {base : Heap} {k : Nat} {G : DRs} {g_trips g_first_useless g_is_whole_trip g_place_in g_raised : DRs} (Z : Fz mg) (F : Df K mg "numbers_of" (top 61)) (c_trips : Cal P w K mg base k "trips" g_trips) (c_first_useless : Cal P w K mg base k "first_useless" g_first_useless) (c_is_whole_trip : Cal P w K mg base k "is_whole_trip" g_is_whole_trip) (c_place_in : Cal P w K mg base k "place_in" g_place_in) (c_raised : Cal P w K mg base k "raised" g_raised)
    (len : ∀ ds μ Q, G ds μ Q → ds.length = 4) (hG : ∀ ds μ Q, G ds μ Q → Body (t_numbers_of g_trips g_first_useless g_is_whole_trip g_place_in g_raised) 12 ds μ Q) : Cal P w K mg base (k + 1) "numbers_of" G := by
  refine cal_own F sc_numbers_of (fun _ _ _ _ _ _ us hl => match us, hl with | [_, _, _, _], _ => rfl) (fun f cdv A outer s H E hr => ?_) len hG
  have hu := hu_of hr
  have hu64 := hr.units
  have hc : (cxOf CX0 P w K mg base N_numbers_of "numbers_of" (defScope (top 61)) f cdv A outer s H E).nox.calm = true := rfl
  have hN := (sc_numbers_of).nd
  exact (mss_cons (ms_set (i := 4) hN rfl (by first | exact Or.inl rfl | exact Or.inr rfl) (me_call c_trips hr (ma_cons (me_var 0) (ma_cons (me_var 1) (ma_cons (me_var 2) ma_nil)))))
    (mss_cons (ms_set (i := 5) hN rfl (by first | exact Or.inl rfl | exact Or.inr rfl) (me_call c_first_useless hr (ma_cons (me_var 4) (ma_cons (me_var 3) ma_nil))))
    (mss_cons (ms_if (mt_cmp (mo_isnot) (me_var 5) me_non (nomark _)) (mss_one (ms_ret (me_var 5))) mss_nil)
    (mss_cons (ms_set (i := 6) hN rfl (by first | exact Or.inl rfl | exact Or.inr rfl) (me_new (ml_lst ma_nil)))
    (mss_cons (ms_for PassesOwn.never hc (mi_seq (me_var 4)) (mg_name (i := 7) (by exact hN) (by rfl) (by first | exact Or.inl rfl | exact Or.inr rfl)) (mss_one (ms_if (mt_val (me_call c_is_whole_trip hr (ma_cons (me_var 7) ma_nil))) (mss_cons (ms_set (i := 8) hN rfl (by first | exact Or.inl rfl | exact Or.inr rfl) (me_call c_place_in hr (ma_cons (me_var 3) (ma_cons (me_ix hu (me_var 7) me_int) (ma_cons (me_ix hu (me_var 7) me_int) ma_nil)))))
    (mss_one (ms_expr (me_append (me_var 6) (me_tup (ma_cons (me_ix hu (me_var 7) me_int) (ma_cons (me_var 8) (ma_cons (me_ix hu (me_var 7) me_int) (ma_cons (me_call c_place_in hr (ma_cons (me_var 3) (ma_cons (me_ix hu (me_var 7) me_int) (ma_cons (me_ix hu (me_var 7) me_int) ma_nil)))) ma_nil))))))))) mss_nil)))
    (mss_cons (ms_setLc (j := 9) hc hN rfl rfl (sw_true rfl rfl rfl rfl) (mi_seq (me_var 3)) (blkOk_by (own := [("row", 10)]) (by rfl)) (fun _ _ _ _ _ => (mg_name (i := 10) (by exact hN) (by rfl) (by first | exact Or.inl rfl | exact Or.inr rfl))) (fun _ _ _ _ _ => mts_nil) (fun _ _ _ _ _ => (me_new (ml_lc (by exact hc) (by exact hN) (mi_seq (me_var 10)) (blkOk_by (own := [("place", 11)]) (by rfl)) (fun _ _ _ _ _ => (mg_name (i := 11) (by exact hN) (by rfl) (by first | exact Or.inl rfl | exact Or.inr rfl))) (fun _ _ _ _ _ => mts_nil) (fun _ _ _ _ _ => me_int)))))
    (mss_cons (ms_while PassesOwn.never (mt_val (me_call c_raised hr (ma_cons (me_var 3) (ma_cons (me_var 6) (ma_cons (me_var 9) ma_nil))))) (mss_one ms_pass))
    (mss_one (ms_ret (me_tup (ma_cons me_str (ma_cons (me_tupL Z.tuple (ml_lc (by exact hc) (by exact hN) (mi_seq (me_var 9)) (blkOk_by (own := [("row", 10)]) (by rfl)) (fun _ _ _ _ _ => (mg_name (i := 10) (by exact hN) (by rfl) (by first | exact Or.inl rfl | exact Or.inr rfl))) (fun _ _ _ _ _ => mts_nil) (fun _ _ _ _ _ => (me_callTy mc_tup Z.tuple bt_tuple (ma_cons (me_var 10) ma_nil))))) ma_nil))))))))))))

theorem sc_is_form_of : FnScope N_is_form_of ["choices", "numbers"] (defScope (top 62)) := ⟨rfl, rfl, rfl, by decide +kernel, rfl, by decide +kernel, by decide +kernel⟩
theorem cal_is_form_of {P : Program} {w : World} {K : PySem.W.Frag} {mg : Str → Option Value} {base : Heap} {k : Nat} {G : DRs} {g_is_number : DRs} (Z : Fz mg) (F : Df K mg "is_form_of" (top 62)) (c_is_number : Cal P w K mg base k "is_number" g_is_number)
    (len : ∀ ds μ Q, G ds μ Q → ds.length = 2) (hG : ∀ ds μ Q, G ds μ Q → Body (t_is_form_of g_is_number) 5 ds μ Q) : Cal P w K mg base (k + 1) "is_form_of" G := by
  refine cal_own F sc_is_form_of (fun _ _ _ _ _ _ us hl => match us, hl with | [_, _], _ => rfl) (fun f cdv A outer s H E hr => ?_) len hG
  have hu := hu_of hr
  have hu64 := hr.units
  have hc : (cxOf CX0 P w K mg base N_is_form_of "is_form_of" (defScope (top 62)) f cdv A outer s H E).nox.calm = true := rfl
  have hN := (sc_is_form_of).nd
  exact (mss_cons (ms_if (mt_w (mw_or (mt_not (mt_val (me_isT (T := "tuple") rfl Z.isinstance Z.tuple bt_tuple (me_var 1)))) (mw_or1 (mt_cmp (mo_ne hu64) (me_callB mc_len Z.len bt_len (ma_cons (me_var 1) ma_nil)) (me_callB mc_len Z.len bt_len (ma_cons (me_var 0) ma_nil)) (nomark _))))) (mss_one (ms_ret me_bl)) mss_nil)
    (mss_cons (ms_for PassesOwn.never hc (mi_zip Z.zip (ma_cons (me_var 0) (ma_cons (me_var 1) ma_nil))) (mg_tup (by exact hc) (mgs_cons (mg_name (i := 2) (by exact hN) (by rfl) (by first | exact Or.inl rfl | exact Or.inr rfl)) (mgs_cons (mg_name (i := 3) (by exact hN) (by rfl) (by first | exact Or.inl rfl | exact Or.inr rfl)) mgs_nil))) (mss_cons (ms_if (mt_w (mw_or (mt_not (mt_val (me_isT (T := "tuple") rfl Z.isinstance Z.tuple bt_tuple (me_var 3)))) (mw_or1 (mt_cmp (mo_ne hu64) (me_callB mc_len Z.len bt_len (ma_cons (me_var 3) ma_nil)) (me_callB mc_len Z.len bt_len (ma_cons (me_var 2) ma_nil)) (nomark _))))) (mss_one (ms_ret me_bl)) mss_nil)
    (mss_one (ms_if (mt_not (mt_val (me_allL (by exact hc) Z.all (ml_lc (by exact hc) (by exact hN) (mi_seq (me_var 3)) (blkOk_by (own := [("one", 4)]) (by rfl)) (fun _ _ _ _ _ => (mg_name (i := 4) (by exact hN) (by rfl) (by first | exact Or.inl rfl | exact Or.inr rfl))) (fun _ _ _ _ _ => mts_nil) (fun _ _ _ _ _ => (me_and (me_call c_is_number hr (ma_cons (me_var 4) ma_nil)) (me_one (me_cmp (mo_ge) (me_var 4) me_int (nomark _))))))))) (mss_one (ms_ret me_bl)) mss_nil))))
    (mss_one (ms_ret me_bl))))

theorem sc_ask_trip : FnScope N_ask_trip ["choices", "numbers", "trip"] (defScope (top 63)) := ⟨rfl, rfl, rfl, by decide +kernel, rfl, by decide +kernel, by decide +kernel⟩
theorem cal_ask_trip {P : Program} {w : World} {K : PySem.W.Frag} {mg : Str → Option Value} {base : Heap} {k : Nat} {G : DRs} {g_place_in : DRs} (Z : Fz mg) (F : Df K mg "ask_trip" (top 63)) (c_place_in : Cal P w K mg base k "place_in" g_place_in)
    (len : ∀ ds μ Q, G ds μ Q → ds.length = 3) (hG : ∀ ds μ Q, G ds μ Q → Body (t_ask_trip g_place_in) 9 ds μ Q) : Cal P w K mg base (k + 1) "ask_trip" G := by
  refine cal_own F sc_ask_trip (fun _ _ _ _ _ _ us hl => match us, hl with | [_, _, _], _ => rfl) (fun f cdv A outer s H E hr => ?_) len hG
  have hu := hu_of hr
  have hu64 := hr.units
  have hc : (cxOf CX0 P w K mg base N_ask_trip "ask_trip" (defScope (top 63)) f cdv A outer s H E).nox.calm = true := rfl
  have hN := (sc_ask_trip).nd
  exact (mss_cons (ms_asg (me_sl (me_var 2) (mo_some me_int) mo_none) (mg_tup (by exact hc) (mgs_cons (mg_name (i := 3) (by exact hN) (by rfl) (by first | exact Or.inl rfl | exact Or.inr rfl)) (mgs_cons (mg_name (i := 4) (by exact hN) (by rfl) (by first | exact Or.inl rfl | exact Or.inr rfl)) (mgs_cons (mg_name (i := 5) (by exact hN) (by rfl) (by first | exact Or.inl rfl | exact Or.inr rfl)) (mgs_cons (mg_name (i := 6) (by exact hN) (by rfl) (by first | exact Or.inl rfl | exact Or.inr rfl)) mgs_nil))))))
    (mss_cons (ms_if (mt_w (mw_and (mt_cmp (mo_lt) (me_var 6) (me_ix hu (me_ix hu (me_var 0) (me_var 5)) (me_neg me_int)) (nomark _)) (mw_and1 (mt_cmp (mo_ge) (me_var 4) (me_ix hu (me_ix hu (me_var 0) (me_var 3)) (me_neg me_int)) (nomark _))))) mss_never mss_nil)
    (mss_cons (ms_set (i := 7) hN rfl (by first | exact Or.inl rfl | exact Or.inr rfl) (me_call c_place_in hr (ma_cons (me_var 0) (ma_cons (me_var 3) (ma_cons (me_var 4) ma_nil)))))
    (mss_cons (ms_set (i := 8) hN rfl (by first | exact Or.inl rfl | exact Or.inr rfl) (me_call c_place_in hr (ma_cons (me_var 0) (ma_cons (me_var 5) (ma_cons (me_var 6) ma_nil)))))
    (mss_one (ms_if (mt_cmp (mo_lt) (me_ix hu (me_ix hu (me_var 1) (me_var 5)) (me_var 8)) (me_ix hu (me_ix hu (me_var 1) (me_var 3)) (me_var 7)) (nomark _)) mss_never mss_nil))))))

theorem sc_numbers_asked : FnScope N_numbers_asked ["form", "base", "deeds", "choices", "numbers"] (defScope (top 64)) := ⟨rfl, rfl, rfl, by decide +kernel, rfl, by decide +kernel, by decide +kernel⟩
theorem cal_numbers_asked {P : Program} {w : World} {K : PySem.W.Frag} {mg : Str → Option Value} {base : Heap} {k : Nat} {G : DRs} {g_is_form_of g_trips g_is_whole_trip g_ask_trip : DRs} (Z : Fz mg) (F : Df K mg "numbers_asked" (top 64)) (c_is_form_of : Cal P w K mg base k "is_form_of" g_is_form_of) (c_trips : Cal P w K mg base k "trips" g_trips) (c_is_whole_trip : Cal P w K mg base k "is_whole_trip" g_is_whole_trip) (c_ask_trip : Cal P w K mg base k "ask_trip" g_ask_trip)
    (len : ∀ ds μ Q, G ds μ Q → ds.length = 5) (hG : ∀ ds μ Q, G ds μ Q → Body (t_numbers_asked g_is_form_of g_trips g_is_whole_trip g_ask_trip) 9 ds μ Q) : Cal P w K mg base (k + 1) "numbers_asked" G := by
  refine cal_own F sc_numbers_asked (fun _ _ _ _ _ _ us hl => match us, hl with | [_, _, _, _, _], _ => rfl) (fun f cdv A outer s H E hr => ?_) len hG
  have hu := hu_of hr
  have hu64 := hr.units
  have hc : (cxOf CX0 P w K mg base N_numbers_asked "numbers_asked" (defScope (top 64)) f cdv A outer s H E).nox.calm = true := rfl
  have hN := (sc_numbers_asked).nd
  exact (mss_cons (ms_if (mt_not (mt_val (me_call c_is_form_of hr (ma_cons (me_var 3) (ma_cons (me_var 4) ma_nil))))) mss_never mss_nil)
    (mss_cons (ms_for PassesOwn.never hc (mi_enum Z.enumerate (me_var 4)) (mg_tup (by exact hc) (mgs_cons (mg_name (i := 5) (by exact hN) (by rfl) (by first | exact Or.inl rfl | exact Or.inr rfl)) (mgs_cons (mg_name (i := 6) (by exact hN) (by rfl) (by first | exact Or.inl rfl | exact Or.inr rfl)) mgs_nil))) (mss_one (ms_for PassesOwn.never hc (mi_range2 Z.range (ma_cons me_int (ma_cons (me_callB mc_len Z.len bt_len (ma_cons (me_var 6) ma_nil)) ma_nil))) (mg_name (i := 7) (by exact hN) (by rfl) (by first | exact Or.inl rfl | exact Or.inr rfl)) (mss_one (ms_if (mt_cmp (mo_le) (me_ix hu (me_var 6) (me_var 7)) (me_ix hu (me_var 6) (me_op (mo_sub) (me_var 7) me_int)) (nomark _)) mss_never mss_nil)))))
    (mss_cons (ms_for PassesOwn.never hc (mi_seq (me_call c_trips hr (ma_cons (me_var 0) (ma_cons (me_var 1) (ma_cons (me_var 2) ma_nil))))) (mg_name (i := 8) (by exact hN) (by rfl) (by first | exact Or.inl rfl | exact Or.inr rfl)) (mss_one (ms_if (mt_val (me_call c_is_whole_trip hr (ma_cons (me_var 8) ma_nil))) (mss_one (ms_expr (me_call c_ask_trip hr (ma_cons (me_var 3) (ma_cons (me_var 4) (ma_cons (me_var 8) ma_nil)))))) mss_nil)))
    (mss_one (ms_ret me_bl)))))

theorem sc__law_feed : FnScope N__law_feed ["_law_script"] (defScope (top 66)) := ⟨rfl, rfl, rfl, by decide +kernel, rfl, by decide +kernel, by decide +kernel⟩
theorem cal__law_feed {P : Program} {w : World} {K : PySem.W.Frag} {mg : Str → Option Value} {base : Heap} {k : Nat} {G : DRs} (Z : Fz mg) (F : Df K mg "_law_feed" (top 66))
    (len : ∀ ds μ Q, G ds μ Q → ds.length = 1) (hG : ∀ ds μ Q, G ds μ Q → Body (t__law_feed) 1 ds μ Q) : Cal P w K mg base (k + 1) "_law_feed" G := by
  refine cal_own F sc__law_feed (fun _ _ _ _ _ _ us hl => match us, hl with | [_], _ => rfl) (fun f cdv A outer s H E hr => ?_) len hG
  have hu := hu_of hr
  have hu64 := hr.units
  have hc : (cxOf CX0 P w K mg base N__law_feed "_law_feed" (defScope (top 66)) f cdv A outer s H E).nox.calm = true := rfl
  have hN := (sc__law_feed).nd
  exact (mss_one (ms_ret (me_new (ml_lst (ma_cons (me_op (mo_add) (me_new (ml_sl (me_var 0) mo_none (mo_some me_int))) (me_op (mo_mul) (me_new (ml_lst (ma_cons me_int ma_nil))) (me_callTy mc_int Z.int bt_int (ma_cons (me_cmp (mo_eq hu64) (me_var 0) (me_new (ml_lst ma_nil)) (nomark _)) ma_nil)))) (ma_cons me_int (ma_cons me_int (ma_cons me_int ma_nil))))))))

theorem sc__law_draw : FnScope N__law_draw ["_law_feed_here", "_law_many"] (defScope (top 67)) := ⟨rfl, rfl, rfl, by decide +kernel, rfl, by decide +kernel, by decide +kernel⟩
theorem cal__law_draw {P : Program} {w : World} {K : PySem.W.Frag} {mg : Str → Option Value} {base : Heap} {k : Nat} {G : DRs} (Z : Fz mg) (F : Df K mg "_law_draw" (top 67))
    (len : ∀ ds μ Q, G ds μ Q → ds.length = 2) (hG : ∀ ds μ Q, G ds μ Q → Body (t__law_draw) 6 ds μ Q) : Cal P w K mg base (k + 1) "_law_draw" G := by
  refine cal_own F sc__law_draw (fun _ _ _ _ _ _ us hl => match us, hl with | [_, _], _ => rfl) (fun f cdv A outer s H E hr => ?_) len hG
  have hu := hu_of hr
  have hu64 := hr.units
  have hc : (cxOf CX0 P w K mg base N__law_draw "_law_draw" (defScope (top 67)) f cdv A outer s H E).nox.calm = true := rfl
  have hN := (sc__law_draw).nd
  exact (mss_cons (ms_asg (me_op (mo_add) (me_ix hu (me_var 0) me_int) me_int) (mg_sub (me_var 0) me_int (ps_setD hu)))
    (mss_cons (ms_if (mt_cmp (mo_gt) (me_ix hu (me_var 0) me_int) me_int (nomark _)) (mss_cons (ms_set (i := 2) hN rfl (by first | exact Or.inl rfl | exact Or.inr rfl) (me_op (mo_mod) (me_ix hu (me_var 0) me_int) (me_var 1)))
    (mss_cons (ms_asg (me_op (mo_fdiv) (me_ix hu (me_var 0) me_int) (me_var 1)) (mg_sub (me_var 0) me_int (ps_setD hu)))
    (mss_one (ms_ret (me_var 2))))) mss_nil)
    (mss_cons (ms_set (i := 3) hN rfl (by first | exact Or.inl rfl | exact Or.inr rfl) (me_ix hu (me_ix hu (me_var 0) me_int) (me_op (mo_mod) (me_ix hu (me_var 0) me_int) (me_callB mc_len Z.len bt_len (ma_cons (me_ix hu (me_var 0) me_int) ma_nil)))))
    (mss_cons (ms_asg (me_op (mo_add) (me_ix hu (me_var 0) me_int) me_int) (mg_sub (me_var 0) me_int (ps_setD hu)))
    (mss_cons (ms_if (mt_cmp (mo_ge) (me_var 3) (me_op (mo_pow) me_int me_int) (nomark _)) (mss_cons (ms_asg (me_op (mo_fdiv) (me_var 3) (me_var 1)) (mg_sub (me_var 0) me_int (ps_setD hu)))
    (mss_one (ms_ret (me_op (mo_mod) (me_var 3) (me_var 1))))) mss_nil)
    (mss_cons (ms_set (i := 4) hN rfl (by first | exact Or.inl rfl | exact Or.inr rfl) (me_op (mo_add) (me_op (mo_add) (me_op (mo_mul) (me_op (mo_mul) me_int (me_ix hu (me_var 0) me_int)) (me_ix hu (me_var 0) me_int)) (me_op (mo_mul) me_int (me_ix hu (me_var 0) me_int))) me_int))
    (mss_cons (ms_set (i := 5) hN rfl (by first | exact Or.inl rfl | exact Or.inr rfl) (me_op (mo_mod) (me_op (mo_mul) (me_op (mo_add) (me_op (mo_mod) (me_var 3) me_int) me_int) (me_var 4)) me_int))
    (mss_cons (ms_set (i := 5) hN rfl (by first | exact Or.inl rfl | exact Or.inr rfl) (me_op (mo_add) (me_op (mo_mul) (me_var 5) (me_op (mo_add) (me_op (mo_mod) (me_var 5) me_int) me_int)) (me_ix hu (me_var 0) me_int)))
    (mss_one (ms_ret (me_op (mo_mod) (me_op (mo_fdiv) (me_op (mo_mod) (me_var 5) me_int) me_int) (me_var 1))))))))))))

theorem sc__law_rule : FnScope N__law_rule ["_law_feed_here", "_law_mine"] (defScope (top 68)) := ⟨rfl, rfl, rfl, by decide +kernel, rfl, by decide +kernel, by decide +kernel⟩
theorem cal__law_rule {P : Program} {w : World} {K : PySem.W.Frag} {mg : Str → Option Value} {base : Heap} {k : Nat} {G : DRs} {g__law_draw : DRs} (Z : Fz mg) (F : Df K mg "_law_rule" (top 68)) (c__law_draw : Cal P w K mg base k "_law_draw" g__law_draw)
    (len : ∀ ds μ Q, G ds μ Q → ds.length = 2) (hG : ∀ ds μ Q, G ds μ Q → Body (t__law_rule g__law_draw) 8 ds μ Q) : Cal P w K mg base (k + 1) "_law_rule" G := by
  refine cal_own F sc__law_rule (fun _ _ _ _ _ _ us hl => match us, hl with | [_, _], _ => rfl) (fun f cdv A outer s H E hr => ?_) len hG
  have hu := hu_of hr
  have hu64 := hr.units
  have hc : (cxOf CX0 P w K mg base N__law_rule "_law_rule" (defScope (top 68)) f cdv A outer s H E).nox.calm = true := rfl
  have hN := (sc__law_rule).nd
  exact (mss_cons (ms_set (i := 2) hN rfl (by first | exact Or.inl rfl | exact Or.inr rfl) (me_new (ml_lst ma_nil)))
    (mss_cons (ms_for PassesOwn.never hc (mi_range1 Z.range (ma_cons me_int ma_nil)) (mg_name (i := 3) (by exact hN) (by rfl) (by first | exact Or.inl rfl | exact Or.inr rfl)) (mss_one (ms_for PassesOwn.never hc (mi_new (ml_lst (ma_cons me_str (ma_cons me_str (ma_cons me_str ma_nil))))) (mg_name (i := 4) (by exact hN) (by rfl) (by first | exact Or.inl rfl | exact Or.inr rfl)) (mss_one (ms_if (mt_cmp (mo_gt) (me_call c__law_draw hr (ma_cons (me_var 0) (ma_cons me_int ma_nil))) me_int (nomark _)) (mss_cons (ms_set (i := 5) hN rfl (by first | exact Or.inl rfl | exact Or.inr rfl) (me_new (ml_lst ma_nil)))
    (mss_cons (ms_for PassesOwn.never hc (mi_range1 Z.range (ma_cons (me_op (mo_mul) (me_ixL (ml_lst (ma_cons me_int (ma_cons me_int (ma_cons me_int (ma_cons me_int ma_nil))))) (me_call c__law_draw hr (ma_cons (me_var 0) (ma_cons me_int ma_nil)))) (me_callTy mc_int Z.int bt_int (ma_cons (me_cmp (mo_ne hu64) (me_var 1) (me_new (ml_lst ma_nil)) (nomark _)) ma_nil))) ma_nil)) (mg_name (i := 6) (by exact hN) (by rfl) (by first | exact Or.inl rfl | exact Or.inr rfl)) (mss_one (ms_expr (me_append (me_var 5) (me_tup (ma_cons (me_ix hu (me_var 1) (me_call c__law_draw hr (ma_cons (me_var 0) (ma_cons (me_callB mc_len Z.len bt_len (ma_cons (me_var 1) ma_nil)) ma_nil)))) (ma_cons (me_ix hu me_str (me_call c__law_draw hr (ma_cons (me_var 0) (ma_cons me_int ma_nil)))) ma_nil)))))))
    (mss_cons (ms_set (i := 7) hN rfl (by first | exact Or.inl rfl | exact Or.inr rfl) (me_ixL (ml_lst (ma_cons me_non (ma_cons me_non (ma_cons me_str (ma_cons me_str ma_nil))))) (me_call c__law_draw hr (ma_cons (me_var 0) (ma_cons me_int ma_nil)))))
    (mss_one (ms_expr (me_append (me_var 2) (me_tup (ma_cons (me_var 3) (ma_cons (me_var 4) (ma_cons (me_call c__law_draw hr (ma_cons (me_var 0) (ma_cons me_int ma_nil))) (ma_cons (me_callTy mc_tup Z.tuple bt_tuple (ma_cons (me_var 5) ma_nil)) (ma_cons (me_var 7) ma_nil)))))))))))) mss_nil)))))
    (mss_one (ms_ret (me_tup (ma_cons (me_call c__law_draw hr (ma_cons (me_var 0) (ma_cons me_int ma_nil))) (ma_cons (me_callTy mc_tup Z.tuple bt_tuple (ma_cons (me_var 2) ma_nil)) ma_nil)))))))

theorem sc__law_form : FnScope N__law_form ["_law_feed_here"] (defScope (top 69)) := ⟨rfl, rfl, rfl, by decide +kernel, rfl, by decide +kernel, by decide +kernel⟩
theorem cal__law_form {P : Program} {w : World} {K : PySem.W.Frag} {mg : Str → Option Value} {base : Heap} {k : Nat} {G : DRs} {g__law_draw g__law_rule : DRs} (Z : Fz mg) (F : Df K mg "_law_form" (top 69)) (c__law_draw : Cal P w K mg base k "_law_draw" g__law_draw) (c__law_rule : Cal P w K mg base k "_law_rule" g__law_rule)
    (len : ∀ ds μ Q, G ds μ Q → ds.length = 1) (hG : ∀ ds μ Q, G ds μ Q → Body (t__law_form g__law_draw g__law_rule) 9 ds μ Q) : Cal P w K mg base (k + 1) "_law_form" G := by
  refine cal_own F sc__law_form (fun _ _ _ _ _ _ us hl => match us, hl with | [_], _ => rfl) (fun f cdv A outer s H E hr => ?_) len hG
  have hu := hu_of hr
  have hu64 := hr.units
  have hc : (cxOf CX0 P w K mg base N__law_form "_law_form" (defScope (top 69)) f cdv A outer s H E).nox.calm = true := rfl
  have hN := (sc__law_form).nd
  exact (mss_cons (ms_set (i := 1) hN rfl (by first | exact Or.inl rfl | exact Or.inr rfl) (me_ixL (ml_lst (ma_cons me_int (ma_cons me_int (ma_cons me_int (ma_cons me_int (ma_cons me_int ma_nil)))))) (me_call c__law_draw hr (ma_cons (me_var 0) (ma_cons me_int ma_nil)))))
    (mss_cons (ms_set (i := 2) hN rfl (by first | exact Or.inl rfl | exact Or.inr rfl) (me_new (ml_lst ma_nil)))
    (mss_cons (ms_for PassesOwn.never hc (mi_range1 Z.range (ma_cons (me_op (mo_mul) (me_ixL (ml_lst (ma_cons me_int (ma_cons me_int (ma_cons me_int (ma_cons me_int (ma_cons me_int ma_nil)))))) (me_call c__law_draw hr (ma_cons (me_var 0) (ma_cons me_int ma_nil)))) (me_callTy mc_int Z.int bt_int (ma_cons (me_cmp (mo_gt) (me_var 1) me_int (nomark _)) ma_nil))) ma_nil)) (mg_name (i := 3) (by exact hN) (by rfl) (by first | exact Or.inl rfl | exact Or.inr rfl)) (mss_cons (ms_set (i := 4) hN rfl (by first | exact Or.inl rfl | exact Or.inr rfl) (me_call c__law_draw hr (ma_cons (me_var 0) (ma_cons (me_var 1) ma_nil))))
    (mss_cons (ms_set (i := 5) hN rfl (by first | exact Or.inl rfl | exact Or.inr rfl) (me_op (mo_mod) (me_op (mo_add) (me_op (mo_add) (me_var 4) me_int) (me_call c__law_draw hr (ma_cons (me_var 0) (ma_cons (me_op (mo_sub) (me_var 1) me_int) ma_nil)))) (me_var 1)))
    (mss_one (ms_expr (me_append (me_var 2) (me_tup (ma_cons (me_var 4) (ma_cons (me_var 5) (ma_cons (me_ixL (ml_lst (ma_cons me_str (ma_cons me_str ma_nil))) (me_call c__law_draw hr (ma_cons (me_var 0) (ma_cons me_int ma_nil)))) ma_nil))))))))))
    (mss_cons (ms_set (i := 6) hN rfl (by first | exact Or.inl rfl | exact Or.inr rfl) (me_new (ml_lst ma_nil)))
    (mss_cons (ms_for PassesOwn.never hc (mi_range1 Z.range (ma_cons (me_var 1) ma_nil)) (mg_name (i := 7) (by exact hN) (by rfl) (by first | exact Or.inl rfl | exact Or.inr rfl)) (mss_one (ms_expr (me_append (me_var 6) (me_call c__law_rule hr (ma_cons (me_var 0) (ma_cons (me_new (ml_lc (by exact hc) (by exact hN) (mi_range1 Z.range (ma_cons (me_callB mc_len Z.len bt_len (ma_cons (me_var 2) ma_nil)) ma_nil)) (blkOk_by (own := [("_law_road", 8)]) (by rfl)) (fun _ _ _ _ _ => (mg_name (i := 8) (by exact hN) (by rfl) (by first | exact Or.inl rfl | exact Or.inr rfl))) (fun _ _ _ _ _ => (mts_one (mt_cmp (mo_eq hu64) (me_ix hu (me_ix hu (me_var 2) (me_var 8)) me_int) (me_var 7) (nomark _)))) (fun _ _ _ _ _ => (me_var 8)))) ma_nil)))))))
    (mss_one (ms_ret (me_tup (ma_cons (me_callTy mc_tup Z.tuple bt_tuple (ma_cons (me_var 6) ma_nil)) (ma_cons (me_callTy mc_tup Z.tuple bt_tuple (ma_cons (me_var 2) ma_nil)) ma_nil))))))))))

theorem sc__law_base : FnScope N__law_base ["_law_feed_here", "_law_form_here"] (defScope (top 70)) := ⟨rfl, rfl, rfl, by decide +kernel, rfl, by decide +kernel, by decide +kernel⟩
theorem cal__law_base {P : Program} {w : World} {K : PySem.W.Frag} {mg : Str → Option Value} {base : Heap} {k : Nat} {G : DRs} {g__law_draw : DRs} (Z : Fz mg) (F : Df K mg "_law_base" (top 70)) (c__law_draw : Cal P w K mg base k "_law_draw" g__law_draw)
    (len : ∀ ds μ Q, G ds μ Q → ds.length = 2) (hG : ∀ ds μ Q, G ds μ Q → Body (t__law_base g__law_draw) 8 ds μ Q) : Cal P w K mg base (k + 1) "_law_base" G := by
  refine cal_own F sc__law_base (fun _ _ _ _ _ _ us hl => match us, hl with | [_, _], _ => rfl) (fun f cdv A outer s H E hr => ?_) len hG
  have hu := hu_of hr
  have hu64 := hr.units
  have hc : (cxOf CX0 P w K mg base N__law_base "_law_base" (defScope (top 70)) f cdv A outer s H E).nox.calm = true := rfl
  have hN := (sc__law_base).nd
  exact (mss_cons (ms_set (i := 2) hN rfl (by first | exact Or.inl rfl | exact Or.inr rfl) (me_new (ml_lst ma_nil)))
    (mss_cons (ms_for PassesOwn.never hc (mi_seq (me_ix hu (me_var 1) me_int)) (mg_name (i := 3) (by exact hN) (by rfl) (by first | exact Or.inl rfl | exact Or.inr rfl)) (mss_cons (ms_set (i := 4) hN rfl (by first | exact Or.inl rfl | exact Or.inr rfl) (me_ixL (ml_lst (ma_cons me_int (ma_cons me_int (ma_cons me_int (ma_cons me_int (ma_cons (me_op (mo_pow) me_int me_int) ma_nil)))))) (me_call c__law_draw hr (ma_cons (me_var 0) (ma_cons me_int ma_nil)))))
    (mss_cons (ms_set (i := 5) hN rfl (by first | exact Or.inl rfl | exact Or.inr rfl) (me_new (ml_listRg hc Z.list Z.range (me_op (mo_sub) (me_var 4) (me_call c__law_draw hr (ma_cons (me_var 0) (ma_cons (me_op (mo_add) (me_callB (mc_min2 hc) Z.min bt_min (ma_cons (me_var 4) (ma_cons me_int ma_nil))) me_int) ma_nil)))) (me_var 4))))
    (mss_cons (ms_if (mt_cmp (mo_eq hu64) (me_ix hu (me_var 3) me_int) me_str (nomark _)) (mss_one (ms_setLc (j := 5) hc hN rfl rfl (sw_true rfl rfl rfl rfl) (mi_seq (me_var 5)) (blkOk_by (own := [("_law_k", 6)]) (by rfl)) (fun _ _ _ _ _ => (mg_name (i := 6) (by exact hN) (by rfl) (by first | exact Or.inl rfl | exact Or.inr rfl))) (fun _ _ _ _ _ => (mts_one (mt_cmp (mo_eq hu64) (me_call c__law_draw hr (ma_cons (me_var 0) (ma_cons me_int ma_nil))) me_int (nomark _)))) (fun _ _ _ _ _ => (me_var 6)))) mss_nil)
    (mss_one (ms_expr (me_append (me_var 2) (me_tup (ma_cons (me_var 4) (ma_cons (me_tupL Z.tuple (ml_lc (by exact hc) (by exact hN) (mi_seq (me_var 5)) (blkOk_by (own := [("_law_k", 6)]) (by rfl)) (fun _ _ _ _ _ => (mg_name (i := 6) (by exact hN) (by rfl) (by first | exact Or.inl rfl | exact Or.inr rfl))) (fun _ _ _ _ _ => mts_nil) (fun _ _ _ _ _ => (me_tup (ma_cons (me_var 6) (ma_cons (me_ix hu me_str (me_call c__law_draw hr (ma_cons (me_var 0) (ma_cons me_int ma_nil)))) ma_nil)))))) ma_nil))))))))))
    (mss_one (ms_ret (me_tup (ma_cons (me_tupL Z.tuple (ml_lc (by exact hc) (by exact hN) (mi_seq (me_ix hu (me_var 1) me_int)) (blkOk_by (own := [("_law_rule_here", 7)]) (by rfl)) (fun _ _ _ _ _ => (mg_name (i := 7) (by exact hN) (by rfl) (by first | exact Or.inl rfl | exact Or.inr rfl))) (fun _ _ _ _ _ => mts_nil) (fun _ _ _ _ _ => (me_call c__law_draw hr (ma_cons (me_var 0) (ma_cons me_int ma_nil)))))) (ma_cons (me_callTy mc_tup Z.tuple bt_tuple (ma_cons (me_var 2) ma_nil)) ma_nil)))))))

theorem sc__law_begun : FnScope N__law_begun ["_law_form_here", "_law_base_here"] (defScope (top 71)) := ⟨rfl, rfl, rfl, by decide +kernel, rfl, by decide +kernel, by decide +kernel⟩
theorem cal__law_begun {P : Program} {w : World} {K : PySem.W.Frag} {mg : Str → Option Value} {base : Heap} {k : Nat} {G : DRs} (Z : Fz mg) (F : Df K mg "_law_begun" (top 71))
    (len : ∀ ds μ Q, G ds μ Q → ds.length = 2) (hG : ∀ ds μ Q, G ds μ Q → Body (t__law_begun) 7 ds μ Q) : Cal P w K mg base (k + 1) "_law_begun" G := by
  refine cal_own F sc__law_begun (fun _ _ _ _ _ _ us hl => match us, hl with | [_, _], _ => rfl) (fun f cdv A outer s H E hr => ?_) len hG
  have hu := hu_of hr
  have hu64 := hr.units
  have hc : (cxOf CX0 P w K mg base N__law_begun "_law_begun" (defScope (top 71)) f cdv A outer s H E).nox.calm = true := rfl
  have hN := (sc__law_begun).nd
  exact (mss_cons (ms_set (i := 2) hN rfl (by first | exact Or.inl rfl | exact Or.inr rfl) (me_disp (mps_cons me_str (me_var 0) (mps_cons me_str (me_var 1) (mps_cons me_str (me_new (ml_lst ma_nil)) (mps_cons me_str (me_new (ml_lc (by exact hc) (by exact hN) (mi_seq (me_ix hu (me_var 0) me_int)) (blkOk_by (own := [("_law_rule_here", 3)]) (by rfl)) (fun _ _ _ _ _ => (mg_name (i := 3) (by exact hN) (by rfl) (by first | exact Or.inl rfl | exact Or.inr rfl))) (fun _ _ _ _ _ => mts_nil) (fun _ _ _ _ _ => me_int))) (mps_cons me_str me_newT mps_nil)))))))
    (mss_cons (ms_asg (me_new (ml_list Z.list (me_ix hu (me_var 1) me_int))) (mg_sub (me_var 2) me_str (ps_setD hu)))
    (mss_cons (ms_asg (me_new (ml_lc (by exact hc) (by exact hN) (mi_seq (me_ix hu (me_var 1) me_int)) (blkOk_by (own := [("_law_road", 4)]) (by rfl)) (fun _ _ _ _ _ => (mg_name (i := 4) (by exact hN) (by rfl) (by first | exact Or.inl rfl | exact Or.inr rfl))) (fun _ _ _ _ _ => mts_nil) (fun _ _ _ _ _ => (me_ix hu (me_var 4) me_int)))) (mg_sub (me_var 2) me_str (ps_setD hu)))
    (mss_cons (ms_asg (me_new (ml_lc (by exact hc) (by exact hN) (mi_seq (me_ix hu (me_var 1) me_int)) (blkOk_by (own := [("_law_road", 4)]) (by rfl)) (fun _ _ _ _ _ => (mg_name (i := 4) (by exact hN) (by rfl) (by first | exact Or.inl rfl | exact Or.inr rfl))) (fun _ _ _ _ _ => mts_nil) (fun _ _ _ _ _ => (me_new (ml_list Z.list (me_ix hu (me_var 4) me_int)))))) (mg_sub (me_var 2) me_str (ps_setD hu)))
    (mss_cons (ms_for PassesOwn.never hc (mi_range1 Z.range (ma_cons (me_callB mc_len Z.len bt_len (ma_cons (me_ix hu (me_var 0) me_int) ma_nil)) ma_nil)) (mg_name (i := 4) (by exact hN) (by rfl) (by first | exact Or.inl rfl | exact Or.inr rfl)) (mss_one (ms_for PassesOwn.never hc (mi_seq (me_ix hu (me_ix hu (me_ix hu (me_var 1) me_int) (me_var 4)) me_int)) (mg_tup (by exact hc) (mgs_cons (mg_name (i := 5) (by exact hN) (by rfl) (by first | exact Or.inl rfl | exact Or.inr rfl)) (mgs_cons (mg_name (i := 6) (by exact hN) (by rfl) (by first | exact Or.inl rfl | exact Or.inr rfl)) mgs_nil))) (mss_one (ms_asg (me_new (ml_lst (ma_cons (me_ix hu (me_ix hu (me_ix hu (me_var 0) me_int) (me_var 4)) me_int) (ma_cons me_non (ma_cons (me_ix hu (me_ix hu (me_ix hu (me_var 0) me_int) (me_var 4)) me_int) (ma_cons me_non ma_nil)))))) (mg_sub (me_ix hu (me_var 2) me_str) (me_tup (ma_cons (me_var 4) (ma_cons (me_var 5) ma_nil))) (ps_setD hu)))))))
    (mss_one (ms_ret (me_var 2))))))))

theorem sc__law_move : FnScope N__law_move ["_law_world", "_law_m", "_law_cause"] (defScope (top 72)) := ⟨rfl, rfl, rfl, by decide +kernel, rfl, by decide +kernel, by decide +kernel⟩
theorem cal__law_move {P : Program} {w : World} {K : PySem.W.Frag} {mg : Str → Option Value} {base : Heap} {k : Nat} {G : DRs} (Z : Fz mg) (F : Df K mg "_law_move" (top 72))
    (len : ∀ ds μ Q, G ds μ Q → ds.length = 3) (hG : ∀ ds μ Q, G ds μ Q → Body (t__law_move) 8 ds μ Q) : Cal P w K mg base (k + 1) "_law_move" G := by
  refine cal_own F sc__law_move (fun _ _ _ _ _ _ us hl => match us, hl with | [_, _, _], _ => rfl) (fun f cdv A outer s H E hr => ?_) len hG
  have hu := hu_of hr
  have hu64 := hr.units
  have hc : (cxOf CX0 P w K mg base N__law_move "_law_move" (defScope (top 72)) f cdv A outer s H E).nox.calm = true := rfl
  have hN := (sc__law_move).nd
  exact (mss_cons (ms_for PassesOwn.never hc (mi_seq (me_ix hu (me_ix hu (me_ix hu (me_ix hu (me_var 0) me_str) me_int) (me_var 1)) me_int)) (mg_tup (by exact hc) (mgs_cons (mg_name (i := 3) (by exact hN) (by rfl) (by first | exact Or.inl rfl | exact Or.inr rfl)) (mgs_cons (mg_name (i := 4) (by exact hN) (by rfl) (by first | exact Or.inl rfl | exact Or.inr rfl)) (mgs_cons (mg_name (i := 5) (by exact hN) (by rfl) (by first | exact Or.inl rfl | exact Or.inr rfl)) (mgs_cons (mg_name (i := 6) (by exact hN) (by rfl) (by first | exact Or.inl rfl | exact Or.inr rfl)) (mgs_cons (mg_name (i := 7) (by exact hN) (by rfl) (by first | exact Or.inl rfl | exact Or.inr rfl)) mgs_nil)))))) (mss_one (ms_if (mt_w (mw_and (mt_cmp (mo_eq hu64) (me_var 3) (me_ix hu (me_ix hu (me_var 0) me_str) (me_var 1)) (nomark _)) (mw_and1 (mt_cmp (mo_eq hu64) (me_var 4) (me_var 2) (nomark _))))) (mss_one (ms_ret (me_tup (ma_cons (me_var 5) (ma_cons (me_var 6) (ma_cons (me_var 7) ma_nil)))))) mss_nil)))
    (mss_one (ms_ret me_non)))

theorem sc__law_do : FnScope N__law_do ["_law_world", "_law_deed_here"] (defScope (top 73)) := ⟨rfl, rfl, rfl, by decide +kernel, rfl, by decide +kernel, by decide +kernel⟩
theorem cal__law_do {P : Program} {w : World} {K : PySem.W.Frag} {mg : Str → Option Value} {base : Heap} {k : Nat} {G : DRs} {g__law_move : DRs} (Z : Fz mg) (F : Df K mg "_law_do" (top 73)) (c__law_move : Cal P w K mg base k "_law_move" g__law_move)
    (len : ∀ ds μ Q, G ds μ Q → ds.length = 2) (hG : ∀ ds μ Q, G ds μ Q → Body (t__law_do g__law_move) 8 ds μ Q) : Cal P w K mg base (k + 1) "_law_do" G := by
  refine cal_own F sc__law_do (fun _ _ _ _ _ _ us hl => match us, hl with | [_, _], _ => rfl) (fun f cdv A outer s H E hr => ?_) len hG
  have hu := hu_of hr
  have hu64 := hr.units
  have hc : (cxOf CX0 P w K mg base N__law_do "_law_do" (defScope (top 73)) f cdv A outer s H E).nox.calm = true := rfl
  have hN := (sc__law_do).nd
  exact (mss_cons (ms_set (i := 2) hN rfl (by first | exact Or.inl rfl | exact Or.inr rfl) (me_ix hu (me_var 1) me_int))
    (mss_cons (ms_set (i := 3) hN rfl (by first | exact Or.inl rfl | exact Or.inr rfl) (me_ix hu (me_var 1) me_int))
    (mss_cons (ms_if (mt_cmp (mo_eq hu64) (me_ix hu (me_var 1) me_int) me_str (nomark _)) (mss_one (ms_set (i := 3) hN rfl (by first | exact Or.inl rfl | exact Or.inr rfl) (me_ix hu (me_var 1) me_int))) mss_nil)
    (mss_cons (ms_if (mt_cmp (mo_eq hu64) (me_ix hu (me_var 1) me_int) me_str (nomark _)) (mss_cons (ms_set (i := 2) hN rfl (by first | exact Or.inl rfl | exact Or.inr rfl) (me_ix hu (me_ix hu (me_ix hu (me_ix hu (me_var 0) me_str) me_int) (me_ix hu (me_var 1) me_int)) me_int))
    (mss_cons (ms_set (i := 3) hN rfl (by first | exact Or.inl rfl | exact Or.inr rfl) (me_ix hu (me_callTy (mc_dict hc) Z.dict bt_dict (ma_cons (me_ix hu (me_ix hu (me_var 0) me_str) (me_ix hu (me_var 1) me_int)) ma_nil)) (me_ix hu (me_var 1) me_int)))
    (mss_cons (ms_expr (me_remove hu64 (me_ix hu (me_ix hu (me_var 0) me_str) (me_ix hu (me_var 1) me_int)) (me_tup (ma_cons (me_ix hu (me_var 1) me_int) (ma_cons (me_var 3) ma_nil)))))
    (mss_one (ms_asg (me_ix hu (me_ix hu (me_var 0) me_str) (me_var 2)) (mg_sub (me_ix hu (me_ix hu (me_var 0) me_str) (me_sl (me_var 1) (mo_some me_int) mo_none)) me_int (ps_setD hu))))))) mss_nil)
    (mss_cons (ms_set (i := 4) hN rfl (by first | exact Or.inl rfl | exact Or.inr rfl) (me_call c__law_move hr (ma_cons (me_var 0) (ma_cons (me_var 2) (ma_cons (me_var 3) ma_nil)))))
    (mss_cons (ms_if (mt_cmp (mo_isnot) (me_var 4) me_non (nomark _)) (mss_cons (ms_asg (me_ix hu (me_var 4) me_int) (mg_sub (me_ix hu (me_var 0) me_str) (me_var 2) (ps_setD hu)))
    (mss_one (ms_for PassesOwn.never hc (mi_seq (me_ix hu (me_var 4) me_int)) (mg_tup (by exact hc) (mgs_cons (mg_name (i := 5) (by exact hN) (by rfl) (by first | exact Or.inl rfl | exact Or.inr rfl)) (mgs_cons (mg_name (i := 6) (by exact hN) (by rfl) (by first | exact Or.inl rfl | exact Or.inr rfl)) mgs_nil))) (mss_cons (ms_set (i := 7) hN rfl (by first | exact Or.inl rfl | exact Or.inr rfl) (me_ix hu (me_ix hu (me_var 0) me_str) (me_var 5)))
    (mss_cons (ms_asg (me_op (mo_add) (me_var 7) me_int) (mg_sub (me_ix hu (me_var 0) me_str) (me_var 5) (ps_setD hu)))
    (mss_cons (ms_expr (me_append (me_ix hu (me_ix hu (me_var 0) me_str) (me_var 5)) (me_tup (ma_cons (me_var 7) (ma_cons (me_var 6) ma_nil)))))
    (mss_one (ms_asg (me_new (ml_lst (ma_cons (me_var 2) (ma_cons (me_ix hu (me_ix hu (me_var 0) me_str) (me_var 2)) (ma_cons (me_ix hu (me_ix hu (me_ix hu (me_ix hu (me_var 0) me_str) me_int) (me_var 5)) me_int) (ma_cons me_non ma_nil)))))) (mg_sub (me_ix hu (me_var 0) me_str) (me_tup (ma_cons (me_var 5) (ma_cons (me_var 7) ma_nil))) (ps_setD hu)))))))))) mss_nil)
    (mss_cons (ms_asg (me_op (mo_add) (me_ix hu (me_ix hu (me_var 0) me_str) (me_var 2)) me_int) (mg_sub (me_ix hu (me_var 0) me_str) (me_var 2) (ps_setD hu)))
    (mss_one (ms_expr (me_append (me_ix hu (me_var 0) me_str) (me_var 1)))))))))))

theorem sc__law_deed : FnScope N__law_deed ["_law_feed_here", "_law_world"] (defScope (top 74)) := ⟨rfl, rfl, rfl, by decide +kernel, rfl, by decide +kernel, by decide +kernel⟩
theorem cal__law_deed {P : Program} {w : World} {K : PySem.W.Frag} {mg : Str → Option Value} {base : Heap} {k : Nat} {G : DRs} {g__law_draw g__law_move : DRs} (Z : Fz mg) (F : Df K mg "_law_deed" (top 74)) (c__law_draw : Cal P w K mg base k "_law_draw" g__law_draw) (c__law_move : Cal P w K mg base k "_law_move" g__law_move)
    (len : ∀ ds μ Q, G ds μ Q → ds.length = 2) (hG : ∀ ds μ Q, G ds μ Q → Body (t__law_deed g__law_draw g__law_move) 6 ds μ Q) : Cal P w K mg base (k + 1) "_law_deed" G := by
  refine cal_own F sc__law_deed (fun _ _ _ _ _ _ us hl => match us, hl with | [_, _], _ => rfl) (fun f cdv A outer s H E hr => ?_) len hG
  have hu := hu_of hr
  have hu64 := hr.units
  have hc : (cxOf CX0 P w K mg base N__law_deed "_law_deed" (defScope (top 74)) f cdv A outer s H E).nox.calm = true := rfl
  have hN := (sc__law_deed).nd
  exact (mss_cons (ms_setLc (j := 2) hc hN rfl rfl (sw_true rfl rfl rfl rfl) (mi_range1 Z.range (ma_cons (me_callB mc_len Z.len bt_len (ma_cons (me_ix hu (me_var 1) me_str) ma_nil)) ma_nil)) (blkOk_by (own := [("_law_road", 3)]) (by rfl)) (fun _ _ _ _ _ => (mg_name (i := 3) (by exact hN) (by rfl) (by first | exact Or.inl rfl | exact Or.inr rfl))) (fun _ _ _ _ _ => (mts_one (mt_cmp (mo_ne hu64) (me_ix hu (me_ix hu (me_var 1) me_str) (me_var 3)) (me_new (ml_lst ma_nil)) (nomark _)))) (fun _ _ _ _ _ => (me_var 3)))
    (mss_cons (ms_if (mt_w (mw_and (mt_cmp (mo_ne hu64) (me_var 2) (me_new (ml_lst ma_nil)) (nomark _)) (mw_and1 (mt_cmp (mo_gt) (me_call c__law_draw hr (ma_cons (me_var 0) (ma_cons me_int ma_nil))) me_int (nomark _))))) (mss_cons (ms_set (i := 3) hN rfl (by first | exact Or.inl rfl | exact Or.inr rfl) (me_ix hu (me_var 2) (me_call c__law_draw hr (ma_cons (me_var 0) (ma_cons (me_callB mc_len Z.len bt_len (ma_cons (me_var 2) ma_nil)) ma_nil)))))
    (mss_cons (ms_set (i := 4) hN rfl (by first | exact Or.inl rfl | exact Or.inr rfl) me_int)
    (mss_cons (ms_if (mt_cmp (mo_eq hu64) (me_ix hu (me_ix hu (me_ix hu (me_ix hu (me_var 1) me_str) me_int) (me_var 3)) me_int) me_str (nomark _)) (mss_one (ms_set (i := 4) hN rfl (by first | exact Or.inl rfl | exact Or.inr rfl) (me_call c__law_draw hr (ma_cons (me_var 0) (ma_cons (me_callB mc_len Z.len bt_len (ma_cons (me_ix hu (me_ix hu (me_var 1) me_str) (me_var 3)) ma_nil)) ma_nil))))) mss_nil)
    (mss_one (ms_ret (me_tup (ma_cons me_str (ma_cons (me_var 3) (ma_cons (me_ix hu (me_ix hu (me_ix hu (me_ix hu (me_var 1) me_str) (me_var 3)) (me_var 4)) me_int) ma_nil))))))))) mss_nil)
    (mss_cons (ms_set (i := 5) hN rfl (by first | exact Or.inl rfl | exact Or.inr rfl) (me_call c__law_draw hr (ma_cons (me_var 0) (ma_cons (me_callB mc_len Z.len bt_len (ma_cons (me_ix hu (me_var 1) me_str) ma_nil)) ma_nil))))
    (mss_cons (ms_if (mt_w (mw_and (mt_cmp (mo_isnot) (me_call c__law_move hr (ma_cons (me_var 1) (ma_cons (me_var 5) (ma_cons me_str ma_nil)))) me_non (nomark _)) (mw_and1 (mt_cmp (mo_gt) (me_call c__law_draw hr (ma_cons (me_var 0) (ma_cons me_int ma_nil))) me_int (nomark _))))) (mss_one (ms_ret (me_tup (ma_cons me_str (ma_cons (me_var 5) ma_nil))))) mss_nil)
    (mss_one (ms_ret (me_tup (ma_cons me_str (ma_cons (me_var 5) (ma_cons (me_ix hu me_str (me_call c__law_draw hr (ma_cons (me_var 0) (ma_cons me_int ma_nil)))) ma_nil))))))))))

theorem sc__law_run : FnScope N__law_run ["_law_feed_here", "_law_most"] (defScope (top 75)) := ⟨rfl, rfl, rfl, by decide +kernel, rfl, by decide +kernel, by decide +kernel⟩
theorem cal__law_run {P : Program} {w : World} {K : PySem.W.Frag} {mg : Str → Option Value} {base : Heap} {k : Nat} {G : DRs} {g__law_form g__law_begun g__law_base g__law_draw g__law_do g__law_deed : DRs} (Z : Fz mg) (F : Df K mg "_law_run" (top 75)) (c__law_form : Cal P w K mg base k "_law_form" g__law_form) (c__law_begun : Cal P w K mg base k "_law_begun" g__law_begun) (c__law_base : Cal P w K mg base k "_law_base" g__law_base) (c__law_draw : Cal P w K mg base k "_law_draw" g__law_draw) (c__law_do : Cal P w K mg base k "_law_do" g__law_do) (c__law_deed : Cal P w K mg base k "_law_deed" g__law_deed)
    (len : ∀ ds μ Q, G ds μ Q → ds.length = 2) (hG : ∀ ds μ Q, G ds μ Q → Body (t__law_run g__law_form g__law_begun g__law_base g__law_draw g__law_do g__law_deed) 5 ds μ Q) : Cal P w K mg base (k + 1) "_law_run" G := by
  refine cal_own F sc__law_run (fun _ _ _ _ _ _ us hl => match us, hl with | [_, _], _ => rfl) (fun f cdv A outer s H E hr => ?_) len hG
  have hu := hu_of hr
  have hu64 := hr.units
  have hc : (cxOf CX0 P w K mg base N__law_run "_law_run" (defScope (top 75)) f cdv A outer s H E).nox.calm = true := rfl
  have hN := (sc__law_run).nd
  exact (mss_cons (ms_set (i := 2) hN rfl (by first | exact Or.inl rfl | exact Or.inr rfl) (me_call c__law_form hr (ma_cons (me_var 0) ma_nil)))
    (mss_cons (ms_set (i := 3) hN rfl (by first | exact Or.inl rfl | exact Or.inr rfl) (me_call c__law_begun hr (ma_cons (me_var 2) (ma_cons (me_call c__law_base hr (ma_cons (me_var 0) (ma_cons (me_var 2) ma_nil))) ma_nil))))
    (mss_cons (ms_for PassesOwn.never hc (mi_range1 Z.range (ma_cons (me_op (mo_add) (me_ixL (ml_lst (ma_cons (me_op (mo_fdiv) (me_var 1) me_int) (ma_cons (me_op (mo_fdiv) (me_var 1) me_int) (ma_cons (me_var 1) (ma_cons me_int ma_nil))))) (me_call c__law_draw hr (ma_cons (me_var 0) (ma_cons me_int ma_nil)))) (me_call c__law_draw hr (ma_cons (me_var 0) (ma_cons me_int ma_nil)))) ma_nil)) (mg_name (i := 4) (by exact hN) (by rfl) (by first | exact Or.inl rfl | exact Or.inr rfl)) (mss_one (ms_expr (me_call c__law_do hr (ma_cons (me_var 3) (ma_cons (me_call c__law_deed hr (ma_cons (me_var 0) (ma_cons (me_var 3) ma_nil))) ma_nil))))))
    (mss_one (ms_ret (me_var 3))))))

theorem sc__law_choices : FnScope N__law_choices ["_law_feed_here", "_law_world"] (defScope (top 76)) := ⟨rfl, rfl, rfl, by decide +kernel, rfl, by decide +kernel, by decide +kernel⟩
theorem cal__law_choices {P : Program} {w : World} {K : PySem.W.Frag} {mg : Str → Option Value} {base : Heap} {k : Nat} {G : DRs} {g__law_draw : DRs} (Z : Fz mg) (F : Df K mg "_law_choices" (top 76)) (c__law_draw : Cal P w K mg base k "_law_draw" g__law_draw)
    (len : ∀ ds μ Q, G ds μ Q → ds.length = 2) (hG : ∀ ds μ Q, G ds μ Q → Body (t__law_choices g__law_draw) 6 ds μ Q) : Cal P w K mg base (k + 1) "_law_choices" G := by
  refine cal_own F sc__law_choices (fun _ _ _ _ _ _ us hl => match us, hl with | [_, _], _ => rfl) (fun f cdv A outer s H E hr => ?_) len hG
  have hu := hu_of hr
  have hu64 := hr.units
  have hc : (cxOf CX0 P w K mg base N__law_choices "_law_choices" (defScope (top 76)) f cdv A outer s H E).nox.calm = true := rfl
  have hN := (sc__law_choices).nd
  exact (mss_cons (ms_set (i := 2) hN rfl (by first | exact Or.inl rfl | exact Or.inr rfl) (me_op (mo_add) me_int (me_call c__law_draw hr (ma_cons (me_var 0) (ma_cons me_int ma_nil)))))
    (mss_cons (ms_set (i := 3) hN rfl (by first | exact Or.inl rfl | exact Or.inr rfl) (me_new (ml_lst ma_nil)))
    (mss_cons (ms_for PassesOwn.never hc (mi_seq (me_ix hu (me_var 1) me_str)) (mg_name (i := 4) (by exact hN) (by rfl) (by first | exact Or.inl rfl | exact Or.inr rfl)) (mss_one (ms_expr (me_append (me_var 3) (me_op (mo_catF) (me_tupF (ma_cons me_int ma_nil)) (me_tupL Z.tuple (ml_lc (by exact hc) (by exact hN) (mi_range2 Z.range (ma_cons me_int (ma_cons (me_op (mo_add) (me_var 4) me_int) ma_nil))) (blkOk_by (own := [("_law_place", 5)]) (by rfl)) (fun _ _ _ _ _ => (mg_name (i := 5) (by exact hN) (by rfl) (by first | exact Or.inl rfl | exact Or.inr rfl))) (fun _ _ _ _ _ => (mts_one (mt_cmp (mo_eq hu64) (me_call c__law_draw hr (ma_cons (me_var 0) (ma_cons (me_var 2) ma_nil))) me_int (nomark _)))) (fun _ _ _ _ _ => (me_var 5)))))))))
    (mss_one (ms_ret (me_callTy mc_tup Z.tuple bt_tuple (ma_cons (me_var 3) ma_nil)))))))

theorem sc__law_wanted : FnScope N__law_wanted ["_law_feed_here", "_law_choices_here"] (defScope (top 77)) := ⟨rfl, rfl, rfl, by decide +kernel, rfl, by decide +kernel, by decide +kernel⟩
theorem cal__law_wanted {P : Program} {w : World} {K : PySem.W.Frag} {mg : Str → Option Value} {base : Heap} {k : Nat} {G : DRs} {g__law_draw : DRs} (Z : Fz mg) (F : Df K mg "_law_wanted" (top 77)) (c__law_draw : Cal P w K mg base k "_law_draw" g__law_draw)
    (len : ∀ ds μ Q, G ds μ Q → ds.length = 2) (hG : ∀ ds μ Q, G ds μ Q → Body (t__law_wanted g__law_draw) 4 ds μ Q) : Cal P w K mg base (k + 1) "_law_wanted" G := by
  refine cal_own F sc__law_wanted (fun _ _ _ _ _ _ us hl => match us, hl with | [_, _], _ => rfl) (fun f cdv A outer s H E hr => ?_) len hG
  have hu := hu_of hr
  have hu64 := hr.units
  have hc : (cxOf CX0 P w K mg base N__law_wanted "_law_wanted" (defScope (top 77)) f cdv A outer s H E).nox.calm = true := rfl
  have hN := (sc__law_wanted).nd
  exact (mss_cons (ms_set (i := 2) hN rfl (by first | exact Or.inl rfl | exact Or.inr rfl) me_newK)
    (mss_cons (ms_for PassesOwn.never hc (mi_range1 Z.range (ma_cons (me_callB mc_len Z.len bt_len (ma_cons (me_var 1) ma_nil)) ma_nil)) (mg_name (i := 3) (by exact hN) (by rfl) (by first | exact Or.inl rfl | exact Or.inr rfl)) (mss_one (ms_if (mt_cmp (mo_eq hu64) (me_call c__law_draw hr (ma_cons (me_var 0) (ma_cons me_int ma_nil))) me_int (nomark _)) (mss_one (ms_asg (me_ix hu (me_ix hu (me_var 1) (me_var 3)) (me_call c__law_draw hr (ma_cons (me_var 0) (ma_cons (me_callB mc_len Z.len bt_len (ma_cons (me_ix hu (me_var 1) (me_var 3)) ma_nil)) ma_nil)))) (mg_sub (me_var 2) (me_var 3) (ps_setD hu)))) mss_nil)))
    (mss_one (ms_ret (me_var 2)))))

theorem sc__law_machine : FnScope N__law_machine ["_law_world", "_law_deed_here"] (defScope (top 78)) := ⟨rfl, rfl, rfl, by decide +kernel, rfl, by decide +kernel, by decide +kernel⟩
theorem cal__law_machine {P : Program} {w : World} {K : PySem.W.Frag} {mg : Str → Option Value} {base : Heap} {k : Nat} {G : DRs} (Z : Fz mg) (F : Df K mg "_law_machine" (top 78))
    (len : ∀ ds μ Q, G ds μ Q → ds.length = 2) (hG : ∀ ds μ Q, G ds μ Q → Body (t__law_machine) 2 ds μ Q) : Cal P w K mg base (k + 1) "_law_machine" G := by
  refine cal_own F sc__law_machine (fun _ _ _ _ _ _ us hl => match us, hl with | [_, _], _ => rfl) (fun f cdv A outer s H E hr => ?_) len hG
  have hu := hu_of hr
  have hu64 := hr.units
  have hc : (cxOf CX0 P w K mg base N__law_machine "_law_machine" (defScope (top 78)) f cdv A outer s H E).nox.calm = true := rfl
  have hN := (sc__law_machine).nd
  exact (mss_cons (ms_if (mt_cmp (mo_eq hu64) (me_ix hu (me_var 1) me_int) me_str (nomark _)) (mss_one (ms_ret (me_ix hu (me_ix hu (me_ix hu (me_ix hu (me_var 0) me_str) me_int) (me_ix hu (me_var 1) me_int)) me_int))) mss_nil)
    (mss_one (ms_ret (me_ix hu (me_var 1) me_int))))

theorem sc__law_can : FnScope N__law_can ["_law_world", "_law_deed_here"] (defScope (top 79)) := ⟨rfl, rfl, rfl, by decide +kernel, rfl, by decide +kernel, by decide +kernel⟩
theorem cal__law_can {P : Program} {w : World} {K : PySem.W.Frag} {mg : Str → Option Value} {base : Heap} {k : Nat} {G : DRs} (Z : Fz mg) (F : Df K mg "_law_can" (top 79))
    (len : ∀ ds μ Q, G ds μ Q → ds.length = 2) (hG : ∀ ds μ Q, G ds μ Q → Body (t__law_can) 4 ds μ Q) : Cal P w K mg base (k + 1) "_law_can" G := by
  refine cal_own F sc__law_can (fun _ _ _ _ _ _ us hl => match us, hl with | [_, _], _ => rfl) (fun f cdv A outer s H E hr => ?_) len hG
  have hu := hu_of hr
  have hu64 := hr.units
  have hc : (cxOf CX0 P w K mg base N__law_can "_law_can" (defScope (top 79)) f cdv A outer s H E).nox.calm = true := rfl
  have hN := (sc__law_can).nd
  exact (mss_cons (ms_if (mt_cmp (mo_ne hu64) (me_ix hu (me_var 1) me_int) me_str (nomark _)) (mss_one (ms_ret me_bl)) mss_nil)
    (mss_cons (ms_setLc (j := 2) hc hN rfl rfl (sw_true rfl rfl rfl rfl) (mi_seq (me_ix hu (me_ix hu (me_var 0) me_str) (me_ix hu (me_var 1) me_int))) (blkOk_by (own := [("_law_letter", 3)]) (by rfl)) (fun _ _ _ _ _ => (mg_name (i := 3) (by exact hN) (by rfl) (by first | exact Or.inl rfl | exact Or.inr rfl))) (fun _ _ _ _ _ => mts_nil) (fun _ _ _ _ _ => (me_ix hu (me_var 3) me_int)))
    (mss_cons (ms_if (mt_cmp (mo_eq hu64) (me_ix hu (me_ix hu (me_ix hu (me_ix hu (me_var 0) me_str) me_int) (me_ix hu (me_var 1) me_int)) me_int) me_str (nomark _)) (mss_one (ms_ret (me_cmp (mo_eq hu64) (me_new (ml_sl (me_var 2) mo_none (mo_some me_int))) (me_new (ml_lst (ma_cons (me_ix hu (me_var 1) me_int) ma_nil))) (nomark _)))) mss_nil)
    (mss_one (ms_ret (me_cmp (mo_in hu) (me_ix hu (me_var 1) me_int) (me_var 2) (by rfl)))))))

theorem sc__law_other_order : FnScope N__law_other_order ["_law_feed_here", "_law_world"] (defScope (top 80)) := ⟨rfl, rfl, rfl, by decide +kernel, rfl, by decide +kernel, by decide +kernel⟩
theorem cal__law_other_order {P : Program} {w : World} {K : PySem.W.Frag} {mg : Str → Option Value} {base : Heap} {k : Nat} {G : DRs} {g__law_machine g__law_begun g__law_can g__law_do g__law_draw : DRs} (Z : Fz mg) (F : Df K mg "_law_other_order" (top 80)) (c__law_machine : Cal P w K mg base k "_law_machine" g__law_machine) (c__law_begun : Cal P w K mg base k "_law_begun" g__law_begun) (c__law_can : Cal P w K mg base k "_law_can" g__law_can) (c__law_do : Cal P w K mg base k "_law_do" g__law_do) (c__law_draw : Cal P w K mg base k "_law_draw" g__law_draw)
    (len : ∀ ds μ Q, G ds μ Q → ds.length = 2) (hG : ∀ ds μ Q, G ds μ Q → Body (t__law_other_order g__law_machine g__law_begun g__law_can g__law_do g__law_draw) 8 ds μ Q) : Cal P w K mg base (k + 1) "_law_other_order" G := by
  refine cal_own F sc__law_other_order (fun _ _ _ _ _ _ us hl => match us, hl with | [_, _], _ => rfl) (fun f cdv A outer s H E hr => ?_) len hG
  have hu := hu_of hr
  have hu64 := hr.units
  have hc : (cxOf CX0 P w K mg base N__law_other_order "_law_other_order" (defScope (top 80)) f cdv A outer s H E).nox.calm = true := rfl
  have hN := (sc__law_other_order).nd
  exact (mss_cons (ms_set (i := 2) hN rfl (by first | exact Or.inl rfl | exact Or.inr rfl) (me_new (ml_lc (by exact hc) (by exact hN) (mi_range1 Z.range (ma_cons (me_callB mc_len Z.len bt_len (ma_cons (me_ix hu (me_var 1) me_str) ma_nil)) ma_nil)) (blkOk_by (own := [("_law_m", 3)]) (by rfl)) (fun _ _ _ _ _ => (mg_name (i := 3) (by exact hN) (by rfl) (by first | exact Or.inl rfl | exact Or.inr rfl))) (fun _ _ _ _ _ => mts_nil) (fun _ _ _ _ _ => (me_new (ml_lc (by exact hc) (by exact hN) (mi_seq (me_ix hu (me_var 1) me_str)) (blkOk_by (own := [("_law_deed_here", 4)]) (by rfl)) (fun _ _ _ _ _ => (mg_name (i := 4) (by exact hN) (by rfl) (by first | exact Or.inl rfl | exact Or.inr rfl))) (fun _ _ _ _ _ => (mts_one (mt_cmp (mo_eq hu64) (me_call c__law_machine hr (ma_cons (me_var 1) (ma_cons (me_var 4) ma_nil))) (me_var 3) (nomark _)))) (fun _ _ _ _ _ => (me_var 4))))))))
    (mss_cons (ms_set (i := 5) hN rfl (by first | exact Or.inl rfl | exact Or.inr rfl) (me_call c__law_begun hr (ma_cons (me_ix hu (me_var 1) me_str) (ma_cons (me_ix hu (me_var 1) me_str) ma_nil))))
    (mss_cons (ms_for PassesOwn.never hc (mi_range1 Z.range (ma_cons (me_callB mc_len Z.len bt_len (ma_cons (me_ix hu (me_var 1) me_str) ma_nil)) ma_nil)) (mg_name (i := 6) (by exact hN) (by rfl) (by first | exact Or.inl rfl | exact Or.inr rfl)) (mss_cons (ms_setLc (j := 7) hc hN rfl rfl (sw_true rfl rfl rfl rfl) (mi_range1 Z.range (ma_cons (me_callB mc_len Z.len bt_len (ma_cons (me_var 2) ma_nil)) ma_nil)) (blkOk_by (own := [("_law_m", 3)]) (by rfl)) (fun _ _ _ _ _ => (mg_name (i := 3) (by exact hN) (by rfl) (by first | exact Or.inl rfl | exact Or.inr rfl))) (fun _ _ _ _ _ => (mts_one (mt_w (mw_and (mt_cmp (mo_ne hu64) (me_ix hu (me_var 2) (me_var 3)) (me_new (ml_lst ma_nil)) (nomark _)) (mw_and1 (mt_val (me_call c__law_can hr (ma_cons (me_var 5) (ma_cons (me_ix hu (me_ix hu (me_var 2) (me_var 3)) me_int) ma_nil))))))))) (fun _ _ _ _ _ => (me_var 3)))
    (mss_one (ms_expr (me_call c__law_do hr (ma_cons (me_var 5) (ma_cons (me_pop (me_ix hu (me_var 2) (me_ix hu (me_var 7) (me_call c__law_draw hr (ma_cons (me_var 0) (ma_cons (me_callB mc_len Z.len bt_len (ma_cons (me_var 7) ma_nil)) ma_nil))))) me_int) ma_nil)))))))
    (mss_one (ms_ret (me_ix hu (me_var 5) me_str))))))

theorem sc_law : FnScope N_law ["_law_script"] (defScope (top 81)) := ⟨rfl, rfl, rfl, by decide +kernel, rfl, by decide +kernel, by decide +kernel⟩
theorem ms_law {P : Program} {w : World} {K : PySem.W.Frag} {mg : Str → Option Value} {base : Heap} {k : Nat} {g__law_feed g__law_run g__law_choices g__law_wanted g__law_other_order g_latest g_line_asked g_extended g_extended_asked g_numbers_of g_numbers_asked : DRs} (Z : Fz mg) {f : Addr} {cdv : Value} {A : Around} {outer : List Env} {s : Shared} {H : Hp} {E : XK} (hgd : A.guards = some []) (hr : Room k (A.deeper (envOfC "law" (defScope (top 81)) s.heap.objs.size f cdv))) (c__law_feed : Cal P w K mg base k "_law_feed" g__law_feed) (c__law_run : Cal P w K mg base k "_law_run" g__law_run) (c__law_choices : Cal P w K mg base k "_law_choices" g__law_choices) (c__law_wanted : Cal P w K mg base k "_law_wanted" g__law_wanted) (c__law_other_order : Cal P w K mg base k "_law_other_order" g__law_other_order) (c_latest : Cal P w K mg base k "latest" g_latest) (c_line_asked : Cal P w K mg base k "line_asked" g_line_asked) (c_extended : Cal P w K mg base k "extended" g_extended) (c_extended_asked : Cal P w K mg base k "extended_asked" g_extended_asked) (c_numbers_of : Cal P w K mg base k "numbers_of" g_numbers_of) (c_numbers_asked : Cal P w K mg base k "numbers_asked" g_numbers_asked) :
    MSs (cxOf CX0 P w K mg base N_law "law" (defScope (top 81)) f cdv A outer s H E).nox (defBody (top 81)) (t_law g__law_feed g__law_run g__law_choices g__law_wanted g__law_other_order g_latest g_line_asked g_extended g_extended_asked g_numbers_of g_numbers_asked) := by
  have hu := hu_of hr
  have hu64 := hr.units
  have hc : (cxOf CX0 P w K mg base N_law "law" (defScope (top 81)) f cdv A outer s H E).nox.calm = true := rfl
  have hN := (sc_law).nd
  exact (mss_cons (ms_set (i := 1) hN rfl (by first | exact Or.inl rfl | exact Or.inr rfl) (me_call c__law_feed hr (ma_cons (me_var 0) ma_nil)))
    (mss_cons (ms_set (i := 2) hN rfl (by first | exact Or.inl rfl | exact Or.inr rfl) (me_call c__law_run hr (ma_cons (me_var 1) (ma_cons me_int ma_nil))))
    (mss_cons (ms_set (i := 3) hN rfl (by first | exact Or.inl rfl | exact Or.inr rfl) (me_call c__law_choices hr (ma_cons (me_var 1) (ma_cons (me_var 2) ma_nil))))
    (mss_cons (ms_set (i := 4) hN rfl (by first | exact Or.inl rfl | exact Or.inr rfl) (me_call c__law_wanted hr (ma_cons (me_var 1) (ma_cons (me_var 3) ma_nil))))
    (mss_cons (ms_set (i := 5) hN rfl (by first | exact Or.inl rfl | exact Or.inr rfl) (me_ix hu (me_var 2) me_str))
    (mss_cons (ms_set (i := 6) hN rfl (by first | exact Or.inl rfl | exact Or.inr rfl) (me_ix hu (me_var 2) me_str))
    (mss_cons (ms_set (i := 7) hN rfl (by first | exact Or.inl rfl | exact Or.inr rfl) (me_new (ml_list Z.list (me_ix hu (me_var 2) me_str))))
    (mss_cons (ms_set (i := 8) hN rfl (by first | exact Or.inl rfl | exact Or.inr rfl) (me_call c__law_other_order hr (ma_cons (me_var 1) (ma_cons (me_var 2) ma_nil))))
    (mss_cons (ms_asg (me_call c_latest hr (ma_cons (me_var 5) (ma_cons (me_var 6) (ma_cons (me_var 7) (ma_cons (me_var 3) ma_nil))))) (mg_tup (by exact hc) (mgs_cons (mg_name (i := 9) (by exact hN) (by rfl) (by first | exact Or.inl rfl | exact Or.inr rfl)) (mgs_cons (mg_name (i := 10) (by exact hN) (by rfl) (by first | exact Or.inl rfl | exact Or.inr rfl)) mgs_nil))))
    (mss_cons (ms_if (mt_cmp (mo_ne hu64) (me_repr hu64 (show _ = _ from hgd) Z.repr (me_ix hu (me_call c_latest hr (ma_cons (me_var 5) (ma_cons (me_var 6) (ma_cons (me_var 8) (ma_cons (me_var 3) ma_nil))))) me_int)) (me_repr hu64 (show _ = _ from hgd) Z.repr (me_var 9)) (nomark _)) (mss_one (ms_ret me_bl)) mss_nil)
    (mss_cons (ms_if (mt_cmp (mo_isnot) (me_call c_line_asked hr (ma_cons (me_var 5) (ma_cons (me_var 6) (ma_cons (me_var 8) (ma_cons (me_var 3) (ma_cons (me_var 9) (ma_cons (me_var 10) ma_nil))))))) me_bl (nomark _)) (mss_one (ms_ret me_bl)) mss_nil)
    (mss_cons (ms_set (i := 11) hN rfl (by first | exact Or.inl rfl | exact Or.inr rfl) (me_call c_extended hr (ma_cons (me_var 5) (ma_cons (me_var 6) (ma_cons (me_var 7) (ma_cons (me_var 3) (ma_cons (me_var 4) ma_nil)))))))
    (mss_cons (ms_set (i := 12) hN rfl (by first | exact Or.inl rfl | exact Or.inr rfl) (me_call c_extended hr (ma_cons (me_var 5) (ma_cons (me_var 6) (ma_cons (me_var 8) (ma_cons (me_var 3) (ma_cons (me_var 4) ma_nil)))))))
    (mss_cons (ms_if (mt_w (mw_or (mt_cmp (mo_ne hu64) (me_ix hu (me_var 11) me_int) (me_ix hu (me_var 12) me_int) (nomark _)) (mw_or1 (mt_w (mw_and (mt_cmp (mo_eq hu64) (me_ix hu (me_var 11) me_int) me_str (nomark _)) (mw_and1 (mt_cmp (mo_ne hu64) (me_ix hu (me_var 11) me_int) (me_ix hu (me_var 12) me_int) (nomark _)))))))) (mss_one (ms_ret me_bl)) mss_nil)
    (mss_cons (ms_if (mt_cmp (mo_isnot) (me_call c_extended_asked hr (ma_cons (me_var 5) (ma_cons (me_var 6) (ma_cons (me_var 8) (ma_cons (me_var 3) (ma_cons (me_var 4) (ma_cons (me_var 11) ma_nil))))))) me_bl (nomark _)) (mss_one (ms_ret me_bl)) mss_nil)
    (mss_cons (ms_set (i := 11) hN rfl (by first | exact Or.inl rfl | exact Or.inr rfl) (me_call c_numbers_of hr (ma_cons (me_var 5) (ma_cons (me_var 6) (ma_cons (me_var 7) (ma_cons (me_var 3) ma_nil))))))
    (mss_cons (ms_set (i := 12) hN rfl (by first | exact Or.inl rfl | exact Or.inr rfl) (me_call c_numbers_of hr (ma_cons (me_var 5) (ma_cons (me_var 6) (ma_cons (me_var 8) (ma_cons (me_var 3) ma_nil))))))
    (mss_cons (ms_if (mt_cmp (mo_eq hu64) (me_ix hu (me_var 11) me_int) me_str (nomark _)) (mss_one (ms_ret (me_cmp (mo_eq hu64) (me_sl (me_var 11) mo_none (mo_some me_int)) (me_sl (me_var 12) mo_none (mo_some me_int)) (nomark _)))) mss_nil)
    (mss_one (ms_ret (me_and (me_cmp (mo_eq hu64) (me_var 11) (me_var 12) (nomark _)) (me_one (me_cmp (mo_is) (me_call c_numbers_asked hr (ma_cons (me_var 5) (ma_cons (me_var 6) (ma_cons (me_var 8) (ma_cons (me_var 3) (ma_cons (me_ix hu (me_var 11) me_int) ma_nil)))))) me_bl (nomark _))))))))))))))))))))))))

end Cs

/-! ## DS0 -/
namespace Dl
open PySem PySem.Spec PyProof.Rows L2
@[simp] theorem s_aVar (i : Nat) (ρ : DEnv) (μ : Mu) (Q : D → Mu → Prop) : aVar i  ρ μ Q = (∃ d, ρ[i]? = some (some d) ∧ Q d μ) := rfl
@[simp] theorem s_aC (d : D) (v0 : DEnv) (μ : Mu) (Q : D → Mu → Prop) : aC d  v0 μ Q = (Q d μ) := rfl
@[simp] theorem s_aOp (r : DR2) (ta tb : DE) (ρ : DEnv) (μ : Mu) (Q : D → Mu → Prop) : aOp r  ta tb  ρ μ Q = (ta ρ μ fun x μ1 => tb ρ μ1 fun y μ2 => r x y μ2 Q) := rfl
@[simp] theorem s_aTest (t : DE) (ρ : DEnv) (μ : Mu) (Q : Bool → Mu → Prop) : aTest t  ρ μ Q = (t ρ μ fun x μ1 => ∃ k, x = .bl k ∧ Q k μ1) := rfl
@[simp] theorem s_aChain (r r' : DR2) (ta tb tc : DE) (ρ : DEnv) (μ : Mu) (Q : D → Mu → Prop) : aChain r r'  ta tb tc  ρ μ Q = (ta ρ μ fun x μ1 => tb ρ μ1 fun y μ2 => r x y μ2 fun z μ3 => ∃ k, z = .bl k ∧ (if k = true then tc ρ μ3 fun w μ4 => r' y w μ4 Q else Q (.bl false) μ3)) := rfl
@[simp] theorem s_aAnd (t u : DT) (ρ : DEnv) (μ : Mu) (Q : Bool → Mu → Prop) : aAnd t u  ρ μ Q = (t ρ μ fun c μ1 => if c = true then u ρ μ1 Q else Q false μ1) := rfl
@[simp] theorem s_aOr (t u : DT) (ρ : DEnv) (μ : Mu) (Q : Bool → Mu → Prop) : aOr t u  ρ μ Q = (t ρ μ fun c μ1 => if c = true then Q true μ1 else u ρ μ1 Q) := rfl
@[simp] theorem s_aNot (t : DT) (ρ : DEnv) (μ : Mu) (Q : Bool → Mu → Prop) : aNot t  ρ μ Q = (t ρ μ fun c μ1 => Q (!c) μ1) := rfl
@[simp] theorem s_aAndV (ta tb : DE) (ρ : DEnv) (μ : Mu) (Q : D → Mu → Prop) : aAndV ta tb  ρ μ Q = (ta ρ μ fun x μ1 => ∃ c, x = .bl c ∧ if c = true then tb ρ μ1 Q else Q (.bl false) μ1) := rfl
@[simp] theorem s_aOrV (ta tb : DE) (ρ : DEnv) (μ : Mu) (Q : D → Mu → Prop) : aOrV ta tb  ρ μ Q = (ta ρ μ fun x μ1 => ∃ c, x = .bl c ∧ if c = true then Q (.bl true) μ1 else tb ρ μ1 Q) := rfl
@[simp] theorem s_aNotV (ta : DE) (ρ : DEnv) (μ : Mu) (Q : D → Mu → Prop) : aNotV ta  ρ μ Q = (ta ρ μ fun x μ1 => ∃ c, x = .bl c ∧ Q (.bl (!c)) μ1) := rfl
@[simp] theorem s_aNeg (ta : DE) (ρ : DEnv) (μ : Mu) (Q : D → Mu → Prop) : aNeg ta  ρ μ Q = (ta ρ μ fun x μ1 => ∃ i, x = .int i ∧ Q (.int (-i)) μ1) := rfl
@[simp] theorem s_aNil (v0 : DEnv) (μ : Mu) (Q : List D → Mu → Prop) : aNil  v0 μ Q = (Q [] μ) := rfl
@[simp] theorem s_aCons (ta : DE) (tr : DA) (ρ : DEnv) (μ : Mu) (Q : List D → Mu → Prop) : aCons ta  tr  ρ μ Q = (ta ρ μ fun x μ1 => tr ρ μ1 fun xs μ2 => Q (x :: xs) μ2) := rfl
@[simp] theorem s_aTup (t : DA) (ρ : DEnv) (μ : Mu) (Q : D → Mu → Prop) : aTup t  ρ μ Q = (t ρ μ fun ds μ1 => Q (.tup ds) μ1) := rfl
@[simp] theorem s_aNew (t : DA) (ρ : DEnv) (μ : Mu) (Q : D → Mu → Prop) : aNew t  ρ μ Q = (t ρ μ fun ds μ1 => ∀ p, μ1 p = none → Q (.ref p) (updM μ1 p (.lst ds))) := rfl
@[simp] theorem s_aNext (P : DEnds) (ρ : DEnv) (μ : Mu) : aNext  P ρ μ = (P.nx ρ μ) := rfl
@[simp] theorem s_aSeq (t u : DS) (P : DEnds) (ρ : DEnv) (μ : Mu) : aSeq t u  P ρ μ = (t { P with nx := u P } ρ μ) := rfl
@[simp] theorem s_aNever (v0 : DEnds) (v1 : DEnv) (v2 : Mu) : aNever  v0 v1 v2 = (False) := rfl
@[simp] theorem s_aDrop (t : DE) (P : DEnds) (ρ : DEnv) (μ : Mu) : aDrop t  P ρ μ = (t ρ μ fun _ μ1 => P.nx ρ μ1) := rfl
@[simp] theorem s_aRet (t : DE) (P : DEnds) (ρ : DEnv) (μ : Mu) : aRet t  P ρ μ = (t ρ μ P.rt) := rfl
@[simp] theorem s_aIfS (c : DT) (t u : DS) (P : DEnds) (ρ : DEnv) (μ : Mu) : aIfS c  t u  P ρ μ = (c ρ μ fun b μ1 => if b = true then t P ρ μ1 else u P ρ μ1) := rfl
@[simp] theorem s_aName (i : Nat) (d : D) (ρ : DEnv) (μ : Mu) (Q : DEnv → Mu → Prop) : aName i  d ρ μ Q = (Q (ρ.set i (some d)) μ) := rfl
@[simp] theorem s_aTupG (n : Nat) (t : DGs) (d : D) (ρ : DEnv) (μ : Mu) (Q : DEnv → Mu → Prop) : aTupG n  t  d ρ μ Q = (∃ ds, seqD d = some ds ∧ ds.length = n ∧ t ds ρ μ Q) := rfl
@[simp] theorem s_aSubG (to ti : DE) (t : DSet) (d : D) (ρ : DEnv) (μ : Mu) (Q : DEnv → Mu → Prop) : aSubG to ti  t  d ρ μ Q = (to ρ μ fun o μ1 => ti ρ μ1 fun i μ2 => t o i d μ2 fun μ3 => Q ρ μ3) := rfl
@[simp] theorem s_aAsg (ta : DE) (g : DG) (P : DEnds) (ρ : DEnv) (μ : Mu) : aAsg ta  g  P ρ μ = (ta ρ μ fun d μ1 => g d ρ μ1 P.nx) := rfl
@[simp] theorem s_aNewI (t : DA) (ρ : DEnv) (μ : Mu) (Q : Sq → Mu → Prop) : aNewI t  ρ μ Q = (t ρ μ fun ds μ1 => Q ⟨ds, fun _ => True⟩ μ1) := rfl
@[simp] theorem s_aRng1 (t : DA) (ρ : DEnv) (μ : Mu) (Q : Sq → Mu → Prop) : aRng1 t  ρ μ Q = (t ρ μ fun ds μ1 => ∃ j : Int, ds = [.int j] ∧ (-(2 ^ 62) ≤ j ∧ j < 2 ^ 62) ∧ Q ⟨rgD 0 j.toNat, fun _ => True⟩ μ1) := rfl
@[simp] theorem s_aRng2 (t : DA) (ρ : DEnv) (μ : Mu) (Q : Sq → Mu → Prop) : aRng2 t  ρ μ Q = (t ρ μ fun ds μ1 => ∃ i j : Int, ds = [.int i, .int j] ∧ (-(2 ^ 62) ≤ i ∧ i < 2 ^ 62 ∧ -(2 ^ 62) ≤ j ∧ j < 2 ^ 62) ∧ Q ⟨rgD i (j - i).toNat, fun _ => True⟩ μ1) := rfl
@[simp] theorem s_aFor (i : DI) (g : DG) (b : DS) (P : DEnds) (ρ : DEnv) (μ : Mu) : aFor i  g  b  P ρ μ = (i ρ μ fun q μ1 => loopD q.stab g b P q.items ρ μ1) := rfl
@[simp] theorem s_aYes (v0 : DEnv) (μ : Mu) (Q : Bool → Mu → Prop) : aYes  v0 μ Q = (Q true μ) := rfl
@[simp] theorem s_aCall (G : DRs) (t : DA) (ρ : DEnv) (μ : Mu) (Q : D → Mu → Prop) : aCall G  t  ρ μ Q = (t ρ μ fun ds μ1 => G ds μ1 Q) := rfl
@[simp] theorem s_aNoPart (v0 : DEnv) (μ : Mu) (Q : Option Int → Mu → Prop) : aNoPart  v0 μ Q = (Q none μ) := rfl
@[simp] theorem s_aPart (t : DE) (ρ : DEnv) (μ : Mu) (Q : Option Int → Mu → Prop) : aPart t  ρ μ Q = (t ρ μ fun x μ1 => ∃ i, x = .int i ∧ Q (some i) μ1) := rfl
@[simp] theorem s_aSl (t : DE) (tl th : DO) (ρ : DEnv) (μ : Mu) (Q : D → Mu → Prop) : aSl t  tl th  ρ μ Q = (t ρ μ fun x μ1 => tl ρ μ1 fun l μ2 => th ρ μ2 fun u μ3 => ∃ ds, x = .tup ds ∧ Q (.tup (cutA ds l u)) μ3) := rfl
@[simp] theorem s_aSlL (t : DE) (tl th : DO) (ρ : DEnv) (μ : Mu) (Q : List D → Mu → Prop) : aSlL t  tl th  ρ μ Q = (t ρ μ fun x μ1 => tl ρ μ1 fun l μ2 => th ρ μ2 fun u μ3 => ∃ p ds, x = .ref p ∧ lstOf (μ3 p) = some ds ∧ Q (cutA ds l u) μ3) := rfl
@[simp] theorem s_aIsT (T : String) (t : DE) (ρ : DEnv) (μ : Mu) (Q : D → Mu → Prop) : aIsT T  t  ρ μ Q = (t ρ μ fun x μ1 => isLC μ1 x ∧ Q (.bl (tyD T x)) μ1) := rfl
@[simp] theorem s_aTupL (t : DA) (ρ : DEnv) (μ : Mu) (Q : D → Mu → Prop) : aTupL t  ρ μ Q = (t ρ μ fun ds μ1 => Q (.tup ds) μ1) := rfl
@[simp] theorem s_aAllL (t : DA) (ρ : DEnv) (μ : Mu) (Q : D → Mu → Prop) : aAllL t  ρ μ Q = (t ρ μ fun ds μ1 => ∃ bs : List Bool, ds = bs.map .bl ∧ Q (.bl (bs.all id)) μ1) := rfl
@[simp] theorem s_aAnyL (t : DA) (ρ : DEnv) (μ : Mu) (Q : D → Mu → Prop) : aAnyL t  ρ μ Q = (t ρ μ fun ds μ1 => ∃ bs : List Bool, ds = bs.map .bl ∧ Q (.bl (bs.any id)) μ1) := rfl
@[simp] theorem s_aMaxL (t : DA) (ρ : DEnv) (μ : Mu) (Q : D → Mu → Prop) : aMaxL t  ρ μ Q = (t ρ μ fun ds μ1 => ∃ ns : List Int, ds = ns.map .int ∧ 0 < ns.length ∧ ∀ m, m ∈ ns → (∀ y, y ∈ ns → y ≤ m) → Q (.int m) μ1) := rfl
@[simp] theorem s_aListRg (ta tb : DE) (ρ : DEnv) (μ : Mu) (Q : List D → Mu → Prop) : aListRg ta tb  ρ μ Q = (ta ρ μ fun x μ1 => tb ρ μ1 fun y μ2 => ∃ i j, x = .int i ∧ y = .int j ∧ RgOk i j ∧ Q (rgD i (j - i).toNat) μ2) := rfl
@[simp] theorem s_aSortK (ta : DE) (ρ : DEnv) (μ : Mu) (Q : List D → Mu → Prop) : aSortK ta  ρ μ Q = (ta ρ μ fun x μ1 => ∃ p kvs ks, x = .ref p ∧ μ1 p = some (.dK kvs) ∧ kvs.map (·.1) = ks.map Sum.inl ∧ ks.length < 64 ∧ ∀ ys : List Int, ys.Perm ks → ys.Pairwise (· ≤ ·) → Q (ys.map .int) μ1) := rfl
@[simp] theorem s_aSortT (ta : DE) (ρ : DEnv) (μ : Mu) (Q : List D → Mu → Prop) : aSortT ta  ρ μ Q = (ta ρ μ fun x μ1 => ∃ (p : Addr) (kvs : List (List Key × D)) (ks : List (Int × Int)), x = .ref p ∧ μ1 p = some (.dT kvs) ∧ kvs.map (·.1) = ks.map kPr ∧ ∀ ys : List (Int × Int), ys.Perm ks → ys.Pairwise (fun a b => SrtO.lexB b a = false) → Q (ys.map prD) μ1) := rfl
@[simp] theorem s_aNewK (v0 : DEnv) (μ : Mu) (Q : D → Mu → Prop) : aNewK  v0 μ Q = (∀ p, μ p = none → Q (.ref p) (updM μ p (.dK []))) := rfl
@[simp] theorem s_aNewT (v0 : DEnv) (μ : Mu) (Q : D → Mu → Prop) : aNewT  v0 μ Q = (∀ p, μ p = none → Q (.ref p) (updM μ p (.dT []))) := rfl
@[simp] theorem s_aGet1 (td ty : DE) (ρ : DEnv) (μ : Mu) (Q : D → Mu → Prop) : aGet1 td ty  ρ μ Q = (td ρ μ fun x μ1 => ∃ p, x = .ref p ∧ isDC μ1 p ∧ ty ρ μ1 fun y μ2 => getDD μ2 p y fun od => Q (od.getD .non) μ2) := rfl
@[simp] theorem s_aGet2 (td ty tz : DE) (ρ : DEnv) (μ : Mu) (Q : D → Mu → Prop) : aGet2 td ty tz  ρ μ Q = (td ρ μ fun x μ1 => ∃ p, x = .ref p ∧ isDC μ1 p ∧ ty ρ μ1 fun y μ2 => tz ρ μ2 fun z μ3 => getDD μ3 p y fun od => Q (od.getD z) μ3) := rfl
@[simp] theorem s_aApp (to te : DE) (ρ : DEnv) (μ : Mu) (Q : D → Mu → Prop) : aApp to te  ρ μ Q = (to ρ μ fun x μ1 => ∃ p, x = .ref p ∧ (∃ ds, μ1 p = some (.lst ds)) ∧ te ρ μ1 fun y μ2 => ∃ ds, μ2 p = some (.lst ds) ∧ ds.length < sizeLine ∧ Q .non (updM μ2 p (.lst (ds ++ [y])))) := rfl
@[simp] theorem s_aPopAt (to te : DE) (ρ : DEnv) (μ : Mu) (Q : D → Mu → Prop) : aPopAt to te  ρ μ Q = (to ρ μ fun x μ1 => ∃ p, x = .ref p ∧ (∃ ds, μ1 p = some (.lst ds)) ∧ te ρ μ1 fun y μ2 => ∃ ds d, y = .int 0 ∧ μ2 p = some (.lst (d :: ds)) ∧ Q d (updM μ2 p (.lst ds))) := rfl
@[simp] theorem s_aZip (t : DA) (ρ : DEnv) (μ : Mu) (Q : Sq → Mu → Prop) : aZip t  ρ μ Q = (t ρ μ fun vs μ1 => ∃ d1 d2 ds es, vs = [d1, d2] ∧ seqD d1 = some ds ∧ seqD d2 = some es ∧ Q ⟨zpD ds es, fun _ => True⟩ μ1) := rfl
@[simp] theorem s_aStrI (ta : DE) (ρ : DEnv) (μ : Mu) (Q : Sq → Mu → Prop) : aStrI ta  ρ μ Q = (ta ρ μ fun d μ1 => ∃ x, d = .str x ∧ Q ⟨sgD x, fun _ => True⟩ μ1) := rfl
@[simp] theorem s_aIxL (t : DA) (tb : DE) (ρ : DEnv) (μ : Mu) (Q : D → Mu → Prop) : aIxL t  tb  ρ μ Q = (t ρ μ fun ds μ1 => tb ρ μ1 fun y μ2 => ∃ i d, y = .int i ∧ atI ds i = some d ∧ Q d μ2) := rfl
@[simp] theorem s_aTupF (t : DA) (ρ : DEnv) (μ : Mu) (Q : D → Mu → Prop) : aTupF t  ρ μ Q = (t ρ μ fun ds μ1 => Q (.ftup ds) μ1) := rfl
@[simp] theorem s_aIdx (to te : DE) (ρ : DEnv) (μ : Mu) (Q : D → Mu → Prop) : aIdx to te  ρ μ Q = (to ρ μ fun x μ1 => ∃ ns : List Int, x = .ftup (ns.map .int) ∧ te ρ μ1 fun y μ2 => ∃ (k : Int) (j : Nat), y = .int k ∧ ns[j]? = some k ∧ (∀ m, m < j → ns[m]? ≠ some k) ∧ Q (.int (j : Nat)) μ2) := rfl
@[simp] theorem s_aRem (to te : DE) (ρ : DEnv) (μ : Mu) (Q : D → Mu → Prop) : aRem to te  ρ μ Q = (to ρ μ fun x μ1 => ∃ p, x = .ref p ∧ (∃ ds, μ1 p = some (.lst ds)) ∧ te ρ μ1 fun y μ2 => ∃ (ls : List (Int × Str)) (l : Int × Str), μ2 p = some (.lst (ls.map lpD)) ∧ y = lpD l ∧ l ∈ ls ∧ (∀ z ∈ ls, PyData.canLay0 (.str z.2) = true) ∧ Q .non (updM μ2 p (.lst ((ls.erase l).map lpD)))) := rfl
@[simp] theorem s_aRepr (ta : DE) (ρ : DEnv) (μ : Mu) (Q : D → Mu → Prop) : aRepr ta  ρ μ Q = (ta ρ μ fun x μ1 => ∃ ns : List Int, x = .tup (ns.map .int) ∧ ns.length ≤ 1000 ∧ (∀ n ∈ ns, n.natAbs ≤ 1000000) ∧ Q (.str (reprT ns)) μ1) := rfl
end Dl
namespace Dl
open PySem PySem.Spec PyProof.Rows L2
section
variable (ta tb : DE) (ρ : DEnv) (μ : Mu) (Q : D → Mu → Prop)
@[simp] theorem s_aSeqI (R : Sq → Mu → Prop) : aSeqI ta ρ μ R = ta ρ μ fun d μ1 => match d with
  | .ref p => ∃ ds, μ1 p = some (.lst ds) ∧ R ⟨ds, fun μ => μ p = some (.lst ds)⟩ μ1
  | d => ∃ ds, seqD d = some ds ∧ R ⟨ds, fun _ => True⟩ μ1 := rfl
@[simp] theorem s_aEnum (R : Sq → Mu → Prop) : aEnum ta ρ μ R = ta ρ μ fun d μ1 => match d with
  | .ref p => ∃ ds, μ1 p = some (.lst ds) ∧ R ⟨enD 0 ds, fun μ => μ p = some (.lst ds)⟩ μ1
  | d => ∃ ds, seqD d = some ds ∧ R ⟨enD 0 ds, fun _ => True⟩ μ1 := rfl
@[simp] theorem s_aList (R : List D → Mu → Prop) : aList ta ρ μ R = ta ρ μ fun x μ1 => match x with
  | .ref p => ∃ ds, μ1 p = some (.lst ds) ∧ R ds μ1
  | x => ∃ ds, seqD x = some ds ∧ R ds μ1 := rfl
@[simp] theorem s_aDisp (trs : List (DE × DE)) : aDisp trs ρ μ Q = ∀ p, μ p = none → pairsA trs ρ (updM μ p (.dK [])) fun kvs μ2 => μ2 p = some (.dK []) ∧ kvs.length ≤ 15 ∧ Q (.ref p) (updM μ2 p (.dK (mergeD [] kvs))) := rfl
@[simp] theorem s_gNil (R : DEnv → Mu → Prop) : gNilD [] ρ μ R = R ρ μ := by
  apply propext
  exact ⟨fun h => h.2, fun h => ⟨rfl, h⟩⟩
@[simp] theorem s_gCons (t : DG) (u : DGs) (d : D) (r : List D) (R : DEnv → Mu → Prop) : gConsD t u (d :: r) ρ μ R = t d ρ μ fun ρ' μ' => u r ρ' μ' R := by
  apply propext
  constructor
  · rintro ⟨_, _, e, h⟩
    cases e
    exact h
  · intro h
    exact ⟨d, r, rfl, h⟩
@[simp] theorem s_aLc (i : DI) (g : DG) (tt : DT) (te : DE) (vs : List Nat) (K : List D → Mu → Prop) : aLc i g tt te vs ρ μ K = i ρ μ fun q μ1 => lcLoop q.stab g tt te (wipeD ρ vs) q.items [] μ1 K := rfl
@[simp] theorem s_pairsA0 (R : List (Key × D) → Mu → Prop) : pairsA [] ρ μ R = R [] μ := rfl
@[simp] theorem s_pairsA (tk tv : DE) (r : List (DE × DE)) (R : List (Key × D) → Mu → Prop) : pairsA ((tk, tv) :: r) ρ μ R = tk ρ μ fun x μ1 => tv ρ μ1 fun y μ2 => pairsA r ρ μ2 fun ps μ3 => ∃ k, x = kD k ∧ R ((k, y) :: ps) μ3 := rfl
@[simp] theorem s_wipe0 : wipeD ρ [] = ρ := rfl
@[simp] theorem s_wipe (v : Nat) (vs : List Nat) : wipeD ρ (v :: vs) = (wipeD ρ vs).set v none := rfl
@[simp] theorem s_rII (c : Int → Int → Prop) (f : Int → Int → D) (i j : Int) : rII c f (.int i) (.int j) μ Q = (c i j ∧ Q (f i j) μ) := by
  apply propext
  constructor
  · rintro ⟨_, _, e1, e2, h⟩; cases e1; cases e2; exact h
  · intro h; exact ⟨i, j, rfl, rfl, h⟩
@[simp] theorem s_addI (i j : Int) : rAdd (.int i) (.int j) μ Q = Q (.int (i + j)) μ := rfl
@[simp] theorem s_addT (a b : List D) : rAdd (.tup a) (.tup b) μ Q = (a.length + b.length ≤ sizeLine ∧ Q (.tup (a ++ b)) μ) := rfl
@[simp] theorem s_addL (p q : Addr) : rAdd (.ref p) (.ref q) μ Q = ∃ a b, μ p = some (.lst a) ∧ μ q = some (.lst b) ∧ a.length + b.length ≤ sizeLine ∧ ∀ r, μ r = none → Q (.ref r) (updM μ r (.lst (a ++ b))) := rfl
@[simp] theorem s_mulI (i j : Int) : rMul (.int i) (.int j) μ Q = (CMul i j ∧ Q (.int (i * j)) μ) := rfl
@[simp] theorem s_mulL (p : Addr) (j : Int) : rMul (.ref p) (.int j) μ Q = ∃ a, μ p = some (.lst a) ∧ (-(2 ^ 63) ≤ j ∧ j < 2 ^ 63) ∧ a.length * j.toNat ≤ sizeLine ∧ ∀ r, μ r = none → Q (.ref r) (updM μ r (.lst (List.replicate j.toNat a).flatten)) := rfl
@[simp] theorem s_isN (n : Bool) (x : D) : rIs n x .non μ Q = Q (.bl (n != isNon x)) μ := rfl
@[simp] theorem s_isB (n b a : Bool) : rIs n (.bl a) (.bl b) μ Q = Q (.bl (n != decide (a = b))) μ := by
  apply propext
  constructor
  · rintro ⟨_, e, h⟩; cases e; exact h
  · intro h; exact ⟨a, rfl, h⟩
@[simp] theorem s_ixT (ds : List D) (i : Int) : rIxD (.tup ds) (.int i) μ Q = ∃ d, atI ds i = some d ∧ Q d μ := by
  apply propext
  constructor
  · rintro ⟨_, d, e, h⟩; cases e; exact ⟨d, h⟩
  · rintro ⟨d, h⟩; exact ⟨i, d, rfl, h⟩
@[simp] theorem s_ixF (ds : List D) (i : Int) : rIxD (.ftup ds) (.int i) μ Q = ∃ d, atI ds i = some d ∧ Q d μ := by
  apply propext
  constructor
  · rintro ⟨_, d, e, h⟩; cases e; exact ⟨d, h⟩
  · rintro ⟨d, h⟩; exact ⟨i, d, rfl, h⟩
@[simp] theorem s_ixR (p : Addr) (y : D) : rIxD (.ref p) y μ Q = match μ p with
    | some (.lst ds) => ∃ i d, y = .int i ∧ atI ds i = some d ∧ Q d μ
    | some (.dK kvs) => ∃ k d, y = kD k ∧ valD kvs k = some d ∧ Q d μ
    | some (.zK _ _ kvs) => ∃ k d, y = kD k ∧ valD kvs k = some d ∧ Q d μ
    | some (.dT kvs) => ∃ ks d, y = .tup (ks.map kD) ∧ valD kvs ks = some d ∧ Q d μ
    | _ => False := rfl
@[simp] theorem s_ixS (z : Str) (i : Int) : rIxD (.str z) (.int i) μ Q = ∃ c, z.length ≤ sizeLine ∧ atI z.cps.toList i = some c ∧ Q (.str ⟨#[c]⟩) μ := by
  apply propext
  constructor
  · rintro ⟨_, d, e, h⟩; cases e; exact ⟨d, h⟩
  · rintro ⟨d, h⟩; exact ⟨i, d, rfl, h⟩
@[simp] theorem s_setD (p : Addr) (i v : D) (Q : Mu → Prop) : setD (.ref p) i v μ Q = match μ p with
    | some (.lst ds) => ∃ k j, i = .int k ∧ ixN ds.length k = some j ∧ Q (updM μ p (.lst (ds.set j v)))
    | some (.dK kvs) => ∃ k, i = kD k ∧ kvs.length < sizeLine ∧ Q (updM μ p (.dK (putD kvs k v)))
    | some (.dT kvs) => ∃ ks, i = .tup (ks.map kD) ∧ kvs.length < sizeLine ∧ Q (updM μ p (.dT (putD kvs ks v)))
    | _ => False := rfl
@[simp] theorem s_inR (n : Bool) (x : D) (p : Addr) : rInn n x (.ref p) μ Q = match μ p with
    | some (.dK kvs) => ∃ k, x = kD k ∧ Q (.bl (n != (valD kvs k).isSome)) μ
    | some (.lst ds) => ∃ (k : Int) (ns : List Int), x = .int k ∧ ds = ns.map .int ∧ Q (.bl (n != decide (k ∈ ns))) μ
    | _ => False := rfl
@[simp] theorem s_inS (n : Bool) (x : D) (z : Str) : rInn n x (.str z) μ Q = ∃ c, x = .str ⟨#[c]⟩ ∧ Q (.bl (n != decide (c ∈ z.cps.toList))) μ := rfl
@[simp] theorem s_lenT (es : List D) : rLenD [.tup es] μ Q = Q (.int es.length) μ := by
  apply propext
  constructor
  · rintro ⟨_, e, h⟩; cases e; exact h
  · intro h; exact ⟨_, rfl, h⟩
@[simp] theorem s_lenF (es : List D) : rLenD [.ftup es] μ Q = Q (.int es.length) μ := by
  apply propext
  constructor
  · rintro ⟨_, e, h⟩; cases e; exact h
  · intro h; exact ⟨_, rfl, h⟩
@[simp] theorem s_lenS (z : Str) : rLenD [.str z] μ Q = (z.length ≤ sizeLine ∧ Q (.int z.length) μ) := by
  apply propext
  constructor
  · rintro ⟨_, e, h⟩; cases e; exact h
  · intro h; exact ⟨_, rfl, h⟩
@[simp] theorem s_lenR (p : Addr) : rLenD [.ref p] μ Q = ∃ es, μ p = some (.lst es) ∧ Q (.int es.length) μ := by
  apply propext
  constructor
  · rintro ⟨_, e, h⟩; cases e; exact h
  · intro h; exact ⟨_, rfl, h⟩
@[simp] theorem s_tupT (es : List D) : rTupD [.tup es] μ Q = Q (.tup es) μ := by
  apply propext
  constructor
  · rintro ⟨_, e, h⟩; cases e; exact h
  · intro h; exact ⟨_, rfl, h⟩
@[simp] theorem s_tupR (p : Addr) : rTupD [.ref p] μ Q = ∃ es, μ p = some (.lst es) ∧ Q (.tup es) μ := by
  apply propext
  constructor
  · rintro ⟨_, e, h⟩; cases e; exact h
  · intro h; exact ⟨_, rfl, h⟩
@[simp] theorem s_eqI (n : Bool) (i j : Int) : rEqq n (.int i) (.int j) μ Q = Q (.bl (n != (i == j))) μ := by simp [rEqq, scD, beqD]
@[simp] theorem s_eqS (n : Bool) (i j : Str) : rEqq n (.str i) (.str j) μ Q = Q (.bl (n != (i == j))) μ := by simp [rEqq, scD, beqD]
@[simp] theorem s_eqTT (n : Bool) (a b : List D) : rEqq n (.tup a) (.tup b) μ Q = (okD 20 (.tup a) = true ∧ okD 20 (.tup b) = true ∧ Q (.bl (n != beqDs a b)) μ) := by simp [rEqq, scD, beqD]
@[simp] theorem s_eqR (n : Bool) (p q : Addr) : rEqq n (.ref p) (.ref q) μ Q = ∃ as bs, lstOf (μ p) = some as ∧ lstOf (μ q) = some bs ∧ okDs 20 as = true ∧ okDs 20 bs = true ∧ Q (.bl (n != beqDs as bs)) μ := by simp [rEqq, scD]
@[simp] theorem s_seqT (ds : List D) : seqD (.tup ds) = some ds := rfl
@[simp] theorem s_seqF (ds : List D) : seqD (.ftup ds) = some ds := rfl
@[simp] theorem s_startD (n : Nat) (ds : List D) : startD n ds = ds.map some ++ List.replicate (n - ds.length) none := rfl
@[simp] theorem s_isNon0 : isNon .non = true := rfl
@[simp] theorem s_isNonI (i : Int) : isNon (.int i) = false := rfl
@[simp] theorem s_isNonS (i : Str) : isNon (.str i) = false := rfl
@[simp] theorem s_isNonT (i : List D) : isNon (.tup i) = false := rfl
@[simp] theorem s_updSame {a : Addr} {c : C} : updM μ a c a = some c := updM_same
@[simp] theorem s_updUpd {a : Addr} {c e : C} : updM (updM μ a c) a e = updM μ a e := updM_updM
end
/-! ### walks -/
/-- a walk by what is to come -/
theorem for_map {α : Type} {e : α → D} {stab : Mu → Prop} {g : DG} {b : DS} {P : DEnds} (I : List α → DEnv → Mu → Prop)
    (hs : ∀ x r ρ μ (N : DEnv → Mu → Prop), I (x :: r) ρ μ → (∀ ρ2 μ2, stab μ2 → I r ρ2 μ2 → N ρ2 μ2) → g (e x) ρ μ fun ρ1 μ1 => b { nx := N, rt := P.rt, bk := P.nx, ct := N } ρ1 μ1)
    (he : ∀ ρ μ, I [] ρ μ → P.nx ρ μ) : ∀ {l : List α} {ρ : DEnv} {μ : Mu}, I l ρ μ → loopD stab g b P (l.map e) ρ μ
  | [], ρ, μ, h => he ρ μ h
  | x :: r, ρ, μ, h => hs x r ρ μ (fun ρ2 μ2 => stab μ2 ∧ loopD stab g b P (r.map e) ρ2 μ2) h fun ρ2 μ2 s h' => ⟨s, for_map I hs he h'⟩
theorem lc_gen {α : Type} {e : α → D} {stab : Mu → Prop} {g : DG} {tt : DT} {te : DE} {ρ0 : DEnv} {K : List D → Mu → Prop} (I : List α → List D → Mu → Prop)
    (hs : ∀ x r acc μ (Y : D → Mu → Prop) (N : Mu → Prop), I (x :: r) acc μ → (∀ y μ2, I r (acc ++ [y]) μ2 → acc.length < sizeLine → stab μ2 → Y y μ2) → (∀ μ2, I r acc μ2 → stab μ2 → N μ2) →
      g (e x) ρ0 μ fun ρ1 μ1 => tt ρ1 μ1 fun b μ2 => if b = true then te ρ1 μ2 Y else N μ2)
    (he : ∀ acc μ, I [] acc μ → K acc μ) : ∀ {l : List α} {acc : List D} {μ : Mu}, I l acc μ → lcLoop stab g tt te ρ0 (l.map e) acc μ K
  | [], acc, μ, h => he acc μ h
  | x :: r, acc, μ, h => hs x r acc μ (fun y μ3 => acc.length < sizeLine ∧ stab μ3 ∧ lcLoop stab g tt te ρ0 (r.map e) (acc ++ [y]) μ3 K) (fun μ2 => stab μ2 ∧ lcLoop stab g tt te ρ0 (r.map e) acc μ2 K) h
    (fun y μ2 j z s => ⟨z, s, lc_gen I hs he j⟩) fun μ2 j s => ⟨s, lc_gen I hs he j⟩
/-- a list that a walk makes of each thing alone -/
theorem lc_map {α : Type} {e : α → D} {stab : Mu → Prop} {g : DG} {tt : DT} {te : DE} {ρ0 : DEnv} {K : List D → Mu → Prop} {l : List α} {μ : Mu} (p : α → Bool) (v : α → D) (st : stab μ)
    (hs : ∀ x, x ∈ l → ∀ (Y : D → Mu → Prop) (N : Mu → Prop), (p x = true → Y (v x) μ) → (p x = false → N μ) → g (e x) ρ0 μ fun ρ1 μ1 => tt ρ1 μ1 fun b μ2 => if b = true then te ρ1 μ2 Y else N μ2)
    (hl : l.length ≤ sizeLine) (he : K ((l.filter p).map v) μ) : lcLoop stab g tt te ρ0 (l.map e) [] μ K := by
  refine lc_gen (fun r acc μ2 => μ2 = μ ∧ acc.length + r.length ≤ l.length ∧ (∀ x, x ∈ r → x ∈ l) ∧ acc ++ (r.filter p).map v = (l.filter p).map v) ?_ ?_ ⟨rfl, by simp, fun _ h => h, by simp⟩
  · rintro x r acc μ2 Y N ⟨rfl, h1, hm, h2⟩ hy hn
    rw [List.length_cons] at h1
    refine hs x (hm x List.mem_cons_self) Y N (fun hp => hy _ _ ⟨rfl, by rw [List.length_append, List.length_singleton]; omega, fun z hz => hm z (List.mem_cons_of_mem _ hz), ?_⟩ (by omega) st) fun hp => hn _ ⟨rfl, by omega, fun z hz => hm z (List.mem_cons_of_mem _ hz), ?_⟩ st
    · rw [← h2, List.filter_cons_of_pos hp]; simp
    · rw [← h2, List.filter_cons_of_neg (by rw [hp]; simp)]
  · rintro acc μ2 ⟨rfl, _, _, h⟩
    simp only [List.filter_nil, List.map_nil, List.append_nil] at h
    rw [h]; exact he
/-- with no test -/
theorem lc_all {α : Type} {e : α → D} {stab : Mu → Prop} {g : DG} {te : DE} {ρ0 : DEnv} {K : List D → Mu → Prop} {l : List α} {μ : Mu} (v : α → D) (st : stab μ)
    (hs : ∀ x, x ∈ l → ∀ (Y : D → Mu → Prop), Y (v x) μ → g (e x) ρ0 μ fun ρ1 μ1 => te ρ1 μ1 Y)
    (hl : l.length ≤ sizeLine) (he : K (l.map v) μ) : lcLoop stab g aYes te ρ0 (l.map e) [] μ K :=
  lc_map (fun _ => true) v st (fun x hx Y N hy _ => hs x hx Y (hy rfl)) hl (by rw [List.filter_eq_self.mpr (fun _ _ => rfl)]; exact he)
theorem rgD_map (lo : Int) (n : Nat) : rgD lo n = (List.range n).map fun (i : Nat) => .int (lo + (i : Int)) := rfl
theorem enD_map : ∀ (n : Nat) (ds : List D), enD n ds = (ds.zipIdx n).map fun p => .tup [.int (p.2 : Nat), p.1]
  | n, [] => rfl
  | n, d :: ds => by
    rw [List.zipIdx_cons, List.map_cons, ← enD_map (n + 1) ds]
    rfl
theorem atI_nat {α : Type} (l : List α) (i : Nat) : atI l (i : Int) = l[i]? := by
  unfold atI ixN
  rw [if_pos (Int.natCast_nonneg i)]
  by_cases h : i < l.length
  · rw [if_pos (by omega)]; rfl
  · rw [if_neg (by omega), List.getElem?_eq_none (by omega)]; rfl
@[simp] theorem atI_map {α β : Type} (f : α → β) (l : List α) (i : Nat) : atI (l.map f) (i : Int) = (l[i]?).map f := by rw [atI_nat, List.getElem?_map]
@[simp] theorem atI_0 {α : Type} (l : List α) : atI l 0 = l[0]? := atI_nat l 0
@[simp] theorem atI_1 {α : Type} (l : List α) : atI l 1 = l[1]? := atI_nat l 1
@[simp] theorem atI_2 {α : Type} (l : List α) : atI l 2 = l[2]? := atI_nat l 2
@[simp] theorem atI_3 {α : Type} (l : List α) : atI l 3 = l[3]? := atI_nat l 3
@[simp] theorem atI_4 {α : Type} (l : List α) : atI l 4 = l[4]? := atI_nat l 4
theorem atI_last {α : Type} (l : List α) : atI l (-1) = l[l.length - 1]? := by
  unfold atI ixN
  rw [if_neg (by omega)]
  cases l with
  | nil => rfl
  | cons a r =>
    rw [if_pos (by rw [List.length_cons]; omega)]
    show (a :: r)[((-1 : Int) + ((a :: r).length : Nat)).toNat]? = _
    congr 1
    rw [List.length_cons]
    omega
@[simp] theorem kD_i (i : Int) : (D.int i = kD k) = (k = Sum.inl i) := by
  apply propext
  cases k with
  | inl j => exact ⟨fun e => (by cases e; rfl), fun e => (by cases e; rfl)⟩
  | inr j => exact ⟨fun e => (by cases e), fun e => (by cases e)⟩
@[simp] theorem kD_s (i : Str) : (D.str i = kD k) = (k = Sum.inr i) := by
  apply propext
  cases k with
  | inl j => exact ⟨fun e => (by cases e), fun e => (by cases e)⟩
  | inr j => exact ⟨fun e => (by cases e; rfl), fun e => (by cases e; rfl)⟩
end Dl

/-! ## CsA -/
namespace Cs
open PySem PySem.Spec PyProof.Rows L2 Dl
@[simp] theorem ne_own_hear : (("own" : Str) = "hear") = False := eq_false (by decide)
@[simp] theorem ne_own_come : (("own" : Str) = "come") = False := eq_false (by decide)
@[simp] theorem ne_own_row : (("own" : Str) = "row") = False := eq_false (by decide)
@[simp] theorem ne_own_heap : (("own" : Str) = "heap") = False := eq_false (by decide)
@[simp] theorem ne_own_way : (("own" : Str) = "way") = False := eq_false (by decide)
@[simp] theorem ne_own_line : (("own" : Str) = "line") = False := eq_false (by decide)
@[simp] theorem ne_own_useless : (("own" : Str) = "useless") = False := eq_false (by decide)
@[simp] theorem ne_own_numbers : (("own" : Str) = "numbers") = False := eq_false (by decide)
@[simp] theorem ne_own_a : (("own" : Str) = "a") = False := eq_false (by decide)
@[simp] theorem ne_own_b : (("own" : Str) = "b") = False := eq_false (by decide)
@[simp] theorem ne_own_c : (("own" : Str) = "c") = False := eq_false (by decide)
@[simp] theorem ne_own_w : (("own" : Str) = "w") = False := eq_false (by decide)
@[simp] theorem ne_own_ab : (("own" : Str) = "ab") = False := eq_false (by decide)
@[simp] theorem ne_own_told : (("own" : Str) = "told") = False := eq_false (by decide)
@[simp] theorem ne_hear_own : (("hear" : Str) = "own") = False := eq_false (by decide)
@[simp] theorem ne_hear_come : (("hear" : Str) = "come") = False := eq_false (by decide)
@[simp] theorem ne_hear_row : (("hear" : Str) = "row") = False := eq_false (by decide)
@[simp] theorem ne_hear_heap : (("hear" : Str) = "heap") = False := eq_false (by decide)
@[simp] theorem ne_hear_way : (("hear" : Str) = "way") = False := eq_false (by decide)
@[simp] theorem ne_hear_line : (("hear" : Str) = "line") = False := eq_false (by decide)
@[simp] theorem ne_hear_useless : (("hear" : Str) = "useless") = False := eq_false (by decide)
@[simp] theorem ne_hear_numbers : (("hear" : Str) = "numbers") = False := eq_false (by decide)
@[simp] theorem ne_hear_a : (("hear" : Str) = "a") = False := eq_false (by decide)
@[simp] theorem ne_hear_b : (("hear" : Str) = "b") = False := eq_false (by decide)
@[simp] theorem ne_hear_c : (("hear" : Str) = "c") = False := eq_false (by decide)
@[simp] theorem ne_hear_w : (("hear" : Str) = "w") = False := eq_false (by decide)
@[simp] theorem ne_hear_ab : (("hear" : Str) = "ab") = False := eq_false (by decide)
@[simp] theorem ne_hear_told : (("hear" : Str) = "told") = False := eq_false (by decide)
@[simp] theorem ne_come_own : (("come" : Str) = "own") = False := eq_false (by decide)
@[simp] theorem ne_come_hear : (("come" : Str) = "hear") = False := eq_false (by decide)
@[simp] theorem ne_come_row : (("come" : Str) = "row") = False := eq_false (by decide)
@[simp] theorem ne_come_heap : (("come" : Str) = "heap") = False := eq_false (by decide)
@[simp] theorem ne_come_way : (("come" : Str) = "way") = False := eq_false (by decide)
@[simp] theorem ne_come_line : (("come" : Str) = "line") = False := eq_false (by decide)
@[simp] theorem ne_come_useless : (("come" : Str) = "useless") = False := eq_false (by decide)
@[simp] theorem ne_come_numbers : (("come" : Str) = "numbers") = False := eq_false (by decide)
@[simp] theorem ne_come_a : (("come" : Str) = "a") = False := eq_false (by decide)
@[simp] theorem ne_come_b : (("come" : Str) = "b") = False := eq_false (by decide)
@[simp] theorem ne_come_c : (("come" : Str) = "c") = False := eq_false (by decide)
@[simp] theorem ne_come_w : (("come" : Str) = "w") = False := eq_false (by decide)
@[simp] theorem ne_come_ab : (("come" : Str) = "ab") = False := eq_false (by decide)
@[simp] theorem ne_come_told : (("come" : Str) = "told") = False := eq_false (by decide)
@[simp] theorem ne_row_own : (("row" : Str) = "own") = False := eq_false (by decide)
@[simp] theorem ne_row_hear : (("row" : Str) = "hear") = False := eq_false (by decide)
@[simp] theorem ne_row_come : (("row" : Str) = "come") = False := eq_false (by decide)
@[simp] theorem ne_row_heap : (("row" : Str) = "heap") = False := eq_false (by decide)
@[simp] theorem ne_row_way : (("row" : Str) = "way") = False := eq_false (by decide)
@[simp] theorem ne_row_line : (("row" : Str) = "line") = False := eq_false (by decide)
@[simp] theorem ne_row_useless : (("row" : Str) = "useless") = False := eq_false (by decide)
@[simp] theorem ne_row_numbers : (("row" : Str) = "numbers") = False := eq_false (by decide)
@[simp] theorem ne_row_a : (("row" : Str) = "a") = False := eq_false (by decide)
@[simp] theorem ne_row_b : (("row" : Str) = "b") = False := eq_false (by decide)
@[simp] theorem ne_row_c : (("row" : Str) = "c") = False := eq_false (by decide)
@[simp] theorem ne_row_w : (("row" : Str) = "w") = False := eq_false (by decide)
@[simp] theorem ne_row_ab : (("row" : Str) = "ab") = False := eq_false (by decide)
@[simp] theorem ne_row_told : (("row" : Str) = "told") = False := eq_false (by decide)
@[simp] theorem ne_heap_own : (("heap" : Str) = "own") = False := eq_false (by decide)
@[simp] theorem ne_heap_hear : (("heap" : Str) = "hear") = False := eq_false (by decide)
@[simp] theorem ne_heap_come : (("heap" : Str) = "come") = False := eq_false (by decide)
@[simp] theorem ne_heap_row : (("heap" : Str) = "row") = False := eq_false (by decide)
@[simp] theorem ne_heap_way : (("heap" : Str) = "way") = False := eq_false (by decide)
@[simp] theorem ne_heap_line : (("heap" : Str) = "line") = False := eq_false (by decide)
@[simp] theorem ne_heap_useless : (("heap" : Str) = "useless") = False := eq_false (by decide)
@[simp] theorem ne_heap_numbers : (("heap" : Str) = "numbers") = False := eq_false (by decide)
@[simp] theorem ne_heap_a : (("heap" : Str) = "a") = False := eq_false (by decide)
@[simp] theorem ne_heap_b : (("heap" : Str) = "b") = False := eq_false (by decide)
@[simp] theorem ne_heap_c : (("heap" : Str) = "c") = False := eq_false (by decide)
@[simp] theorem ne_heap_w : (("heap" : Str) = "w") = False := eq_false (by decide)
@[simp] theorem ne_heap_ab : (("heap" : Str) = "ab") = False := eq_false (by decide)
@[simp] theorem ne_heap_told : (("heap" : Str) = "told") = False := eq_false (by decide)
@[simp] theorem ne_way_own : (("way" : Str) = "own") = False := eq_false (by decide)
@[simp] theorem ne_way_hear : (("way" : Str) = "hear") = False := eq_false (by decide)
@[simp] theorem ne_way_come : (("way" : Str) = "come") = False := eq_false (by decide)
@[simp] theorem ne_way_row : (("way" : Str) = "row") = False := eq_false (by decide)
@[simp] theorem ne_way_heap : (("way" : Str) = "heap") = False := eq_false (by decide)
@[simp] theorem ne_way_line : (("way" : Str) = "line") = False := eq_false (by decide)
@[simp] theorem ne_way_useless : (("way" : Str) = "useless") = False := eq_false (by decide)
@[simp] theorem ne_way_numbers : (("way" : Str) = "numbers") = False := eq_false (by decide)
@[simp] theorem ne_way_a : (("way" : Str) = "a") = False := eq_false (by decide)
@[simp] theorem ne_way_b : (("way" : Str) = "b") = False := eq_false (by decide)
@[simp] theorem ne_way_c : (("way" : Str) = "c") = False := eq_false (by decide)
@[simp] theorem ne_way_w : (("way" : Str) = "w") = False := eq_false (by decide)
@[simp] theorem ne_way_ab : (("way" : Str) = "ab") = False := eq_false (by decide)
@[simp] theorem ne_way_told : (("way" : Str) = "told") = False := eq_false (by decide)
@[simp] theorem ne_line_own : (("line" : Str) = "own") = False := eq_false (by decide)
@[simp] theorem ne_line_hear : (("line" : Str) = "hear") = False := eq_false (by decide)
@[simp] theorem ne_line_come : (("line" : Str) = "come") = False := eq_false (by decide)
@[simp] theorem ne_line_row : (("line" : Str) = "row") = False := eq_false (by decide)
@[simp] theorem ne_line_heap : (("line" : Str) = "heap") = False := eq_false (by decide)
@[simp] theorem ne_line_way : (("line" : Str) = "way") = False := eq_false (by decide)
@[simp] theorem ne_line_useless : (("line" : Str) = "useless") = False := eq_false (by decide)
@[simp] theorem ne_line_numbers : (("line" : Str) = "numbers") = False := eq_false (by decide)
@[simp] theorem ne_line_a : (("line" : Str) = "a") = False := eq_false (by decide)
@[simp] theorem ne_line_b : (("line" : Str) = "b") = False := eq_false (by decide)
@[simp] theorem ne_line_c : (("line" : Str) = "c") = False := eq_false (by decide)
@[simp] theorem ne_line_w : (("line" : Str) = "w") = False := eq_false (by decide)
@[simp] theorem ne_line_ab : (("line" : Str) = "ab") = False := eq_false (by decide)
@[simp] theorem ne_line_told : (("line" : Str) = "told") = False := eq_false (by decide)
@[simp] theorem ne_useless_own : (("useless" : Str) = "own") = False := eq_false (by decide)
@[simp] theorem ne_useless_hear : (("useless" : Str) = "hear") = False := eq_false (by decide)
@[simp] theorem ne_useless_come : (("useless" : Str) = "come") = False := eq_false (by decide)
@[simp] theorem ne_useless_row : (("useless" : Str) = "row") = False := eq_false (by decide)
@[simp] theorem ne_useless_heap : (("useless" : Str) = "heap") = False := eq_false (by decide)
@[simp] theorem ne_useless_way : (("useless" : Str) = "way") = False := eq_false (by decide)
@[simp] theorem ne_useless_line : (("useless" : Str) = "line") = False := eq_false (by decide)
@[simp] theorem ne_useless_numbers : (("useless" : Str) = "numbers") = False := eq_false (by decide)
@[simp] theorem ne_useless_a : (("useless" : Str) = "a") = False := eq_false (by decide)
@[simp] theorem ne_useless_b : (("useless" : Str) = "b") = False := eq_false (by decide)
@[simp] theorem ne_useless_c : (("useless" : Str) = "c") = False := eq_false (by decide)
@[simp] theorem ne_useless_w : (("useless" : Str) = "w") = False := eq_false (by decide)
@[simp] theorem ne_useless_ab : (("useless" : Str) = "ab") = False := eq_false (by decide)
@[simp] theorem ne_useless_told : (("useless" : Str) = "told") = False := eq_false (by decide)
@[simp] theorem ne_numbers_own : (("numbers" : Str) = "own") = False := eq_false (by decide)
@[simp] theorem ne_numbers_hear : (("numbers" : Str) = "hear") = False := eq_false (by decide)
@[simp] theorem ne_numbers_come : (("numbers" : Str) = "come") = False := eq_false (by decide)
@[simp] theorem ne_numbers_row : (("numbers" : Str) = "row") = False := eq_false (by decide)
@[simp] theorem ne_numbers_heap : (("numbers" : Str) = "heap") = False := eq_false (by decide)
@[simp] theorem ne_numbers_way : (("numbers" : Str) = "way") = False := eq_false (by decide)
@[simp] theorem ne_numbers_line : (("numbers" : Str) = "line") = False := eq_false (by decide)
@[simp] theorem ne_numbers_useless : (("numbers" : Str) = "useless") = False := eq_false (by decide)
@[simp] theorem ne_numbers_a : (("numbers" : Str) = "a") = False := eq_false (by decide)
@[simp] theorem ne_numbers_b : (("numbers" : Str) = "b") = False := eq_false (by decide)
@[simp] theorem ne_numbers_c : (("numbers" : Str) = "c") = False := eq_false (by decide)
@[simp] theorem ne_numbers_w : (("numbers" : Str) = "w") = False := eq_false (by decide)
@[simp] theorem ne_numbers_ab : (("numbers" : Str) = "ab") = False := eq_false (by decide)
@[simp] theorem ne_numbers_told : (("numbers" : Str) = "told") = False := eq_false (by decide)
@[simp] theorem ne_a_own : (("a" : Str) = "own") = False := eq_false (by decide)
@[simp] theorem ne_a_hear : (("a" : Str) = "hear") = False := eq_false (by decide)
@[simp] theorem ne_a_come : (("a" : Str) = "come") = False := eq_false (by decide)
@[simp] theorem ne_a_row : (("a" : Str) = "row") = False := eq_false (by decide)
@[simp] theorem ne_a_heap : (("a" : Str) = "heap") = False := eq_false (by decide)
@[simp] theorem ne_a_way : (("a" : Str) = "way") = False := eq_false (by decide)
@[simp] theorem ne_a_line : (("a" : Str) = "line") = False := eq_false (by decide)
@[simp] theorem ne_a_useless : (("a" : Str) = "useless") = False := eq_false (by decide)
@[simp] theorem ne_a_numbers : (("a" : Str) = "numbers") = False := eq_false (by decide)
@[simp] theorem ne_a_b : (("a" : Str) = "b") = False := eq_false (by decide)
@[simp] theorem ne_a_c : (("a" : Str) = "c") = False := eq_false (by decide)
@[simp] theorem ne_a_w : (("a" : Str) = "w") = False := eq_false (by decide)
@[simp] theorem ne_a_ab : (("a" : Str) = "ab") = False := eq_false (by decide)
@[simp] theorem ne_a_told : (("a" : Str) = "told") = False := eq_false (by decide)
@[simp] theorem ne_b_own : (("b" : Str) = "own") = False := eq_false (by decide)
@[simp] theorem ne_b_hear : (("b" : Str) = "hear") = False := eq_false (by decide)
@[simp] theorem ne_b_come : (("b" : Str) = "come") = False := eq_false (by decide)
@[simp] theorem ne_b_row : (("b" : Str) = "row") = False := eq_false (by decide)
@[simp] theorem ne_b_heap : (("b" : Str) = "heap") = False := eq_false (by decide)
@[simp] theorem ne_b_way : (("b" : Str) = "way") = False := eq_false (by decide)
@[simp] theorem ne_b_line : (("b" : Str) = "line") = False := eq_false (by decide)
@[simp] theorem ne_b_useless : (("b" : Str) = "useless") = False := eq_false (by decide)
@[simp] theorem ne_b_numbers : (("b" : Str) = "numbers") = False := eq_false (by decide)
@[simp] theorem ne_b_a : (("b" : Str) = "a") = False := eq_false (by decide)
@[simp] theorem ne_b_c : (("b" : Str) = "c") = False := eq_false (by decide)
@[simp] theorem ne_b_w : (("b" : Str) = "w") = False := eq_false (by decide)
@[simp] theorem ne_b_ab : (("b" : Str) = "ab") = False := eq_false (by decide)
@[simp] theorem ne_b_told : (("b" : Str) = "told") = False := eq_false (by decide)
@[simp] theorem ne_c_own : (("c" : Str) = "own") = False := eq_false (by decide)
@[simp] theorem ne_c_hear : (("c" : Str) = "hear") = False := eq_false (by decide)
@[simp] theorem ne_c_come : (("c" : Str) = "come") = False := eq_false (by decide)
@[simp] theorem ne_c_row : (("c" : Str) = "row") = False := eq_false (by decide)
@[simp] theorem ne_c_heap : (("c" : Str) = "heap") = False := eq_false (by decide)
@[simp] theorem ne_c_way : (("c" : Str) = "way") = False := eq_false (by decide)
@[simp] theorem ne_c_line : (("c" : Str) = "line") = False := eq_false (by decide)
@[simp] theorem ne_c_useless : (("c" : Str) = "useless") = False := eq_false (by decide)
@[simp] theorem ne_c_numbers : (("c" : Str) = "numbers") = False := eq_false (by decide)
@[simp] theorem ne_c_a : (("c" : Str) = "a") = False := eq_false (by decide)
@[simp] theorem ne_c_b : (("c" : Str) = "b") = False := eq_false (by decide)
@[simp] theorem ne_c_w : (("c" : Str) = "w") = False := eq_false (by decide)
@[simp] theorem ne_c_ab : (("c" : Str) = "ab") = False := eq_false (by decide)
@[simp] theorem ne_c_told : (("c" : Str) = "told") = False := eq_false (by decide)
@[simp] theorem ne_w_own : (("w" : Str) = "own") = False := eq_false (by decide)
@[simp] theorem ne_w_hear : (("w" : Str) = "hear") = False := eq_false (by decide)
@[simp] theorem ne_w_come : (("w" : Str) = "come") = False := eq_false (by decide)
@[simp] theorem ne_w_row : (("w" : Str) = "row") = False := eq_false (by decide)
@[simp] theorem ne_w_heap : (("w" : Str) = "heap") = False := eq_false (by decide)
@[simp] theorem ne_w_way : (("w" : Str) = "way") = False := eq_false (by decide)
@[simp] theorem ne_w_line : (("w" : Str) = "line") = False := eq_false (by decide)
@[simp] theorem ne_w_useless : (("w" : Str) = "useless") = False := eq_false (by decide)
@[simp] theorem ne_w_numbers : (("w" : Str) = "numbers") = False := eq_false (by decide)
@[simp] theorem ne_w_a : (("w" : Str) = "a") = False := eq_false (by decide)
@[simp] theorem ne_w_b : (("w" : Str) = "b") = False := eq_false (by decide)
@[simp] theorem ne_w_c : (("w" : Str) = "c") = False := eq_false (by decide)
@[simp] theorem ne_w_ab : (("w" : Str) = "ab") = False := eq_false (by decide)
@[simp] theorem ne_w_told : (("w" : Str) = "told") = False := eq_false (by decide)
@[simp] theorem ne_ab_own : (("ab" : Str) = "own") = False := eq_false (by decide)
@[simp] theorem ne_ab_hear : (("ab" : Str) = "hear") = False := eq_false (by decide)
@[simp] theorem ne_ab_come : (("ab" : Str) = "come") = False := eq_false (by decide)
@[simp] theorem ne_ab_row : (("ab" : Str) = "row") = False := eq_false (by decide)
@[simp] theorem ne_ab_heap : (("ab" : Str) = "heap") = False := eq_false (by decide)
@[simp] theorem ne_ab_way : (("ab" : Str) = "way") = False := eq_false (by decide)
@[simp] theorem ne_ab_line : (("ab" : Str) = "line") = False := eq_false (by decide)
@[simp] theorem ne_ab_useless : (("ab" : Str) = "useless") = False := eq_false (by decide)
@[simp] theorem ne_ab_numbers : (("ab" : Str) = "numbers") = False := eq_false (by decide)
@[simp] theorem ne_ab_a : (("ab" : Str) = "a") = False := eq_false (by decide)
@[simp] theorem ne_ab_b : (("ab" : Str) = "b") = False := eq_false (by decide)
@[simp] theorem ne_ab_c : (("ab" : Str) = "c") = False := eq_false (by decide)
@[simp] theorem ne_ab_w : (("ab" : Str) = "w") = False := eq_false (by decide)
@[simp] theorem ne_ab_told : (("ab" : Str) = "told") = False := eq_false (by decide)
@[simp] theorem ne_told_own : (("told" : Str) = "own") = False := eq_false (by decide)
@[simp] theorem ne_told_hear : (("told" : Str) = "hear") = False := eq_false (by decide)
@[simp] theorem ne_told_come : (("told" : Str) = "come") = False := eq_false (by decide)
@[simp] theorem ne_told_row : (("told" : Str) = "row") = False := eq_false (by decide)
@[simp] theorem ne_told_heap : (("told" : Str) = "heap") = False := eq_false (by decide)
@[simp] theorem ne_told_way : (("told" : Str) = "way") = False := eq_false (by decide)
@[simp] theorem ne_told_line : (("told" : Str) = "line") = False := eq_false (by decide)
@[simp] theorem ne_told_useless : (("told" : Str) = "useless") = False := eq_false (by decide)
@[simp] theorem ne_told_numbers : (("told" : Str) = "numbers") = False := eq_false (by decide)
@[simp] theorem ne_told_a : (("told" : Str) = "a") = False := eq_false (by decide)
@[simp] theorem ne_told_b : (("told" : Str) = "b") = False := eq_false (by decide)
@[simp] theorem ne_told_c : (("told" : Str) = "c") = False := eq_false (by decide)
@[simp] theorem ne_told_w : (("told" : Str) = "w") = False := eq_false (by decide)
@[simp] theorem ne_told_ab : (("told" : Str) = "ab") = False := eq_false (by decide)
abbrev nD (n : Nat) : D := .int (n : Int)
/-- rows of choices -/
def rwD (r : Bool × List Nat) : D := if r.1 = true then .ftup (r.2.map nD) else .tup (r.2.map nD)
def choD (cs : List (Bool × List Nat)) : D := .tup (cs.map rwD)
@[simp] theorem seq_rw (r : Bool × List Nat) : seqD (rwD r) = some (r.2.map nD) := by
  unfold rwD; split <;> rfl
theorem seq_cases {d : D} {ds : List D} (h : seqD d = some ds) : d = .tup ds ∨ d = .ftup ds := by
  cases d <;> simp [seqD] at h <;> subst h <;> simp
theorem Fg.same {Q : D → Mu → Prop} {d : D} {μ : Mu} (h : Q d μ) : Fg Q d μ := ⟨μ, fun _ _ z => z, h⟩
theorem Fg.of {Q : D → Mu → Prop} {d : D} {μ μ' : Mu} (h : Q d μ) (e : ∀ a c, μ a = some c → μ' a = some c) : Fg Q d μ' := ⟨μ, e, h⟩
theorem ext0 {μ : Mu} : ∀ a d, μ a = some d → μ a = some d := fun _ _ e => e
theorem ext1 {μ μ' : Mu} {p : Addr} {c : C} (h : μ' p = none) (e : ∀ a d, μ a = some d → μ' a = some d) : ∀ a d, μ a = some d → updM μ' p c a = some d := fun a d z => by
  rw [updM_ne (mu_ne (e _ _ z) h)]; exact e _ _ z
theorem ext2 {μ μ' : Mu} {p : Addr} {c : C} (h : μ p = none) (e : ∀ a d, μ a = some d → μ' a = some d) : ∀ a d, μ a = some d → updM μ' p c a = some d := fun a d z => by
  rw [updM_ne (mu_ne z h)]; exact e _ _ z
theorem int_map (l : List Nat) : l.map nD = (l.map (fun n : Nat => (n : Int))).map D.int := by rw [List.map_map]; rfl
/-- floor_of -/
def floorL (row : List Nat) (n : Nat) : Nat := ((row.filter (· ≤ n)).max?).getD 0
theorem max_at {l : List Nat} {m : Int} (h1 : m ∈ l.map (fun n : Nat => (n : Int))) (h2 : ∀ y, y ∈ l.map (fun n : Nat => (n : Int)) → y ≤ m) : m = ((l.max?).getD 0 : Nat) := by
  obtain ⟨k, hk, rfl⟩ := List.mem_map.mp h1
  have : l.max? = some k := List.max?_eq_some_iff.mpr ⟨hk, fun b hb => by
    have := h2 b (List.mem_map.mpr ⟨b, hb, rfl⟩); omega⟩
  rw [this]; rfl
def G_floor_of : DRs := fun ds μ Q => ∃ r row n, ds = [r, nD n] ∧ seqD r = some (row.map nD) ∧ row.length ≤ sizeLine ∧ 0 ∈ row ∧ Q (nD (floorL row n)) μ
theorem d_floor_of (ds μ Q) (h : G_floor_of ds μ Q) : Body t_floor_of 3 ds μ Q := by
  obtain ⟨r, row, n, rfl, hr, hl, h0, q⟩ := h
  have key : lcLoop (fun x => True) (aName 2) (aTest (aOp rLe (aVar 2) (aVar 1))) (aVar 2) [some r, some (nD n), none] (row.map nD) [] μ fun ds μ1 =>
      ∃ ns, ds = List.map D.int ns ∧ 0 < ns.length ∧ ∀ (m : Int), m ∈ ns → (∀ (y : Int), y ∈ ns → y ≤ m) → Fg Q (D.int m) μ1 := by
    refine lc_map (fun x => decide (x ≤ n)) nD trivial (fun x hx Y N hy hn => ?_) hl ?_
    · by_cases h : x ≤ n <;> simp_all
    · refine ⟨_, int_map _, ?_, fun m h1 h2 => Fg.same ?_⟩
      · rw [List.length_map]; exact List.length_pos_of_mem (List.mem_filter.mpr ⟨h0, by simp⟩)
      · rw [max_at h1 h2]; exact q
  rcases seq_cases hr with rfl | rfl <;> simpa [Body, t_floor_of] using key
/-- next_of -/
def nextL (row : List Nat) (n : Nat) : Option Nat := (row.filter (n < ·)).head?
def oN (o : Option Nat) : D := match o with | none => .non | some n => nD n
def G_next_of : DRs := fun ds μ Q => ∃ r row n, ds = [r, nD n] ∧ seqD r = some (row.map nD) ∧ row.length ≤ sizeLine ∧ Q (oN (nextL row n)) μ
@[simp] theorem okDs_int (n : Nat) (l : List Nat) : okDs n (l.map nD) = true := by
  induction l with
  | nil => cases n <;> rfl
  | cons a r ih => cases n <;> simp_all [okDs, okD]
@[simp] theorem okDs_nil (n : Nat) : okDs n [] = true := by cases n <;> rfl
@[simp] theorem beqDs_nil0 : beqDs [] [] = true := rfl
@[simp] theorem beqDs_nil1 {a : D} {r : List D} : beqDs (a :: r) [] = false := rfl
theorem d_next_of (ds μ Q) (h : G_next_of ds μ Q) : Body t_next_of 4 ds μ Q := by
  obtain ⟨r, row, n, rfl, hr, hl, q⟩ := h
  have key : lcLoop (fun x => True) (aName 3) (aTest (aOp rGt (aVar 3) (aVar 1))) (aVar 3) [some r, some (nD n), none, none] (row.map nD) [] μ fun ds μ1 =>
      ∀ p, μ1 p = none → aSeq (aIfS (aTest (aOp (rEqq false) (aVar 2) (aNew aNil))) (aRet (aC .non)) aNext) (aRet (aOp rIxD (aVar 2) (aC (.int 0)))) { nx := fun _ μ' => Fg Q .non μ', rt := fun d μ' => Fg Q d μ' } [some r, some (nD n), some (.ref p), none] (updM μ1 p (.lst ds)) := by
    refine lc_map (fun x => decide (n < x)) nD trivial (fun x hx Y N hy hn => ?_) hl ?_
    · by_cases h : n < x <;> simp_all
    · intro p hp
      unfold nextL at q
      cases hf : row.filter (fun x => decide (n < x)) with
      | nil =>
        rw [hf] at q
        simp [lstOf]
        intro p2 h2
        have hne : p ≠ p2 := fun e => by subst e; simp at h2
        rw [updM_ne hne]
        simp [lstOf]
        exact Fg.of q (ext1 h2 (ext1 hp ext0))
      | cons a l =>
        rw [hf] at q
        have o1 : okDs 20 (nD a :: l.map nD) = true := okDs_int 20 (a :: l)
        simp [lstOf]
        intro p2 h2
        have hne : p ≠ p2 := fun e => by subst e; simp at h2
        rw [updM_ne hne]
        simp [lstOf, o1, updM_ne hne]
        exact Fg.of q (ext1 h2 (ext1 hp ext0))
  rcases seq_cases hr with rfl | rfl <;> simpa [Body, t_next_of] using key
end Cs

/-! ## CsB -/
namespace Cs
open PySem PySem.Spec PyProof.Rows L2 Dl
/-! ### the things -/
structure Mv where
  st : Nat
  ca : Str
  af : Nat
  se : List (Nat × Str)
  wd : Option Str
structure Rt where
  one : Nat
  other : Nat
  ord : Str
structure Fm where
  rules : List (Nat × List Mv)
  roads : List Rt
structure Sd where
  st : List Nat
  ld : List (Nat × List (Nat × Str))
inductive Dd where
  | own (m : Nat) | hear (m : Nat) (c : Str) | come (r n : Nat)
  deriving DecidableEq
def wdD : Option Str → D
  | none => .non
  | some w => .str w
def seD (p : Nat × Str) : D := .tup [nD p.1, .str p.2]
def mvD (v : Mv) : D := .tup [nD v.st, .str v.ca, nD v.af, .tup (v.se.map seD), wdD v.wd]
def rlD (r : Nat × List Mv) : D := .tup [nD r.1, .tup (r.2.map mvD)]
def rtD (r : Rt) : D := .tup [nD r.one, nD r.other, .str r.ord]
def fmD (f : Fm) : D := .tup [.tup (f.rules.map rlD), .tup (f.roads.map rtD)]
def ldD (l : Nat × List (Nat × Str)) : D := .tup [nD l.1, .tup (l.2.map seD)]
def sdD (s : Sd) : D := .tup [.tup (s.st.map nD), .tup (s.ld.map ldD)]
def ddD : Dd → D
  | .own m => .tup [.str "own", nD m]
  | .hear m c => .tup [.str "hear", nD m, .str c]
  | .come r n => .tup [.str "come", nD r, nD n]
def isS (c : Str) : Prop := c = "a" ∨ c = "b" ∨ c = "c"
/-! ### forms -/
def G_is_whole : DRs := fun ds μ Q => match ds with
  | [.int i] => Q (.bl true) μ
  | _ => False
theorem d_is_whole (ds μ Q) (h : G_is_whole ds μ Q) : Body t_is_whole 1 ds μ Q := by
  unfold G_is_whole at h
  split at h <;> try exact h.elim
  have q := h
  rename_i i
  simp [Body, t_is_whole, isLC, tyD]
  exact Fg.same q
def G_is_within : DRs := fun ds μ Q => match ds with
  | [.int i, .int a, .int b] => Q (.bl (decide (a ≤ i) && decide (i ≤ b))) μ
  | _ => False
theorem d_is_within (ds μ Q) (h : G_is_within ds μ Q) : Body (t_is_within G_is_whole) 3 ds μ Q := by
  unfold G_is_within at h
  split at h <;> try exact h.elim
  have q := h
  rename_i i a b
  simp [Body, t_is_within, G_is_whole]
  have q := Fg.same q
  by_cases h : a ≤ i
  · simp_all
  · have h' : i < a := by omega
    simp_all
def G_is_word : DRs := fun ds μ Q => match ds with
  | [.str c] => isS c ∧ Q (.bl true) μ
  | _ => False
theorem isS_cases {c : Str} (h : isS c) : ∃ x, (x = 97 ∨ x = 98 ∨ x = 99) ∧ c = ⟨#[x]⟩ := by
  rcases h with rfl | rfl | rfl
  · exact ⟨97, .inl rfl, by decide⟩
  · exact ⟨98, .inr (.inl rfl), by decide⟩
  · exact ⟨99, .inr (.inr rfl), by decide⟩
theorem in_letters {x : Nat} (h : x = 97 ∨ x = 98 ∨ x = 99) : decide (x ∈ (Str.ofString "abcdefghijklmnopqrstuvwxyz").cps.toList) = true := by
  rcases h with rfl | rfl | rfl <;> decide
theorem d_is_word (ds μ Q) (h : G_is_word ds μ Q) : Body t_is_word 2 ds μ Q := by
  unfold G_is_word at h
  split at h <;> try exact h.elim
  obtain ⟨hc, q⟩ := h
  obtain ⟨x, hx, rfl⟩ := isS_cases hc
  have hl := in_letters hx
  have l1 : ({ cps := #[x] } : Str).length = 1 := rfl
  have s1 : 1 ≤ sizeLine := sl1000 (by omega)
  have q := Fg.same q
  simp [Body, t_is_word, isLC, tyD, l1, s1, sgD, lcLoop]
  refine ⟨by omega, [true], ?_, q⟩
  have : x ∈ (Str.ofString "abcdefghijklmnopqrstuvwxyz").cps := by simpa using hl
  simp [this]
def G_is_sign : DRs := fun ds μ Q => match ds with
  | [.str c] => isS c ∧ Q (.bl true) μ
  | _ => False
theorem d_is_sign (ds μ Q) (h : G_is_sign ds μ Q) : Body (t_is_sign G_is_word) 1 ds μ Q := by
  unfold G_is_sign at h
  split at h <;> try exact h.elim
  obtain ⟨hc, q⟩ := h
  obtain ⟨x, hx, rfl⟩ := isS_cases hc
  have l1 : ({ cps := #[x] } : Str).length = 1 := rfl
  have s1 : 1 ≤ sizeLine := sl1000 (by omega)
  have q := Fg.same q
  simp [Body, t_is_sign, G_is_word, l1, s1, hc, q]
def G_is_tuple : DRs := fun ds μ Q => match ds with
  | [.tup es, .int n] => Q (.bl ((es.length : Int) == n)) μ
  | _ => False
theorem d_is_tuple (ds μ Q) (h : G_is_tuple ds μ Q) : Body t_is_tuple 2 ds μ Q := by
  unfold G_is_tuple at h
  split at h <;> try exact h.elim
  have q := h
  rename_i es n
  have q := Fg.same q
  simp [Body, t_is_tuple, isLC, tyD]
  exact q
/-! ### answers -/
abbrev Ans := Nat × List (Nat × Str) × Option Str
def asD (a : Ans) : D := .tup [nD a.1, .tup (a.2.1.map seD), wdD a.2.2]
def oaD : Option Ans → D
  | none => .non
  | some a => asD a
def ansL : List Mv → Nat → Str → Option Ans
  | [], st, ca => if ca = "own" then none else some (st, [], none)
  | v :: l, st, ca => if v.st = st ∧ v.ca = ca then some (v.af, v.se, v.wd) else ansL l st ca
def G_answer : DRs := fun ds μ Q => ∃ f m r st ca, ds = [fmD f, nD m, nD st, .str ca] ∧ f.rules[m]? = some r ∧ Q (oaD (ansL r.2 st ca)) μ
@[simp] theorem beq_nat (a b : Nat) : ((a : Int) == (b : Int)) = (a == b) := by
  by_cases h : a = b
  · subst h; rw [beq_self_eq_true, beq_self_eq_true]
  · rw [beq_eq_false_iff_ne.mpr h, beq_eq_false_iff_ne.mpr (fun z => h (by omega))]
theorem d_answer (ds μ Q) (h : G_answer ds μ Q) : Body t_answer 5 ds μ Q := by
  obtain ⟨f, m, r, st, ca, rfl, hm, q⟩ := h
  have q := Fg.same q
  simp [Body, t_answer, fmD, hm, rlD]
  refine for_map (fun l ρ μ' => (∃ x, ρ = [some (.tup [.tup (f.rules.map rlD), .tup (f.roads.map rtD)]), some (nD m), some (nD st), some (.str ca), x]) ∧ μ' = μ ∧ ansL l st ca = ansL r.2 st ca) ?_ ?_ ⟨⟨_, rfl⟩, rfl, rfl⟩
  · rintro v l ρ μ' N ⟨⟨x, rfl⟩, rfl, e⟩ hN
    rw [← e] at q
    simp [mvD]
    by_cases h : v.st = st ∧ v.ca = ca
    · simp [ansL, h] at q
      simp [h]
      exact q
    · simp only [ansL, h, if_false] at e
      by_cases h1 : v.st = st
      · have h2 : v.ca ≠ ca := fun z => h ⟨h1, z⟩
        simp [h1, h2]; exact hN _ _ trivial ⟨⟨_, rfl⟩, rfl, e⟩
      · simp [h1]; exact hN _ _ trivial ⟨⟨_, rfl⟩, rfl, e⟩
  · rintro ρ μ' ⟨⟨x, rfl⟩, rfl, e⟩
    rw [← e] at q
    by_cases h : ca = "own"
    · simp [ansL, h] at q ⊢; exact q
    · simp [ansL, h] at q ⊢; exact q

/-! ### is_plain, machine_of, cause_of -/
/-- a deed that may be asked of -/
def okDd (f : Fm) : Dd → Prop
  | .own m => m < f.rules.length
  | .hear m c => m < f.rules.length ∧ isS c
  | .come r n => r < f.roads.length
def G_is_plain : DRs := fun ds μ Q => ∃ f d, ds = [fmD f, ddD d] ∧ okDd f d ∧ Q (.bl true) μ
theorem d_is_plain (ds μ Q) (h : G_is_plain ds μ Q) : Body (t_is_plain G_is_within G_is_sign G_is_tuple G_is_whole) 2 ds μ Q := by
  obtain ⟨f, d, rfl, ok, q⟩ := h
  have q := Fg.same q
  cases d with
  | own m =>
    have ok : m < f.rules.length := ok
    have h1 : (m : Int) ≤ f.rules.length - 1 := by omega
    simp [Body, t_is_plain, fmD, ddD, isLC, tyD, G_is_within, h1]
    exact q
  | hear m c =>
    obtain ⟨ok, hc⟩ := ok
    have h1 : (m : Int) ≤ f.rules.length - 1 := by omega
    simp [Body, t_is_plain, fmD, ddD, isLC, tyD, G_is_within, G_is_sign, h1, hc]
    exact .inr q
  | come r n =>
    have ok : r < f.roads.length := ok
    have h1 : (r : Int) ≤ f.roads.length - 1 := by omega
    simp [Body, t_is_plain, fmD, ddD, isLC, tyD, G_is_within, G_is_tuple, G_is_whole, h1]
    exact .inr q
/-- whose deed it is -/
def ofDd (f : Fm) : Dd → Nat
  | .own m => m
  | .hear m _ => m
  | .come r _ => match f.roads[r]? with | some t => t.other | none => 0
def G_machine_of : DRs := fun ds μ Q => ∃ f d, ds = [fmD f, ddD d] ∧ okDd f d ∧ Q (nD (ofDd f d)) μ
theorem d_machine_of (ds μ Q) (h : G_machine_of ds μ Q) : Body t_machine_of 2 ds μ Q := by
  obtain ⟨f, d, rfl, ok, q⟩ := h
  have q := Fg.same q
  cases d with
  | own m => simp [Body, t_machine_of, fmD, ddD]; exact q
  | hear m c => simp [Body, t_machine_of, fmD, ddD]; exact q
  | come r n =>
    have ok : r < f.roads.length := ok
    have e := List.getElem?_eq_getElem ok
    simp only [ofDd, e] at q
    simp [Body, t_machine_of, fmD, ddD, e, rtD]; exact q
def G_waits : DRs := fun ds μ Q => ∃ s r l, ds = [sdD s, nD r] ∧ s.ld[r]? = some l ∧ ∀ p, μ p = none → Q (.ref p) (updM μ p (.lst (l.2.map seD)))
theorem d_waits (ds μ Q) (h : G_waits ds μ Q) : Body t_waits 2 ds μ Q := by
  obtain ⟨s, r, l, rfl, e, q⟩ := h
  simp [Body, t_waits, sdD, e, ldD]
  exact fun p hp => Fg.same (q p hp)
theorem u_waits {s r l μ Q} (h : s.ld[r]? = some l) (q : ∀ p, μ p = none → Q (.ref p) (updM μ p (.lst (l.2.map seD)))) : G_waits [sdD s, nD r] μ Q := ⟨s, r, l, rfl, h, q⟩
theorem u_answer {f m r st ca μ Q} (h : (Fm.rules f)[m]? = some r) (q : Q (oaD (ansL r.2 st ca)) μ) : G_answer [fmD f, nD m, nD st, .str ca] μ Q := ⟨f, m, r, st, ca, rfl, h, q⟩
theorem u_machine_of {f d μ Q} (h : okDd f d) (q : Q (nD (ofDd f d)) μ) : G_machine_of [fmD f, ddD d] μ Q := ⟨f, d, rfl, h, q⟩
theorem u_is_plain {f d μ Q} (h : okDd f d) (q : Q (.bl true) μ) : G_is_plain [fmD f, ddD d] μ Q := ⟨f, d, rfl, h, q⟩
def isRow (t : Rt) : Bool := t.ord == "row"
/-- the cause of a deed -/
def causeL (f : Fm) (s : Sd) : Dd → Option Str
  | .own _ => some "own"
  | .hear _ c => some c
  | .come r n => match f.roads[r]?, s.ld[r]? with
    | some t, some l => (((if isRow t then l.2.take 1 else l.2).find? fun x => x.1 == n).map (·.2))
    | _, _ => none
def osD (o : Option Str) : D := match o with | none => .non | some c => .str c
def G_cause_of : DRs := fun ds μ Q => ∃ f s d, ds = [fmD f, sdD s, ddD d] ∧ okDd f d ∧ s.ld.length = f.roads.length ∧ Q (osD (causeL f s d)) μ
theorem cutA_take {α : Type} (l : List α) (k : Nat) : cutA l none (some (k : Int)) = l.take k := by
  unfold cutA
  rw [HT.sIx_none, HT.sIx_nat, List.drop_zero, Nat.sub_zero, List.take_eq_take_iff]
  omega
theorem d_cause_of (ds μ Q) (h : G_cause_of ds μ Q) : Body (t_cause_of G_waits) 6 ds μ Q := by
  obtain ⟨f, s, d, rfl, ok, hl, q⟩ := h
  cases d with
  | own m => have q := Fg.same q; simp [Body, t_cause_of, fmD, ddD]; exact q
  | hear m c => have q := Fg.same q; simp [Body, t_cause_of, fmD, ddD]; exact q
  | come r n =>
    have ok : r < f.roads.length := ok
    have e := List.getElem?_eq_getElem ok
    have e2 := List.getElem?_eq_getElem (show r < s.ld.length by omega)
    simp only [causeL, e, e2] at q
    generalize f.roads[r] = t at e q
    generalize s.ld[r] = l at e2 q
    have key : ∀ (ws : List (Nat × Str)) (p : Addr) (μ' : Mu) (x4 x5 : Option D), (∀ a c, μ a = some c → μ' a = some c) → μ' p = some (.lst (ws.map seD)) → (ws.find? fun x => x.1 == n).map (·.2) = ((if isRow t then l.2.take 1 else l.2).find? fun x => x.1 == n).map (·.2) →
       aSeq (aFor (aSeqI (aVar 3)) (aTupG 2 (gConsD (aName 4) (gConsD (aName 5) gNilD))) (aIfS (aTest (aOp (rEqq false) (aVar 4) (aOp rIxD (aVar 2) (aC (.int 2))))) (aRet (aVar 5)) aNext)) (aRet (aC .non)) { nx := fun _ μ' => Fg Q .non μ', rt := fun d μ' => Fg Q d μ' } [some (fmD f), some (sdD s), some (ddD (.come r n)), some (.ref p), x4, x5] μ' := by
      intro ws p μ' x4 x5 hμ hp he
      simp [hp]
      refine for_map (fun l' ρ μ2 => (∃ x y, ρ = [some (fmD f), some (sdD s), some (ddD (.come r n)), some (.ref p), x, y]) ∧ μ2 = μ' ∧ (l'.find? fun x => x.1 == n).map (·.2) = (ws.find? fun x => x.1 == n).map (·.2)) ?_ ?_ ⟨⟨_, _, rfl⟩, rfl, rfl⟩
      · rintro ⟨k, c⟩ l' ρ μ2 N ⟨⟨x, y, rfl⟩, rfl, e⟩ hN
        by_cases h : k = n
        · subst h
          rw [List.find?_cons_of_pos (by simp)] at e
          rw [← he, ← e] at q
          simp [seD, ddD]
          exact Fg.of q hμ
        · rw [List.find?_cons_of_neg (by simpa using h)] at e
          simp [seD, ddD, h]
          exact hN _ _ hp ⟨⟨_, _, rfl⟩, rfl, e⟩
      · rintro ρ μ2 ⟨⟨x, y, rfl⟩, rfl, e⟩
        rw [← he, ← e] at q
        simp
        exact Fg.of q hμ
    simp [-Bool.exists_bool, Body, t_cause_of, ddD]
    refine u_waits (s := s) (r := r) e2 fun p hp => ?_
    simp [-Bool.exists_bool, fmD, e, rtD]
    unfold isRow at key
    by_cases h : t.ord = "row"
    · simp [h, lstOf]
      intro p2 h2
      rw [show (some (1 : Int)) = some ((1 : Nat) : Int) from rfl, cutA_take, ← List.map_take]
      simp [h] at key
      have := key (l.2.take 1) p2 (updM (updM μ p (.lst (l.2.map seD))) p2 (.lst ((l.2.take 1).map seD))) none none (ext1 h2 (ext1 hp ext0)) updM_same rfl
      simpa [ddD, fmD] using this
    · simp [h]
      simp [h] at key
      have := key l.2 p _ none none (ext1 hp ext0) updM_same rfl
      simpa [ddD, fmD] using this
end Cs

/-! ## CsC -/
namespace Cs
open PySem PySem.Spec PyProof.Rows L2 Dl
structure OkS (f : Fm) (s : Sd) : Prop where
  st : s.st.length = f.rules.length
  ld : s.ld.length = f.roads.length
  rt : ∀ t ∈ f.roads, t.other < f.rules.length
  r1 : f.rules.length ≤ 10
  r2 : f.roads.length ≤ 10
theorem of_lt {f : Fm} {s : Sd} {d : Dd} (o : OkS f s) (h : okDd f d) : ofDd f d < f.rules.length := by
  cases d with
  | own m => exact h
  | hear m c => exact h.1
  | come r n =>
    have h : r < f.roads.length := h
    simp only [ofDd, List.getElem?_eq_getElem h]
    exact o.rt _ (List.getElem_mem h)
def ansdL (f : Fm) (s : Sd) (d : Dd) : Option Ans := match causeL f s d with
  | none => none
  | some c => match f.rules[ofDd f d]?, s.st[ofDd f d]? with
    | some r, some st => ansL r.2 st c
    | _, _ => none
theorem u_cause_of {f s d μ Q} (h : okDd f d) (o : OkS f s) (q : Q (osD (causeL f s d)) μ) : G_cause_of [fmD f, sdD s, ddD d] μ Q := ⟨f, s, d, rfl, h, o.ld, q⟩
@[simp] theorem osD_some {c : Str} : osD (some c) = .str c := rfl
@[simp] theorem osD_none : osD none = .non := rfl
@[simp] theorem oaD_none : oaD none = .non := rfl
@[simp] theorem oaD_some {a : Ans} : oaD (some a) = asD a := rfl
def G_answered : DRs := fun ds μ Q => ∃ f s d, ds = [fmD f, sdD s, ddD d] ∧ okDd f d ∧ OkS f s ∧ Q (oaD (ansdL f s d)) μ
theorem u_answered {f s d μ Q} (h : okDd f d) (o : OkS f s) (q : Q (oaD (ansdL f s d)) μ) : G_answered [fmD f, sdD s, ddD d] μ Q := ⟨f, s, d, rfl, h, o, q⟩
theorem d_answered (ds μ Q) (h : G_answered ds μ Q) : Body (t_answered G_cause_of G_machine_of G_answer) 5 ds μ Q := by
  obtain ⟨f, s, d, rfl, hd, o, q⟩ := h
  have q := Fg.same q
  unfold ansdL at q
  simp [-Bool.exists_bool, -Prod.exists, Body, t_answered]
  refine u_cause_of hd o ?_
  cases hc : causeL f s d with
  | none =>
    rw [hc] at q
    simp at q
    simpa using q
  | some c =>
    rw [hc] at q
    simp [-Bool.exists_bool, -Prod.exists]
    refine u_machine_of hd ?_
    have hm := of_lt o hd
    have e1 := List.getElem?_eq_getElem hm
    have e2 := List.getElem?_eq_getElem (show ofDd f d < s.st.length by rw [o.st]; exact hm)
    rw [e1, e2] at q
    simp [-Bool.exists_bool, -Prod.exists, sdD, e2]
    exact u_answer e1 q
def canL (f : Fm) (s : Sd) (d : Dd) : Bool := (ansdL f s d).isSome
def G_can : DRs := fun ds μ Q => ∃ f s d, ds = [fmD f, sdD s, ddD d] ∧ okDd f d ∧ OkS f s ∧ Q (.bl (canL f s d)) μ
theorem u_can {f s d μ Q} (h : okDd f d) (o : OkS f s) (q : Q (.bl (canL f s d)) μ) : G_can [fmD f, sdD s, ddD d] μ Q := ⟨f, s, d, rfl, h, o, q⟩
theorem d_can (ds μ Q) (h : G_can ds μ Q) : Body (t_can G_is_plain G_answered) 3 ds μ Q := by
  obtain ⟨f, s, d, rfl, hd, o, q⟩ := h
  have q := Fg.same q
  unfold canL at q
  simp [-Bool.exists_bool, -Prod.exists, Body, t_can]
  refine u_is_plain hd ?_
  simp [-Bool.exists_bool, -Prod.exists]
  refine u_answered hd o ?_
  cases h : ansdL f s d with
  | none => rw [h] at q; simpa using q
  | some a => rw [h] at q; simpa [asD] using q
/-! ### loads -/
theorem cutA_drop {α : Type} (l : List α) (k : Nat) (h : k ≤ l.length) : cutA l (some (k : Int)) none = l.drop k := by
  unfold cutA
  rw [HT.sIx_none, HT.sIx_nat, Nat.min_eq_left h]
  exact List.take_of_length_le (by rw [List.length_drop]; omega)
theorem cutA_drop1 {α : Type} (l : List α) (k : Nat) (h : k < l.length) : cutA l (some ((k : Int) + 1)) none = l.drop (k + 1) := cutA_drop l (k + 1) h
theorem cut_set {α : Type} {l : List α} {r : Nat} {x : α} (h : r < l.length) : cutA l none (some (r : Int)) ++ x :: cutA l (some ((r : Int) + 1)) none = l.set r x := by
  rw [cutA_take, cutA_drop1 l r h, List.set_eq_take_append_cons_drop, if_pos h]
theorem cut_len {α : Type} {l : List α} {r : Nat} (h : r < l.length) : (cutA l none (some (r : Int))).length = r ∧ (cutA l (some ((r : Int) + 1)) none).length = l.length - (r + 1) := by
  rw [cutA_take, cutA_drop1 l r h, List.length_drop, List.length_take]
  omega
abbrev Ld := Nat × List (Nat × Str)
def takeOne (ld : List Ld) (r n : Nat) : List Ld := match ld[r]? with
  | some l => ld.set r (l.1, l.2.filter fun x => x.1 != n)
  | none => ld
def ldsD (ld : List Ld) : D := .tup (ld.map ldD)
def G_taken_out : DRs := fun ds μ Q => ∃ (ld : List Ld) (r n : Nat), ds = [ldsD ld, nD r, nD n] ∧ r < ld.length ∧ ld.length ≤ sizeLine ∧ (∀ l ∈ ld, l.2.length ≤ sizeLine) ∧ Q (ldsD (takeOne ld r n)) μ
theorem u_taken_out {ld : List Ld} {r n μ Q} (h : r < ld.length) (h1 : ld.length ≤ sizeLine) (h2 : ∀ l ∈ ld, l.2.length ≤ sizeLine) (q : Q (ldsD (takeOne ld r n)) μ) : G_taken_out [ldsD ld, nD r, nD n] μ Q := ⟨ld, r, n, rfl, h, h1, h2, q⟩
theorem d_taken_out (ds μ Q) (h : G_taken_out ds μ Q) : Body t_taken_out 7 ds μ Q := by
  obtain ⟨ld, r, n, rfl, hr, hl, hw, q⟩ := h
  have q := Fg.same q
  have e := List.getElem?_eq_getElem hr
  have hw0 := hw _ (List.getElem_mem hr)
  unfold takeOne at q
  rw [e] at q
  generalize ld[r] = l at e hw0 q
  simp [-Bool.exists_bool, -Prod.exists, Body, t_taken_out, ldsD, e, ldD]
  refine lc_map (fun x => x.1 != n) seD trivial (fun x hx Y N hy hn => ?_) hw0 ?_
  · by_cases h : x.1 = n
    · simp [h] at hy hn
      simp [seD, h]
      exact hn
    · simp [h] at hy hn
      simp [seD, h]
      exact hy
  · have hr' : r < (ld.map ldD).length := by rw [List.length_map]; exact hr
    obtain ⟨c1, c2⟩ := cut_len hr'
    have c3 := cut_set (x := ldD (l.1, l.2.filter fun x => x.1 != n)) hr'
    rw [List.length_map] at c2
    simp [-Bool.exists_bool, -Prod.exists, c1, c2]
    refine ⟨by omega, by omega, ?_⟩
    rw [← List.map_set] at c3
    show Fg Q (.tup (_ ++ ldD (l.1, l.2.filter fun x => x.1 != n) :: _)) μ
    rw [c3]
    exact q
def sendOne (ld : List Ld) (x : Nat × Str) : List Ld := match ld[x.1]? with
  | some l => ld.set x.1 (l.1 + 1, l.2 ++ [(l.1, x.2)])
  | none => ld
theorem sendOne_len (ld : List Ld) (x : Nat × Str) : (sendOne ld x).length = ld.length := by
  unfold sendOne; split <;> simp
theorem takeOne_len (ld : List Ld) (r n : Nat) : (takeOne ld r n).length = ld.length := by
  unfold takeOne; split <;> simp
theorem mem_set' {α : Type} {l : List α} {i : Nat} {a b : α} (h : b ∈ l.set i a) : b = a ∨ b ∈ l := by
  rcases List.mem_or_eq_of_mem_set h with h | h
  · exact .inr h
  · exact .inl h
theorem sendOne_b {ld : List Ld} {x : Nat × Str} {k : Nat} (h : ∀ l ∈ ld, l.2.length ≤ k) : ∀ l ∈ sendOne ld x, l.2.length ≤ k + 1 := by
  unfold sendOne
  split
  · rename_i l e
    intro m hm
    rcases mem_set' hm with rfl | hm
    · have := h l (List.mem_of_getElem? e)
      simp; exact this
    · have := h m hm; omega
  · intro m hm; have := h m hm; omega
theorem takeOne_b {ld : List Ld} {r n : Nat} {k : Nat} (h : ∀ l ∈ ld, l.2.length ≤ k) : ∀ l ∈ takeOne ld r n, l.2.length ≤ k := by
  unfold takeOne
  split
  · rename_i l e
    intro m hm
    rcases mem_set' hm with rfl | hm
    · have := h l (List.mem_of_getElem? e)
      have := List.length_filter_le (fun x : Nat × Str => x.1 != n) l.2
      show (l.2.filter _).length ≤ k
      omega
    · exact h m hm
  · exact h
def G_sent_out : DRs := fun ds μ Q => ∃ (ld : List Ld) (se : List (Nat × Str)), ds = [ldsD ld, .tup (se.map seD)] ∧ ld.length ≤ sizeLine ∧ (∀ x ∈ se, x.1 < ld.length) ∧ (∀ l ∈ ld, l.2.length ≤ 1000) ∧ se.length ≤ 1000 ∧ Q (ldsD (se.foldl sendOne ld)) μ
theorem u_sent_out {ld : List Ld} {se : List (Nat × Str)} {μ Q} (h : ld.length ≤ sizeLine) (h1 : ∀ x ∈ se, x.1 < ld.length) (h2 : ∀ l ∈ ld, l.2.length ≤ 1000) (h3 : se.length ≤ 1000) (q : Q (ldsD (se.foldl sendOne ld)) μ) : G_sent_out [ldsD ld, .tup (se.map seD)] μ Q := ⟨ld, se, rfl, h, h1, h2, h3, q⟩
theorem d_sent_out (ds μ Q) (h : G_sent_out ds μ Q) : Body t_sent_out 6 ds μ Q := by
  obtain ⟨ld, se, rfl, hl, hr, hw, hs, q⟩ := h
  have q := Fg.same q
  simp [-Bool.exists_bool, -Prod.exists, Body, t_sent_out]
  refine for_map (fun r ρ μ' => ∃ ld' x y z u, ρ = [some (ldsD ld'), some (.tup (se.map seD)), x, y, z, u] ∧ μ' = μ ∧ r.foldl sendOne ld' = se.foldl sendOne ld ∧ ld'.length = ld.length ∧ (∀ x ∈ r, x.1 < ld.length) ∧ ∀ l ∈ ld', l.2.length + r.length ≤ 2000) ?_ ?_ ⟨ld, _, _, _, _, rfl, rfl, rfl, rfl, hr, fun l hm => by have := hw l hm; omega⟩
  · rintro ⟨r, c⟩ t ρ μ' N ⟨ld', x, y, z, u, rfl, rfl, e, hl', hr', hb⟩ hN
    have hr2 : r < ld'.length := by rw [hl']; exact hr' (r, c) List.mem_cons_self
    have e2 := List.getElem?_eq_getElem hr2
    have hb2 := hb _ (List.getElem_mem hr2)
    rw [List.foldl_cons] at e
    have e3 : sendOne ld' (r, c) = ld'.set r (ld'[r].1 + 1, ld'[r].2 ++ [(ld'[r].1, c)]) := by unfold sendOne; rw [show ld'[(r, c).1]? = _ from e2]
    have hb3 : ∀ l ∈ sendOne ld' (r, c), l.2.length + t.length ≤ 2000 := by
      have := sendOne_b (ld := ld') (x := (r, c)) (k := 2000 - (t.length + 1)) (fun l hm => by have := hb l hm; rw [List.length_cons] at this; omega)
      rw [List.length_cons] at hb2
      intro l hm
      have := this l hm
      omega
    generalize ld'[r] = l at e2 hb2 e3
    have hr3 : r < (ld'.map ldD).length := by rw [List.length_map]; exact hr2
    obtain ⟨c1, c2⟩ := cut_len hr3
    have c3 := cut_set (x := ldD (l.1 + 1, l.2 ++ [(l.1, c)])) hr3
    rw [← List.map_set, ← e3] at c3
    rw [List.length_map] at c2
    have hz : 3000 ≤ sizeLine := by decide
    rw [List.length_cons] at hb2
    simp [-Bool.exists_bool, -Prod.exists, seD, ldsD, e2, ldD, c1, c2]
    refine ⟨by omega, by omega, by omega, ?_⟩
    rw [show (D.tup [.int ((l.1 : Int) + 1), D.tup (l.2.map seD ++ [D.tup [nD l.1, .str c]])]) = ldD (l.1 + 1, l.2 ++ [(l.1, c)]) by simp [ldD, seD]]
    rw [c3]
    exact hN _ _ trivial ⟨sendOne ld' (r, c), _, _, _, _, rfl, rfl, e, by rw [sendOne_len]; exact hl', fun x hx => hr' x (List.mem_cons_of_mem _ hx), hb3⟩
  · rintro ρ μ' ⟨ld', x, y, z, u, rfl, rfl, e, hl', hr', hb⟩
    rw [← e] at q
    simpa using q
end Cs

/-! ## CsD -/
namespace Cs
open PySem PySem.Spec PyProof.Rows L2 Dl
/-! ### done -/
def afterTake (ld : List Ld) : Dd → List Ld
  | .come r n => takeOne ld r n
  | _ => ld
def doneS (f : Fm) (s : Sd) (d : Dd) : Sd × Option (Nat × Str) := match ansdL f s d with
  | some a => (⟨s.st.set (ofDd f d) a.1, a.2.1.foldl sendOne (afterTake s.ld d)⟩, a.2.2.map fun w => (ofDd f d, w))
  | none => (s, none)
def toD : Option (Nat × Str) → D
  | none => .non
  | some p => seD p
structure Good (f : Fm) (s : Sd) (d : Dd) : Prop where
  o : OkS f s
  ok : okDd f d
  can : (ansdL f s d).isSome = true
  sends : ∀ a, ansdL f s d = some a → (∀ x ∈ a.2.1, x.1 < f.roads.length) ∧ a.2.1.length ≤ 2
  few : ∀ l ∈ s.ld, l.2.length ≤ 100
  big : ∀ l ∈ s.ld, l.1 ≤ 2000000
def dnD (r : Sd × Option (Nat × Str)) : D := .tup [sdD r.1, toD r.2]
def G_done : DRs := fun ds μ Q => ∃ f s d, ds = [fmD f, sdD s, ddD d] ∧ Good f s d ∧ Q (dnD (doneS f s d)) μ
theorem u_done {f s d μ Q} (g : Good f s d) (q : Q (dnD (doneS f s d)) μ) : G_done [fmD f, sdD s, ddD d] μ Q := ⟨f, s, d, rfl, g, q⟩
theorem d_done (ds μ Q) (h : G_done ds μ Q) : Body (t_done G_can G_answered G_machine_of G_taken_out G_sent_out) 10 ds μ Q := by
  obtain ⟨f, s, d, rfl, g, q⟩ := h
  have q := Fg.same q
  obtain ⟨a, ha⟩ := Option.isSome_iff_exists.mp g.can
  obtain ⟨se1, se2⟩ := g.sends a ha
  simp only [doneS, ha] at q
  have hc : canL f s d = true := g.can
  have hm : ofDd f d < s.st.length := by rw [g.o.st]; exact of_lt g.o g.ok
  have hz : 3000 ≤ sizeLine := by decide
  have hr3 : ofDd f d < (s.st.map nD).length := by rw [List.length_map]; exact hm
  obtain ⟨c1, c2⟩ := cut_len hr3
  have c3 := cut_set (x := nD a.1) hr3
  rw [← List.map_set] at c3
  rw [List.length_map] at c2
  have hl0 := g.o.st
  have hl1 := g.o.ld
  have hl2 := g.o.r1
  have hl3 := g.o.r2
  have tail : ∀ (μ' : Mu) (lds : List Ld), μ' = μ → lds = afterTake s.ld d → lds.length = s.ld.length → (∀ l ∈ lds, l.2.length ≤ 1000) →
      aSeq (aAsg (aC .non) (aName 9)) (aSeq (aIfS (aTest (aOp (rIs true) (aVar 5) (aC .non))) (aAsg (aTup (aCons (aVar 6) (aCons (aVar 5) aNil))) (aName 9)) aNext)
        (aRet (aTup (aCons (aTup (aCons (aVar 7) (aCons (aCall G_sent_out (aCons (aVar 8) (aCons (aVar 4) aNil))) aNil))) (aCons (aVar 9) aNil))))) { nx := fun _ μ' => Fg Q .non μ', rt := fun d μ' => Fg Q d μ' }
        [some (fmD f), some (sdD s), some (ddD d), some (nD a.1), some (.tup (a.2.1.map seD)), some (wdD a.2.2), some (nD (ofDd f d)), some (.tup ((s.st.set (ofDd f d) a.1).map nD)), some (ldsD lds), none] μ' := by
    intro μ' lds e1 e2 e3 e4
    subst e1
    have se3 : ∀ x ∈ a.2.1, x.1 < lds.length := fun x hx => by rw [e3, hl1]; exact se1 x hx
    cases hw : a.2.2 with
    | none =>
      simp [-Bool.exists_bool, -Prod.exists, wdD]
      refine u_sent_out (by omega) se3 e4 (by omega) ?_
      rw [hw, ← e2] at q
      simpa [dnD, sdD, toD, ldsD, seD] using q
    | some w =>
      simp [-Bool.exists_bool, -Prod.exists, wdD]
      refine u_sent_out (by omega) se3 e4 (by omega) ?_
      rw [hw, ← e2] at q
      simpa [dnD, sdD, toD, ldsD, seD] using q
  simp [-Bool.exists_bool, -Prod.exists, Body, t_done]
  refine u_can g.ok g.o ?_
  simp [-Bool.exists_bool, -Prod.exists, hc]
  refine u_answered g.ok g.o ?_
  simp [-Bool.exists_bool, -Prod.exists, ha, asD]
  refine u_machine_of g.ok ?_
  simp [-Bool.exists_bool, -Prod.exists, sdD, c1, c2]
  rw [c3]
  refine ⟨by omega, by omega, ?_⟩
  cases d with
  | own m =>
    simp [-Bool.exists_bool, -Prod.exists, ddD]
    have := tail μ s.ld rfl rfl rfl (fun l hl => by have := g.few l hl; omega)
    simpa [-Bool.exists_bool, -Prod.exists, ddD, ldsD] using this
  | hear m c =>
    simp [-Bool.exists_bool, -Prod.exists, ddD]
    have := tail μ s.ld rfl rfl rfl (fun l hl => by have := g.few l hl; omega)
    simpa [-Bool.exists_bool, -Prod.exists, ddD, ldsD] using this
  | come r n =>
    have ok : r < f.roads.length := g.ok
    simp [-Bool.exists_bool, -Prod.exists, ddD]
    refine u_taken_out (ld := s.ld) (by omega) (by omega) (fun l hl => by have := g.few l hl; omega) ?_
    have := tail μ (takeOne s.ld r n) rfl rfl (takeOne_len _ _ _) (takeOne_b fun l hl => by have := g.few l hl; omega)
    simpa [-Bool.exists_bool, -Prod.exists, ddD, ldsD] using this

/-! ### run -/
def endS (f : Fm) : Sd → List Dd → Sd
  | s, [] => s
  | s, d :: r => endS f (doneS f s d).1 r
def GoodR (f : Fm) : Sd → List Dd → Prop
  | s, [] => OkS f s
  | s, d :: r => Good f s d ∧ GoodR f (doneS f s d).1 r
theorem GoodR.o {f : Fm} {s : Sd} : ∀ {l : List Dd}, GoodR f s l → OkS f s
  | [], h => h
  | _ :: _, h => h.1.o
def G_run : DRs := fun ds μ Q => ∃ f s p l, ds = [fmD f, sdD s, .ref p] ∧ μ p = some (.lst (l.map ddD)) ∧ l.length ≤ 100 ∧ GoodR f s l ∧ ∀ d, Q d μ
theorem u_run {f s p l μ Q} (h : μ p = some (.lst (List.map ddD l))) (hl : l.length ≤ 100) (g : GoodR f s l) (q : ∀ d, Q d μ) : G_run [fmD f, sdD s, .ref p] μ Q := ⟨f, s, p, l, rfl, h, hl, g, q⟩
theorem enD_ddD {α : Type} (e : α → D) (l : List α) : enD 0 (l.map e) = (l.zipIdx).map fun x => .tup [nD x.2, e x.1] := by
  rw [enD_map, List.zipIdx_map, List.map_map]; rfl
theorem isNon_toD (t : Option (Nat × Str)) : isNon (toD t) = t.isNone := by cases t <;> rfl
theorem d_run (ds μ Q) (h : G_run ds μ Q) : Body (t_run G_can G_done) 7 ds μ Q := by
  obtain ⟨f, s, p, l, rfl, hp, hl, g, q⟩ := h
  simp [-Bool.exists_bool, -Prod.exists, Body, t_run]
  intro w hw
  have hpw : p ≠ w := mu_ne hp hw
  refine ⟨_, by rw [updM_ne hpw]; exact hp, ?_⟩
  rw [enD_ddD]
  have hz : 3000 ≤ sizeLine := by decide
  refine for_map (fun r ρ μ' => ∃ s' x y z ws, ρ = [some (fmD f), some (sdD s'), some (.ref p), some (.ref w), x, y, z] ∧ μ' = updM μ w (.lst ws) ∧ GoodR f s' (r.map (·.1)) ∧ ws.length + r.length ≤ 100) ?_ ?_ ⟨s, _, _, _, _, rfl, rfl, by simpa using g, by simpa using hl⟩
  · rintro ⟨d, i⟩ r ρ μ' N ⟨s', x, y, z, ws, rfl, rfl, g', hs⟩ hN
    obtain ⟨g1, g2⟩ := g'
    have hc : canL f s' d = true := g1.can
    rw [List.length_cons] at hs
    simp [-Bool.exists_bool, -Prod.exists]
    refine u_can g1.ok g1.o ?_
    simp [-Bool.exists_bool, -Prod.exists, hc]
    refine u_done g1 ?_
    cases ht : (doneS f s' d).2 with
    | none =>
      simp [-Bool.exists_bool, -Prod.exists, dnD, ht, toD]
      exact hN _ _ (by rw [updM_ne hpw]; exact hp) ⟨_, _, _, _, ws, rfl, rfl, g2, by omega⟩
    | some t =>
      simp [-Bool.exists_bool, -Prod.exists, dnD, ht, toD, seD]
      refine ⟨by omega, ?_⟩
      exact hN _ _ (by rw [updM_ne hpw]; exact hp) ⟨_, _, _, _, _, rfl, rfl, g2, by rw [List.length_append, List.length_singleton]; omega⟩
  · rintro ρ μ' ⟨s', x, y, z, ws, rfl, rfl, g', hs⟩
    simp
    exact Fg.of (q _) (ext1 hw ext0)
end Cs

/-! ## CsE -/
namespace Cs
open PySem PySem.Spec PyProof.Rows L2 Dl
def Ag (S : List Addr) (μ μ' : Mu) : Prop := ∀ a, a ∉ S → μ' a = μ a
theorem Ag.refl {S : List Addr} {μ : Mu} : Ag S μ μ := fun _ _ => rfl
theorem Ag.upd {S : List Addr} {μ μ' : Mu} {p : Addr} {c : C} (g : Ag S μ μ') (h : p ∈ S) : Ag S μ (updM μ' p c) := fun a n => by
  rw [updM_ne (fun e => n (by rw [e]; exact h))]; exact g a n
theorem Ag.ext {S : List Addr} {μ μ' : Mu} (g : Ag S μ μ') (h : ∀ a ∈ S, μ a = none) : ∀ a c, μ a = some c → μ' a = some c := fun a c e => by
  rw [g a (fun m => by rw [h a m] at e; cases e)]; exact e
theorem Ag.ext1 {S : List Addr} {μ μ' : Mu} {p : Addr} {c : C} (g : Ag S μ μ') (h : ∀ a ∈ S, μ a = none) (hp : μ' p = some c) : ∀ a d, updM μ p c a = some d → μ' a = some d := fun a d e => by
  by_cases z : a = p
  · subst z; rw [updM_same] at e; rw [hp]; exact e
  · rw [updM_ne z] at e; exact g.ext h a d e
/-! ### events -/
def evs (f : Fm) : List Nat → List Dd → List (Nat × Nat)
  | _, [] => []
  | many, d :: r => (ofDd f d, many.getD (ofDd f d) 0) :: evs f (many.set (ofDd f d) (many.getD (ofDd f d) 0 + 1)) r
def evD (p : Nat × Nat) : D := .tup [nD p.1, nD p.2]
def eventsL (f : Fm) (l : List Dd) : List (Nat × Nat) := evs f (List.replicate f.rules.length 0) l
def G_events_of : DRs := fun ds μ Q => ∃ f p l, ds = [fmD f, .ref p] ∧ μ p = some (.lst (l.map ddD)) ∧ l.length ≤ 100 ∧ f.rules.length ≤ 10 ∧ (∀ d ∈ l, okDd f d ∧ ofDd f d < f.rules.length) ∧ ∀ q, μ q = none → Q (.ref q) (updM μ q (.lst ((eventsL f l).map evD)))
theorem u_events_of {f p l μ Q} (h : μ p = some (.lst (List.map ddD l))) (hl : l.length ≤ 100) (h10 : f.rules.length ≤ 10) (g : ∀ d ∈ l, okDd f d ∧ ofDd f d < f.rules.length) (q : ∀ q, μ q = none → Q (.ref q) (updM μ q (.lst ((eventsL f l).map evD)))) : G_events_of [fmD f, .ref p] μ Q := ⟨f, p, l, rfl, h, hl, h10, g, q⟩
theorem d_events_of (ds μ Q) (h : G_events_of ds μ Q) : Body (t_events_of G_machine_of) 7 ds μ Q := by
  obtain ⟨f, p, l, rfl, hp, hl, h10, g, q⟩ := h
  have hz : 3000 ≤ sizeLine := by decide
  simp [-Bool.exists_bool, -Prod.exists, Body, t_events_of, fmD]
  refine lc_all (fun _ => nD 0) trivial (fun x hx Y hy => by simp; exact hy) (by omega) ?_
  intro pm hm pf hf
  have hpm : p ≠ pm := mu_ne hp hm
  have hmf : pm ≠ pf := fun e => by subst e; simp at hf
  have hf' : μ pf = none := by rw [updM_ne hmf.symm] at hf; exact hf
  have hpf : p ≠ pf := mu_ne hp hf'
  have e0 : f.rules.map (fun _ => nD 0) = (List.replicate f.rules.length 0).map nD := by
    rw [List.map_replicate]; exact List.map_const' 
  rw [e0]
  simp [-Bool.exists_bool, -Prod.exists, hpm, hpf, updM_ne, hp]
  refine for_map (fun r ρ μ' => ∃ x y many found, ρ = [some (fmD f), some (.ref p), some (.ref pm), none, some (.ref pf), x, y] ∧ μ' pm = some (.lst (many.map nD)) ∧ μ' pf = some (.lst (found.map evD)) ∧ Ag [pm, pf] μ μ' ∧
    many.length = f.rules.length ∧ found ++ evs f many r = eventsL f l ∧ found.length + r.length ≤ 100 ∧ ∀ d ∈ r, okDd f d ∧ ofDd f d < f.rules.length) ?_ ?_
    ⟨_, _, List.replicate f.rules.length 0, [], rfl, by rw [updM_ne hmf]; simp, by simp, (Ag.refl.upd (by simp)).upd (by simp), by simp, rfl, by simpa using hl, g⟩
  · rintro d r ρ μ' N ⟨x, y, many, found, rfl, h1, h2, ag, hn, he, hs, hd⟩ hN
    obtain ⟨d1, d2⟩ := hd d List.mem_cons_self
    have e1 := List.getElem?_eq_getElem (show ofDd f d < many.length by omega)
    have e3 : many.getD (ofDd f d) 0 = many[ofDd f d] := by rw [List.getD_eq_getElem?_getD, e1]; rfl
    rw [List.length_cons] at hs
    simp only [evs, e3] at he
    generalize many[ofDd f d] = v at e1 e3 he
    simp [-Bool.exists_bool, -Prod.exists]
    refine u_machine_of d1 ?_
    simp [-Bool.exists_bool, -Prod.exists, h1, e1, h2, hmf, updM_ne]
    refine ⟨by omega, ?_⟩
    have ix : ixN many.length (ofDd f d : Int) = some (ofDd f d) := by
      unfold ixN; rw [if_pos (by omega), if_pos (by omega)]; rfl
    refine ⟨_, ix, ?_⟩
    have hpN : updM (updM μ' pf (.lst (found.map evD ++ [.tup [nD (ofDd f d), nD v]]))) pm (.lst ((many.map nD).set (ofDd f d) (.int ((v : Int) + 1)))) p = some (.lst (l.map ddD)) := by
      rw [updM_ne hpm, updM_ne hpf, ag p (by simp [hpm, hpf]), hp]
    refine hN _ _ hpN ⟨_, _, many.set (ofDd f d) (v + 1), found ++ [(ofDd f d, v)], rfl, ?_, ?_, (ag.upd (by simp)).upd (by simp), by simp [hn], ?_, ?_, fun d hd' => hd d (List.mem_cons_of_mem _ hd')⟩
    · rw [updM_same, List.map_set]; rfl
    · rw [updM_ne hmf.symm, updM_same, List.map_append]; rfl
    · rw [← he]; simp
    · rw [List.length_append, List.length_singleton]; omega
  · rintro ρ μ' ⟨x, y, many, found, rfl, h1, h2, ag, hn, he, hs, hd⟩
    simp only [evs, List.append_nil] at he
    rw [he] at h2
    simp
    refine Fg.of (q pf hf') (ag.ext1 ?_ h2)
    intro a ha
    simp at ha
    rcases ha with rfl | rfl
    · exact hm
    · exact hf'
def G_event_number : DRs := fun ds μ Q => ∃ (p : Addr) (es : List (Nat × Nat)) (o : Option Nat), ds = [.ref p, oN o] ∧ μ p = some (.lst (es.map evD)) ∧ (∀ k, o = some k → k < es.length) ∧ Q (oN (o.map fun k => (es.getD k (0, 0)).2)) μ
theorem u_event_number {p : Addr} {es : List (Nat × Nat)} {o : Option Nat} {μ Q} (h : μ p = some (.lst (List.map evD es))) (h2 : ∀ k, o = some k → k < es.length) (q : Q (oN (o.map fun k => (es.getD k (0, 0)).2)) μ) : G_event_number [.ref p, oN o] μ Q := ⟨p, es, o, rfl, h, h2, q⟩
theorem d_event_number (ds μ Q) (h : G_event_number ds μ Q) : Body t_event_number 2 ds μ Q := by
  obtain ⟨p, es, o, rfl, hp, ho, q⟩ := h
  have q := Fg.same q
  cases o with
  | none => simp [Body, t_event_number, oN]; exact q
  | some k =>
    have e := List.getElem?_eq_getElem (ho k rfl)
    simp [List.getD_eq_getElem?_getD, e] at q
    simp [Body, t_event_number, oN, hp, e, evD]
    exact q
end Cs

/-! ## CsF -/
namespace Cs
open PySem PySem.Spec PyProof.Rows L2 Dl
/-! ### letters -/
abbrev Lk := Nat × Nat
abbrev Lv := Option Nat × Option Nat
def lk (k : Lk) : List Key := [Sum.inl (k.1 : Int), Sum.inl (k.2 : Int)]
def lvD (v : Lv) : D := .tup [oN v.1, oN v.2]
def ltD (x : Lk × Lv) : List Key × D := (lk x.1, lvD x.2)
def putL (l : List (Lk × Lv)) (k : Lk) (v : Lv) : List (Lk × Lv) := if (l.any fun x => decide (x.1 = k)) = true then l.map fun x => if x.1 = k then (x.1, v) else x else l ++ [(k, v)]
def getL (l : List (Lk × Lv)) (k : Lk) : Option Lv := (l.find? fun x => decide (x.1 = k)).map (·.2)
theorem lk_inj {a b : Lk} : lk a = lk b ↔ a = b := by
  obtain ⟨a1, a2⟩ := a
  obtain ⟨b1, b2⟩ := b
  simp [lk]
  omega
theorem put_lt (l : List (Lk × Lv)) (k : Lk) (v : Lv) : putD (l.map ltD) (lk k) (lvD v) = (putL l k v).map ltD := by
  have e : (l.map ltD).any (fun kv => decide (kv.1 = lk k)) = l.any fun x => decide (x.1 = k) := by
    rw [List.any_map]
    congr 1
    funext x
    simp [ltD, lk_inj]
  unfold putD putL
  rw [e]
  split
  · rw [List.map_map, List.map_map]
    refine List.map_congr_left fun x _ => ?_
    simp only [Function.comp, ltD, lk_inj]
    split <;> rfl
  · rw [List.map_append]; rfl
theorem get_lt (l : List (Lk × Lv)) (k : Lk) : valD (l.map ltD) (lk k) = (getL l k).map lvD := by
  unfold valD getL
  rw [List.find?_map]
  have e : ((fun kv : List Key × D => decide (kv.1 = lk k)) ∘ ltD) = fun x => decide (x.1 = k) := by
    funext x; simp [ltD, lk_inj]
  rw [e]
  cases l.find? (fun x => decide (x.1 = k)) <;> rfl
theorem putL_len (l : List (Lk × Lv)) (k : Lk) (v : Lv) : (putL l k v).length ≤ l.length + 1 := by
  unfold putL; split <;> simp
def sentOf (s : Sd) (r : Nat) : Nat := (s.ld[r]?.getD (0, [])).1
def waitOf (s : Sd) (r : Nat) : List (Nat × Str) := (s.ld[r]?.getD (0, [])).2
def init1 (r : Nat) (L : List (Lk × Lv)) (ws : List (Nat × Str)) : List (Lk × Lv) := ws.foldl (fun L x => putL L (r, x.1) (none, none)) L
def initL (s : Sd) (rs : List Nat) (L : List (Lk × Lv)) : List (Lk × Lv) := rs.foldl (fun L r => init1 r L (waitOf s r)) L
def new1 (r k : Nat) (L : List (Lk × Lv)) (ns : List Nat) : List (Lk × Lv) := ns.foldl (fun L n => putL L (r, n) (some k, none)) L
def rg (a b : Nat) : List Nat := (List.range (b - a)).map (a + ·)
def newL (s s' : Sd) (k : Nat) (rs : List Nat) (L : List (Lk × Lv)) : List (Lk × Lv) := rs.foldl (fun L r => new1 r k L (rg (sentOf s r) (sentOf s' r))) L
def comeL (L : List (Lk × Lv)) (k : Nat) : Dd → List (Lk × Lv)
  | .come r n => putL L (r, n) (((getL L (r, n)).getD (none, none)).1, some k)
  | _ => L
def lets (f : Fm) : Nat → Sd → List Dd → List (Lk × Lv) → List (Lk × Lv)
  | _, _, [], L => L
  | k, s, d :: r, L => lets f (k + 1) (doneS f s d).1 r (newL s (doneS f s d).1 k (List.range f.roads.length) (comeL L k d))
def LOk (f : Fm) : Nat → Sd → List Dd → List (Lk × Lv) → Prop
  | _, _, [], _ => True
  | k, s, d :: r, L => (∀ a n, d = .come a n → (getL L (a, n)).isSome = true) ∧ LOk f (k + 1) (doneS f s d).1 r (newL s (doneS f s d).1 k (List.range f.roads.length) (comeL L k d))
def init0 (f : Fm) (s : Sd) : List (Lk × Lv) := initL s (List.range f.roads.length) []
def lettersL (f : Fm) (s : Sd) (l : List Dd) : List (Lk × Lv) := lets f 0 s l (init0 f s)
theorem sendOne_sent (ld : List Ld) (x : Nat × Str) (r : Nat) : ((sendOne ld x)[r]?.getD (0, [])).1 ≤ (ld[r]?.getD (0, [])).1 + 1 := by
  unfold sendOne
  split
  · rename_i l e
    by_cases h : x.1 = r
    · subst h
      rw [List.getElem?_set_self (List.getElem?_eq_some_iff.mp e).1, e]; simp
    · rw [List.getElem?_set_ne h]; omega
  · omega
theorem send_sent (r : Nat) : ∀ (se : List (Nat × Str)) (ld : List Ld), ((se.foldl sendOne ld)[r]?.getD (0, [])).1 ≤ (ld[r]?.getD (0, [])).1 + se.length
  | [], ld => by simp
  | x :: se, ld => by
    have := send_sent r se (sendOne ld x)
    have := sendOne_sent ld x r
    rw [List.foldl_cons, List.length_cons]
    omega
theorem after_sent (r : Nat) (ld : List Ld) (d : Dd) : ((afterTake ld d)[r]?.getD (0, [])).1 = (ld[r]?.getD (0, [])).1 := by
  cases d with
  | come a n =>
    simp only [afterTake, takeOne]
    split
    · rename_i l e
      by_cases h : a = r
      · subst h
        rw [List.getElem?_set_self (List.getElem?_eq_some_iff.mp e).1, e]; simp
      · rw [List.getElem?_set_ne h]
    · rfl
  | _ => rfl
theorem done_sent {f : Fm} {s : Sd} {d : Dd} (g : Good f s d) (r : Nat) : sentOf (doneS f s d).1 r ≤ sentOf s r + 2 := by
  obtain ⟨a, ha⟩ := Option.isSome_iff_exists.mp g.can
  have := (g.sends a ha).2
  have h := send_sent r a.2.1 (afterTake s.ld d)
  rw [after_sent] at h
  unfold sentOf
  simp only [doneS, ha]
  omega
def G_letters_of : DRs := fun ds μ Q => ∃ f s p l, ds = [fmD f, sdD s, .ref p] ∧ μ p = some (.lst (l.map ddD)) ∧ l.length ≤ 100 ∧ GoodR f s l ∧ (∀ x ∈ s.ld, x.2.length ≤ 100) ∧ LOk f 0 s l (init0 f s) ∧
  ∀ q, μ q = none → Q (.ref q) (updM μ q (.dT ((lettersL f s l).map ltD)))
theorem waitOf_at {s : Sd} {r : Nat} {l : Ld} (e : s.ld[r]? = some l) : waitOf s r = l.2 := by unfold waitOf; rw [e]; rfl
theorem sentOf_at {s : Sd} {r : Nat} {l : Ld} (e : s.ld[r]? = some l) : sentOf s r = l.1 := by unfold sentOf; rw [e]; rfl

abbrev t_lh : DS :=
          aSeq (aAsg (aOp rIxD (aCall G_done (aCons (aVar 0) (aCons (aVar 1) (aCons (aVar 8) aNil)))) (aC (.int 0))) (aName 9))
    (aSeq (aFor (aRng1 (aCons (aCall rLenD (aCons (aOp rIxD (aVar 0) (aC (.int 1))) aNil)) aNil)) (aName 4) (aFor (aRng2 (aCons (aOp rIxD (aOp rIxD (aOp rIxD (aVar 1) (aC (.int 1))) (aVar 4)) (aC (.int 0))) (aCons (aOp rIxD (aOp rIxD (aOp rIxD (aVar 9) (aC (.int 1))) (aVar 4)) (aC (.int 0))) aNil))) (aName 5) (aAsg (aTup (aCons (aVar 7) (aCons (aC .non) aNil))) (aSubG (aVar 3) (aTup (aCons (aVar 4) (aCons (aVar 5) aNil))) setD))))
    (aAsg (aVar 9) (aName 1)))
theorem ix2 {a b : D} : atI [a, b] 1 = some b := rfl
theorem d_letters_of (ds μ Q) (h : G_letters_of ds μ Q) : Body (t_letters_of G_run G_waits G_done) 11 ds μ Q := by
  obtain ⟨f, s, p, l, rfl, hp, hl, g, hw, hk, q⟩ := h
  have hz : 100000 ≤ sizeLine := by decide
  have o := g.o
  have hr2 := o.r2
  have hld := o.ld
  simp [-Bool.exists_bool, -Prod.exists, Body, t_letters_of]
  refine u_run hp hl g fun _ => ?_
  intro pq hq
  have hpq : p ≠ pq := mu_ne hp hq
  simp [-Bool.exists_bool, -Prod.exists, fmD, rgD_map]
  refine ⟨by omega, ?_⟩
  refine for_map (fun r ρ μ' => ∃ L x y z, ρ = [some (fmD f), some (sdD s), some (.ref p), some (.ref pq), x, y, z, none, none, none, none] ∧ (∀ a c, μ a = some c → μ' a = some c) ∧ μ' pq = some (.dT (L.map ltD)) ∧ initL s r L = init0 f s ∧ (∀ a ∈ r, a < f.roads.length) ∧ L.length + 100 * r.length ≤ 1000) ?_ ?_
    ⟨[], _, _, _, rfl, ext1 hq ext0, by simp, rfl, fun a ha => by simpa using ha, by simp; omega⟩
  · rintro a r ρ μ' N ⟨L, x, y, z, rfl, e, hL, hi, hr, hs⟩ hN
    have ha := hr a List.mem_cons_self
    have e1 := List.getElem?_eq_getElem (show a < s.ld.length by omega)
    have hwa := hw _ (List.getElem_mem (show a < s.ld.length by omega))
    generalize s.ld[a] = w at e1 hwa
    rw [List.length_cons] at hs
    have hi2 : initL s r (init1 a L w.2) = init0 f s := by
      rw [← hi]
      show _ = initL s r (init1 a L (waitOf s a))
      rw [waitOf_at e1]
    simp [-Bool.exists_bool, -Prod.exists]
    refine u_waits e1 fun pw hpw => ?_
    have hqw : pq ≠ pw := mu_ne hL hpw
    simp [-Bool.exists_bool, -Prod.exists]
    refine for_map (fun t ρ μ2 => ∃ L' y z, ρ = [some (fmD f), some (sdD s), some (.ref p), some (.ref pq), some (nD a), y, z, none, none, none, none] ∧ (∀ a c, μ a = some c → μ2 a = some c) ∧ μ2 pq = some (.dT (L'.map ltD)) ∧ μ2 pw = some (.lst (w.2.map seD)) ∧ init1 a L' t = init1 a L w.2 ∧ L'.length + t.length ≤ L.length + w.2.length) ?_ ?_
      ⟨L, _, _, rfl, ext1 hpw e, by rw [updM_ne hqw]; exact hL, by simp, rfl, Nat.le_refl _⟩
    · rintro ⟨n, c⟩ t ρ μ2 N2 ⟨L', y, z, rfl, e, hL', hpw', hi', hs'⟩ hN2
      rw [List.length_cons] at hs'
      simp [-Bool.exists_bool, -Prod.exists, seD, hL']
      refine ⟨lk (a, n), rfl, by omega, ?_⟩
      have := put_lt L' (a, n) (none, none)
      simp only [lvD, oN] at this
      rw [this]
      have hpl := putL_len L' (a, n) (none, none)
      refine hN2 _ _ (by rw [updM_ne hqw.symm]; exact hpw') ⟨_, _, _, rfl, ext2 hq e, updM_same, by rw [updM_ne hqw.symm]; exact hpw', hi', by omega⟩
    · rintro ρ μ2 ⟨L', y, z, rfl, e, hL', hpw', hi', hs'⟩
      have hi' : L' = init1 a L w.2 := hi'
      rw [← hi'] at hi2
      rw [List.length_nil] at hs'
      exact hN _ _ trivial ⟨L', _, _, _, rfl, e, hL', hi2, fun b hb => hr b (List.mem_cons_of_mem _ hb), by omega⟩
  · rintro ρ μ' ⟨L, x, y, z, rfl, e, hL, hi, hr, hs⟩
    have hi : L = init0 f s := hi
    subst hi
    have hp' := e _ _ hp
    rw [List.length_nil] at hs
    simp [-Bool.exists_bool, -Prod.exists, hp']
    rw [enD_ddD]
    refine for_map (fun r ρ μ2 => ∃ L s' x y z k d b lt, ρ = [some (fmD f), some (sdD s'), some (.ref p), some (.ref pq), x, y, z, k, d, b, lt] ∧ (∀ a c, μ a = some c → μ2 a = some c) ∧ μ2 pq = some (.dT (L.map ltD)) ∧ GoodR f s' (r.map (·.1)) ∧
        (∃ i, r = (r.map (·.1)).zipIdx i ∧ lets f i s' (r.map (·.1)) L = lettersL f s l ∧ LOk f i s' (r.map (·.1)) L) ∧ L.length + 30 * r.length ≤ 5000) ?_ ?_
      ⟨init0 f s, s, _, _, _, _, _, _, _, rfl, e, hL, by simpa using g, ⟨0, by simp, by simp [lettersL], by simpa using hk⟩, by simp; omega⟩
    · rintro ⟨d, k⟩ r ρ μ2 N ⟨L, s', x, y, z, kk, dd, b, lt, rfl, e, hL, ⟨g1, g2⟩, ⟨i, hzi, hlt, hlk⟩, hs⟩ hN
      rw [List.map_cons, List.zipIdx_cons] at hzi
      have hki : k = i := by have := (List.cons.inj hzi).1; exact (Prod.mk.inj this).2
      subst hki
      have hzr := (List.cons.inj hzi).2
      obtain ⟨hlk1, hlk2⟩ := hlk
      have hlt : lets f (k + 1) (doneS f s' d).1 (r.map (·.1)) (newL s' (doneS f s' d).1 k (List.range f.roads.length) (comeL L k d)) = lettersL f s l := hlt
      have o' := g1.o
      have hld' := o'.ld
      rw [List.length_cons] at hs
      -- the second half of the turn
      have half : ∀ (μ3 : Mu) (L1 : List (Lk × Lv)) (lt : Option D), (∀ a c, μ a = some c → μ3 a = some c) → μ3 pq = some (.dT (L1.map ltD)) → L1 = comeL L k d → L1.length ≤ L.length + 1 →
          t_lh { nx := N, rt := fun d μ' => Fg Q d μ', bk := aRet (aVar 3) { nx := fun _ μ' => Fg Q .non μ', rt := fun d μ' => Fg Q d μ' }, ct := N }
          [some (fmD f), some (sdD s'), some (.ref p), some (.ref pq), x, y, z, some (nD k), some (ddD d), b, lt] μ3 := by
        intro μ3 L1 lt e3 hL1 hc1 hs1
        subst hc1
        simp [-Bool.exists_bool, -Prod.exists, t_lh]
        refine u_done g1 ?_
        simp [-Bool.exists_bool, -Prod.exists, dnD, fmD, rgD_map]
        refine ⟨by omega, ?_⟩
        have o2 := g2.o
        have hld2 := o2.ld
        have dsent := done_sent g1
        generalize (doneS f s' d).1 = s2 at g2 o2 hld2 hlt hlk2 dsent
        refine for_map (fun t ρ μ4 => ∃ L2 x y, ρ = [some (fmD f), some (sdD s'), some (.ref p), some (.ref pq), x, y, z, some (nD k), some (ddD d), some (sdD s2), lt] ∧ (∀ a c, μ a = some c → μ4 a = some c) ∧ μ4 pq = some (.dT (L2.map ltD)) ∧
          newL s' s2 k t L2 = newL s' s2 k (List.range f.roads.length) (comeL L k d) ∧ (∀ a ∈ t, a < f.roads.length) ∧ L2.length + 2 * t.length ≤ L.length + 1 + 20) ?_ ?_
          ⟨comeL L k d, _, _, rfl, e3, hL1, rfl, fun a ha => by simpa using ha, by simp; omega⟩
        · rintro a t ρ μ4 N4 ⟨L2, x, y, rfl, e4, hL2, hn, hr, hs4⟩ hN4
          have ha := hr a List.mem_cons_self
          have a1 := List.getElem?_eq_getElem (show a < s'.ld.length by omega)
          have a2 := List.getElem?_eq_getElem (show a < s2.ld.length by omega)
          have b1 := g1.big _ (List.getElem_mem (show a < s'.ld.length by omega))
          have dsa := dsent a
          generalize s'.ld[a] = w1 at a1 b1
          generalize s2.ld[a] = w2 at a2
          rw [sentOf_at a1, sentOf_at a2] at dsa
          rw [List.length_cons] at hs4
          have hn2 : newL s' s2 k t (new1 a k L2 (rg w1.1 w2.1)) = newL s' s2 k (List.range f.roads.length) (comeL L k d) := by
            rw [← hn]
            show _ = newL s' s2 k t (new1 a k L2 (rg (sentOf s' a) (sentOf s2 a)))
            rw [sentOf_at a1, sentOf_at a2]
          simp [-Bool.exists_bool, -Prod.exists, sdD, a1, a2, ldD]
          refine ⟨_, _, ⟨rfl, rfl⟩, by omega, ?_⟩
          rw [rgD_map, show ((w2.1 : Int) - (w1.1 : Int)).toNat = w2.1 - w1.1 by omega]
          refine for_map (fun u ρ μ5 => ∃ L3 y, ρ = [some (fmD f), some (sdD s'), some (.ref p), some (.ref pq), some (nD a), y, z, some (nD k), some (ddD d), some (sdD s2), lt] ∧ (∀ a c, μ a = some c → μ5 a = some c) ∧ μ5 pq = some (.dT (L3.map ltD)) ∧
            new1 a k L3 (u.map (w1.1 + ·)) = new1 a k L2 (rg w1.1 w2.1) ∧ L3.length + u.length ≤ L2.length + 2) ?_ ?_
            ⟨L2, _, rfl, e4, hL2, rfl, by rw [List.length_range]; omega⟩
          · rintro j u ρ μ5 N5 ⟨L3, y, rfl, e5, hL3, hn3, hs5⟩ hN5
            rw [List.length_cons] at hs5
            simp [-Bool.exists_bool, -Prod.exists, hL3]
            refine ⟨lk (a, w1.1 + j), by simp [lk, kD], by omega, ?_⟩
            have := put_lt L3 (a, w1.1 + j) (some k, none)
            simp only [lvD, oN] at this
            rw [this]
            have hpl := putL_len L3 (a, w1.1 + j) (some k, none)
            exact hN5 _ _ trivial ⟨_, _, rfl, ext2 hq e5, updM_same, hn3, by omega⟩
          · rintro ρ μ5 ⟨L3, y, rfl, e5, hL3, hn3, hs5⟩
            have hn3 : L3 = new1 a k L2 (rg w1.1 w2.1) := hn3
            rw [← hn3] at hn2
            rw [List.length_nil] at hs5
            exact hN4 _ _ trivial ⟨L3, _, _, rfl, e5, hL3, hn2, fun b hb => hr b (List.mem_cons_of_mem _ hb), by omega⟩
        · rintro ρ μ4 ⟨L2, x, y, rfl, e4, hL2, hn, hr, hs4⟩
          have hn : L2 = newL s' s2 k (List.range f.roads.length) (comeL L k d) := hn
          subst hn
          rw [List.length_nil] at hs4
          simp [-Bool.exists_bool, -Prod.exists]
          exact hN _ _ (e4 _ _ hp) ⟨_, s2, _, _, _, _, _, _, _, rfl, e4, hL2, g2, ⟨k + 1, hzr, hlt, hlk2⟩, by omega⟩
      cases d with
      | own m =>
        simp [-Bool.exists_bool, -Prod.exists, ddD]
        have := half μ2 L lt e hL rfl (by omega)
        simpa [-Bool.exists_bool, -Prod.exists, ddD, t_lh] using this
      | hear m c =>
        simp [-Bool.exists_bool, -Prod.exists, ddD]
        have := half μ2 L lt e hL rfl (by omega)
        simpa [-Bool.exists_bool, -Prod.exists, ddD, t_lh] using this
      | come a n =>
        obtain ⟨v, hv⟩ := Option.isSome_iff_exists.mp (hlk1 a n rfl)
        have gl := get_lt L (a, n)
        rw [hv] at gl
        have pl := put_lt L (a, n) (v.1, some k)
        have hpl := putL_len L (a, n) (v.1, some k)
        simp [-Bool.exists_bool, -Prod.exists, ddD, hL]
        refine ⟨lk (a, n), rfl, _, gl, ?_⟩
        simp [-Bool.exists_bool, -Prod.exists, lvD, hL]
        refine ⟨lk (a, n), rfl, by omega, ?_⟩
        rw [show (D.tup [oN v.1, nD k]) = lvD (v.1, some k) from rfl, pl]
        have := half (updM μ2 pq (.dT ((putL L (a, n) (v.1, some k)).map ltD))) _ (some (.tup [nD a, nD n])) (ext2 hq e) updM_same (by simp [comeL, hv]) (by omega)
        simpa [-Bool.exists_bool, -Prod.exists, ddD, t_lh] using this
    · rintro ρ μ2 ⟨L, s', x, y, z, k, d, b, lt, rfl, e, hL, g', ⟨i, _, hlt, _⟩, hs⟩
      have hlt : L = lettersL f s l := hlt
      subst hlt
      simp
      refine Fg.of (q pq hq) fun a c h => ?_
      by_cases ha : a = pq
      · subst ha; rw [updM_same] at h; rw [hL]; exact h
      · rw [updM_ne ha] at h; exact e _ _ h
end Cs

/-! ## CsG -/
namespace Cs
open PySem PySem.Spec PyProof.Rows L2 Dl
structure Tp where
  rd : Nat
  nm : Nat
  one : Nat
  snd : Option Nat
  other : Nat
  com : Option Nat
  deriving DecidableEq
def lkD (k : Lk) : D := .tup [nD k.1, nD k.2]
def tpD (t : Tp) : D := .tup [lkD (t.rd, t.nm), nD t.one, oN t.snd, nD t.other, oN t.com]
def evOf (es : List (Nat × Nat)) (o : Option Nat) : Option Nat := o.map fun k => (es.getD k (0, 0)).2
def mkTp (f : Fm) (es : List (Nat × Nat)) (L : List (Lk × Lv)) (k : Lk) : Tp :=
  let t := f.roads[k.1]?.getD ⟨0, 0, ""⟩
  let v := (getL L k).getD (none, none)
  ⟨k.1, k.2, t.one, evOf es v.1, t.other, evOf es v.2⟩
def lexN (a b : Lk) : Prop := a.1 < b.1 ∨ (a.1 = b.1 ∧ a.2 ≤ b.2)
/-- the trips, by any right order of the letters -/
def IsTrips (f : Fm) (s : Sd) (l : List Dd) (ts : List Tp) : Prop := ∀ ys : List Lk, ys.Perm ((lettersL f s l).map (·.1)) → ys.Pairwise lexN → ys.map (mkTp f (eventsL f l) (lettersL f s l)) = ts
structure OkT (f : Fm) (s : Sd) (l : List Dd) : Prop where
  few : l.length ≤ 100
  run : GoodR f s l
  wt : ∀ x ∈ s.ld, x.2.length ≤ 100
  lok : LOk f 0 s l (init0 f s)
  all : ∀ d ∈ l, okDd f d ∧ ofDd f d < f.rules.length
  lv : ∀ x ∈ lettersL f s l, x.1.1 < f.roads.length ∧ (∀ k, x.2.1 = some k → k < l.length) ∧ ∀ k, x.2.2 = some k → k < l.length
  len : (lettersL f s l).length ≤ 5000
def G_trips : DRs := fun ds μ Q => ∃ f s p l ts, ds = [fmD f, sdD s, .ref p] ∧ μ p = some (.lst (l.map ddD)) ∧ OkT f s l ∧ IsTrips f s l ts ∧ ∀ q, μ q = none → Q (.ref q) (updM μ q (.lst (ts.map tpD)))
theorem u_trips {f s p l ts μ Q} (h : μ p = some (.lst (List.map ddD l))) (o : OkT f s l) (i : IsTrips f s l ts) (q : ∀ q, μ q = none → Q (.ref q) (updM μ q (.lst (ts.map tpD)))) : G_trips [fmD f, sdD s, .ref p] μ Q := ⟨f, s, p, l, ts, rfl, h, o, i, q⟩
theorem u_letters_of {f s p l μ Q} (h : μ p = some (.lst (List.map ddD l))) (o : OkT f s l) (q : ∀ q, μ q = none → Q (.ref q) (updM μ q (.dT ((lettersL f s l).map ltD)))) : G_letters_of [fmD f, sdD s, .ref p] μ Q := ⟨f, s, p, l, rfl, h, o.few, o.run, o.wt, o.lok, q⟩
theorem evs_len (f : Fm) : ∀ (l : List Dd) (m : List Nat), (evs f m l).length = l.length
  | [], _ => rfl
  | d :: r, m => by simp only [evs, List.length_cons, evs_len f r]
theorem getL_mem {L : List (Lk × Lv)} {k : Lk} {v : Lv} (h : getL L k = some v) : (k, v) ∈ L := by
  unfold getL at h
  obtain ⟨x, hx, rfl⟩ := Option.map_eq_some_iff.mp h
  have h1 := List.find?_some hx
  simp at h1
  have h2 := List.mem_of_find?_eq_some hx
  rw [← h1]; exact h2
theorem getL_some {L : List (Lk × Lv)} {k : Lk} (h : k ∈ L.map (·.1)) : ∃ v, getL L k = some v := by
  obtain ⟨x, hx, rfl⟩ := List.mem_map.mp h
  unfold getL
  cases e : L.find? (fun y => decide (y.1 = x.1)) with
  | some y => exact ⟨_, rfl⟩
  | none =>
    have := List.find?_eq_none.mp e x hx
    simp at this
def toI (k : Lk) : Int × Int := (k.1, k.2)
theorem back_nat {ys : List (Int × Int)} {ks : List Lk} (h : ys.Perm (ks.map toI)) : ∃ zs : List Lk, ys = zs.map toI ∧ zs.Perm ks := by
  refine ⟨ys.map fun p => (p.1.toNat, p.2.toNat), ?_, ?_⟩
  · rw [List.map_map]
    conv => lhs; rw [← List.map_id ys]
    refine List.map_congr_left fun p hp => ?_
    obtain ⟨k, _, rfl⟩ := List.mem_map.mp (h.mem_iff.mp hp)
    simp [toI]
  · have := h.map fun p : Int × Int => (p.1.toNat, p.2.toNat)
    rw [List.map_map] at this
    have e : ks.map ((fun p : Int × Int => (p.1.toNat, p.2.toNat)) ∘ toI) = ks := by
      conv => rhs; rw [← List.map_id ks]
      exact List.map_congr_left fun k _ => by simp [toI]
    rw [e] at this
    exact this
theorem d_trips (ds μ Q) (h : G_trips ds μ Q) : Body (t_trips G_events_of G_letters_of G_event_number) 12 ds μ Q := by
  obtain ⟨f, s, p, l, ts, rfl, hp, o, it, q⟩ := h
  have hz : 100000 ≤ sizeLine := by decide
  simp [-Bool.exists_bool, -Prod.exists, Body, t_trips]
  refine u_events_of hp o.few o.run.o.r1 o.all fun pe he => ?_
  have hpe : p ≠ pe := mu_ne hp he
  refine u_letters_of (by rw [updM_ne hpe]; exact hp) o fun pl hlp => ?_
  intro pf hf
  have hel : pe ≠ pl := fun e => by subst e; simp at hlp
  have hef : pe ≠ pf := fun e => by subst e; rw [updM_ne hel] at hf; simp at hf
  have hlf : pl ≠ pf := fun e => by subst e; simp at hf
  have hl0 : μ pl = none := by rw [updM_ne hel.symm] at hlp; exact hlp
  have hf0 : μ pf = none := by rw [updM_ne hlf.symm, updM_ne hef.symm] at hf; exact hf
  have it' := it
  unfold IsTrips at it'
  have hlv := o.lv
  have hlen := o.len
  have hel' : (eventsL f l).length = l.length := evs_len _ _ _
  generalize eventsL f l = es at *
  generalize lettersL f s l = L at *
  refine ⟨pl, rfl, L.map ltD, by rw [updM_ne hlf]; exact updM_same, L.map (fun x => toI x.1), by rw [List.map_map, List.map_map]; rfl, fun ys hys hso => ?_⟩
  obtain ⟨zs, rfl, hzs⟩ := back_nat (ys := ys) (ks := L.map (·.1)) (by rw [List.map_map]; exact hys)
  have hso' : zs.Pairwise lexN := by
    rw [List.pairwise_map] at hso
    refine hso.imp fun {a b} h => ?_
    have h2 : ¬ ((toI b).1 < (toI a).1 ∨ ((toI b).1 = (toI a).1 ∧ (toI b).2 < (toI a).2)) := fun z => by
      rw [SrtO.lexB_iff.mpr z] at h; cases h
    simp only [toI] at h2
    unfold lexN
    omega
  have hts := it' zs hzs hso'
  rw [List.map_map]
  have hpf : p ≠ pf := mu_ne hp hf0
  refine for_map (fun r ρ μ' => ∃ x y z u v w done, ρ = [some (fmD f), some (sdD s), some (.ref p), some (.ref pe), some (.ref pl), some (.ref pf), x, y, z, u, v, w] ∧ (∀ a c, μ a = some c → μ' a = some c) ∧ μ' pe = some (.lst (es.map evD)) ∧ μ' pl = some (.dT (L.map ltD)) ∧
      μ' pf = some (.lst (done.map tpD)) ∧ done ++ r.map (mkTp f es L) = ts ∧ (∀ k ∈ r, k ∈ L.map (·.1)) ∧ done.length + r.length ≤ 5000) ?_ ?_
    ⟨_, _, _, _, _, _, [], rfl, ext2 hf0 (ext2 hl0 (ext2 he ext0)), by rw [updM_ne hef, updM_ne hel]; exact updM_same, by rw [updM_ne hlf]; exact updM_same, updM_same, hts, fun k hk => hzs.mem_iff.mp hk, by have := hzs.length_eq; rw [List.length_map] at this; simp; omega⟩
  · rintro k r ρ μ' N ⟨x, y, z, u, v, w, dn, rfl, e, h1, h2, h3, h4, h5, h6⟩ hN
    obtain ⟨val, hv⟩ := getL_some (h5 k List.mem_cons_self)
    obtain ⟨v1, v2, v3⟩ := hlv _ (getL_mem hv)
    have e1 := List.getElem?_eq_getElem (show k.1 < f.roads.length from v1)
    have gl := get_lt L k
    rw [hv] at gl
    rw [List.map_cons] at h4
    rw [List.length_cons] at h6
    have hmk : mkTp f es L k = ⟨k.1, k.2, f.roads[k.1].one, evOf es val.1, f.roads[k.1].other, evOf es val.2⟩ := by
      simp [mkTp, hv, e1]
    generalize f.roads[k.1] = t at e1 hmk
    simp [-Bool.exists_bool, -Prod.exists, fmD, prD, toI, e1, rtD, h2]
    refine ⟨lk k, rfl, _, gl, ?_⟩
    simp [-Bool.exists_bool, -Prod.exists, lvD, h3]
    refine u_event_number h1 (fun j hj => by rw [hel']; exact v2 j hj) ?_
    simp [-Bool.exists_bool, -Prod.exists]
    refine u_event_number h1 (fun j hj => by rw [hel']; exact v3 j hj) ?_
    simp [-Bool.exists_bool, -Prod.exists, h3]
    refine ⟨by omega, ?_⟩
    refine hN _ _ trivial ⟨_, _, _, _, _, _, dn ++ [mkTp f es L k], rfl, ext2 hf0 e, by rw [updM_ne hef]; exact h1, by rw [updM_ne hlf]; exact h2, ?_, by rw [← h4]; simp, fun j hj => h5 j (List.mem_cons_of_mem _ hj), by rw [List.length_append, List.length_singleton]; omega⟩
    rw [updM_same, List.map_append, hmk]
    rfl
  · rintro ρ μ' ⟨x, y, z, u, v, w, dn, rfl, e, h1, h2, h3, h4, h5, h6⟩
    rw [List.map_nil, List.append_nil] at h4
    subst h4
    simp
    refine Fg.of (q pf hf0) fun a c h => ?_
    by_cases ha : a = pf
    · subst ha; rw [updM_same] at h; rw [h3]; exact h
    · rw [updM_ne ha] at h; exact e _ _ h
end Cs

/-! ## CsH -/
namespace Cs
open PySem PySem.Spec PyProof.Rows L2 Dl
theorem while_gen {c : DT} {b : DS} {P : DEnds} (W : Nat → DEnv → Mu → Prop)
    (hs : ∀ m ρ μ (N : DEnv → Mu → Prop), W m ρ μ → (∀ m' ρ2 μ2, m' < m → W m' ρ2 μ2 → N ρ2 μ2) → c ρ μ fun k μ1 => if k = true then b { nx := N, rt := P.rt, bk := P.nx, ct := N } ρ μ1 else P.nx ρ μ1)
    {m : Nat} {ρ : DEnv} {μ : Mu} (h : W m ρ μ) : aWhile c b P ρ μ := ⟨W, ⟨m, h⟩, fun m ρ μ w => hs m ρ μ _ w fun m' _ _ l w' => ⟨m', l, w'⟩⟩
/-! ### cuts -/
def CutIs (μ : Mu) (d : D) (c : List Nat) : Prop := d = .tup (c.map nD) ∨ ∃ p, d = .ref p ∧ μ p = some (.lst (c.map nD))
def wasSent (t : Tp) (c : List Nat) : Bool := match t.snd with
  | none => true
  | some k => decide (k < c.getD t.one 0)
def hasCome (t : Tp) (c : List Nat) : Bool := match t.com with
  | none => false
  | some k => decide (k < c.getD t.other 0)
def isWhole (t : Tp) : Bool := t.snd.isSome && t.com.isSome
@[simp] theorem isNon_oN (o : Option Nat) : isNon (oN o) = o.isNone := by cases o <;> rfl
theorem getD_at {c : List Nat} {i : Nat} (h : i < c.length) : c[i]? = some (c.getD i 0) := by
  rw [List.getD_eq_getElem?_getD, List.getElem?_eq_getElem h]; rfl
def G_was_sent : DRs := fun ds μ Q => ∃ t c d, ds = [tpD t, d] ∧ CutIs μ d c ∧ t.one < c.length ∧ Q (.bl (wasSent t c)) μ
theorem u_was_sent {t c d μ Q} (h : CutIs μ d c) (h2 : t.one < c.length) (q : Q (.bl (wasSent t c)) μ) : G_was_sent [tpD t, d] μ Q := ⟨t, c, d, rfl, h, h2, q⟩
theorem d_was_sent (ds μ Q) (h : G_was_sent ds μ Q) : Body t_was_sent 2 ds μ Q := by
  obtain ⟨⟨rd, nm, one, snd, other, com⟩, c, d, rfl, hc, h1, q⟩ := h
  have q := Fg.same q
  have e := getD_at h1
  simp only at e
  cases snd with
  | none => simp [Body, t_was_sent, tpD, oN]; simpa [wasSent] using q
  | some k =>
    simp only [wasSent] at q
    generalize c.getD one 0 = v at e q
    rcases hc with rfl | ⟨p, rfl, hp⟩
    · simp [Body, t_was_sent, tpD, oN, e]; exact q
    · simp [Body, t_was_sent, tpD, oN, hp, e]; exact q
def G_has_come : DRs := fun ds μ Q => ∃ t c d, ds = [tpD t, d] ∧ CutIs μ d c ∧ t.other < c.length ∧ Q (.bl (hasCome t c)) μ
theorem u_has_come {t c d μ Q} (h : CutIs μ d c) (h2 : t.other < c.length) (q : Q (.bl (hasCome t c)) μ) : G_has_come [tpD t, d] μ Q := ⟨t, c, d, rfl, h, h2, q⟩
theorem d_has_come (ds μ Q) (h : G_has_come ds μ Q) : Body t_has_come 2 ds μ Q := by
  obtain ⟨⟨rd, nm, one, snd, other, com⟩, c, d, rfl, hc, h1, q⟩ := h
  have q := Fg.same q
  have e := getD_at h1
  simp only at e
  cases com with
  | none => simp [Body, t_has_come, tpD, oN]; simpa [hasCome] using q
  | some k =>
    simp only [hasCome] at q
    generalize c.getD other 0 = v at e q
    rcases hc with rfl | ⟨p, rfl, hp⟩
    · simp [Body, t_has_come, tpD, oN, e]; exact q
    · simp [Body, t_has_come, tpD, oN, hp, e]; exact q
def G_is_whole_trip : DRs := fun ds μ Q => ∃ t, ds = [tpD t] ∧ Q (.bl (isWhole t)) μ
theorem u_is_whole_trip {t μ Q} (q : Q (.bl (isWhole t)) μ) : G_is_whole_trip [tpD t] μ Q := ⟨t, rfl, q⟩
theorem d_is_whole_trip (ds μ Q) (h : G_is_whole_trip ds μ Q) : Body t_is_whole_trip 1 ds μ Q := by
  obtain ⟨⟨rd, nm, one, snd, other, com⟩, rfl, q⟩ := h
  have q := Fg.same q
  simp only [isWhole] at q
  cases snd <;> cases com <;> simp [Body, t_is_whole_trip, tpD, oN] <;> simpa using q
def crossL (ts : List Tp) (c : List Nat) : Option Tp := ts.find? fun t => hasCome t c && !wasSent t c
def otD : Option Tp → D
  | none => .non
  | some t => tpD t
def TsOk (n : Nat) (ts : List Tp) : Prop := ∀ t ∈ ts, t.one < n ∧ t.other < n
def G_crossing : DRs := fun ds μ Q => ∃ p ts c d, ds = [.ref p, d] ∧ μ p = some (.lst (ts.map tpD)) ∧ CutIs μ d c ∧ TsOk c.length ts ∧ Q (otD (crossL ts c)) μ
theorem u_crossing {p ts c d μ Q} (h : μ p = some (.lst (List.map tpD ts))) (h2 : CutIs μ d c) (h3 : TsOk c.length ts) (q : Q (otD (crossL ts c)) μ) : G_crossing [.ref p, d] μ Q := ⟨p, ts, c, d, rfl, h, h2, h3, q⟩
theorem d_crossing (ds μ Q) (h : G_crossing ds μ Q) : Body (t_crossing G_has_come G_was_sent) 3 ds μ Q := by
  obtain ⟨p, ts, c, d, rfl, hp, hc, ok, q⟩ := h
  have q := Fg.same q
  simp [-Bool.exists_bool, Body, t_crossing, hp]
  refine for_map (fun r ρ μ' => (∃ x, ρ = [some (.ref p), some d, x]) ∧ μ' = μ ∧ crossL r c = crossL ts c ∧ TsOk c.length r) ?_ ?_ ⟨⟨_, rfl⟩, rfl, rfl, ok⟩
  · rintro t r ρ μ' N ⟨⟨x, rfl⟩, rfl, e, ok'⟩ hN
    obtain ⟨o1, o2⟩ := ok' t List.mem_cons_self
    have ok2 : TsOk c.length r := fun z hz => ok' z (List.mem_cons_of_mem _ hz)
    rw [← e] at q
    simp [-Bool.exists_bool]
    refine u_has_come hc o2 ?_
    by_cases h : hasCome t c = true
    · simp [-Bool.exists_bool, h]
      refine u_was_sent hc o1 ?_
      by_cases h2 : wasSent t c = true
      · simp [h2]
        exact hN _ _ hp ⟨⟨_, rfl⟩, rfl, by rw [← e]; unfold crossL; rw [List.find?_cons_of_neg (by simp [h2])], ok2⟩
      · have e2 : crossL (t :: r) c = some t := by unfold crossL; rw [List.find?_cons_of_pos (by simp [h, h2])]
        rw [e2] at q
        simp [h2]
        exact q
    · simp [h]
      exact hN _ _ hp ⟨⟨_, rfl⟩, rfl, by rw [← e]; unfold crossL; rw [List.find?_cons_of_neg (by simp [h])], ok2⟩
  · rintro ρ μ' ⟨⟨x, rfl⟩, rfl, e, ok'⟩
    rw [← e] at q
    simpa [crossL, otD] using q
end Cs

/-! ## CsI -/
namespace Cs
open PySem PySem.Spec PyProof.Rows L2 Dl
/-! ### tables -/
section
variable {α β κ : Type} [DecidableEq α] [DecidableEq κ]
def putA (l : List (α × β)) (k : α) (v : β) : List (α × β) := if (l.any fun x => decide (x.1 = k)) = true then l.map fun x => if x.1 = k then (x.1, v) else x else l ++ [(k, v)]
def getA (l : List (α × β)) (k : α) : Option β := (l.find? fun x => decide (x.1 = k)).map (·.2)
theorem put_map {f : α → κ} {g : β → D} (hf : ∀ a b, f a = f b ↔ a = b) (l : List (α × β)) (k : α) (v : β) : putD (l.map fun x => (f x.1, g x.2)) (f k) (g v) = (putA l k v).map fun x => (f x.1, g x.2) := by
  have e : (l.map fun x => (f x.1, g x.2)).any (fun kv => decide (kv.1 = f k)) = l.any fun x => decide (x.1 = k) := by
    rw [List.any_map]
    congr 1
    funext x
    simp [hf]
  unfold putD putA
  rw [e]
  split
  · rw [List.map_map, List.map_map]
    refine List.map_congr_left fun x _ => ?_
    simp only [Function.comp, hf]
    split <;> rfl
  · rw [List.map_append]; rfl
theorem get_map {f : α → κ} {g : β → D} (hf : ∀ a b, f a = f b ↔ a = b) (l : List (α × β)) (k : α) : valD (l.map fun x => (f x.1, g x.2)) (f k) = (getA l k).map g := by
  unfold valD getA
  rw [List.find?_map]
  have e : ((fun kv : κ × D => decide (kv.1 = f k)) ∘ fun x : α × β => (f x.1, g x.2)) = fun x => decide (x.1 = k) := by
    funext x; simp [hf]
  rw [e]
  cases l.find? (fun x => decide (x.1 = k)) <;> rfl
theorem putA_keys (l : List (α × β)) (k : α) (v : β) : (putA l k v).map (·.1) = if k ∈ l.map (·.1) then l.map (·.1) else l.map (·.1) ++ [k] := by
  unfold putA
  have e : (l.any fun x => decide (x.1 = k)) = true ↔ k ∈ l.map (·.1) := by
    rw [List.any_eq_true]
    constructor
    · rintro ⟨x, hx, h⟩
      exact List.mem_map.mpr ⟨x, hx, by simpa using h⟩
    · intro h
      obtain ⟨x, hx, rfl⟩ := List.mem_map.mp h
      exact ⟨x, hx, by simp⟩
  by_cases h : k ∈ l.map (·.1)
  · rw [if_pos h, if_pos (e.mpr h), List.map_map]
    refine List.map_congr_left fun x _ => ?_
    simp only [Function.comp]
    split <;> rfl
  · rw [if_neg h, if_neg (fun z => h (e.mp z)), List.map_append]; rfl
theorem putA_nodup {l : List (α × β)} {k : α} {v : β} (h : (l.map (·.1)).Nodup) : ((putA l k v).map (·.1)).Nodup := by
  rw [putA_keys]
  split
  · exact h
  · rename_i n
    rw [List.nodup_append]
    refine ⟨h, by simp, ?_⟩
    intro a ha b hb e
    simp at hb
    exact n (by rw [← hb, ← e]; exact ha)
theorem getA_mem {l : List (α × β)} {k : α} {v : β} (h : getA l k = some v) : (k, v) ∈ l := by
  unfold getA at h
  obtain ⟨x, hx, rfl⟩ := Option.map_eq_some_iff.mp h
  have h1 := List.find?_some hx
  simp at h1
  have h2 := List.mem_of_find?_eq_some hx
  rw [← h1]; exact h2
theorem getA_isSome {l : List (α × β)} {k : α} : (getA l k).isSome = true ↔ k ∈ l.map (·.1) := by
  unfold getA
  rw [Option.isSome_map, List.find?_isSome, List.mem_map]
  constructor
  · rintro ⟨x, hx, h⟩
    exact ⟨x, hx, by simpa using h⟩
  · rintro ⟨x, hx, rfl⟩
    exact ⟨x, hx, by simp⟩
theorem getA_put {l : List (α × β)} {k j : α} {v : β} : getA (putA l k v) j = if j = k then some v else getA l j := by
  have key : ∀ l : List (α × β), getA (l.map fun x => if x.1 = k then (x.1, v) else x) j = if j = k then (if (l.any fun x => decide (x.1 = k)) = true then some v else none) else getA l j := by
    intro l
    induction l with
    | nil => simp [getA]
    | cons x r ih =>
      unfold getA at ih ⊢
      rw [List.map_cons, List.find?_cons, List.find?_cons]
      by_cases h : x.1 = k
      · rw [if_pos h]
        by_cases hj : x.1 = j
        · have : j = k := by rw [← hj]; exact h
          simp [hj, this]
        · have : j ≠ k := fun e => hj (by rw [e]; exact h)
          simp only [hj, decide_false]
          rw [ih]
          simp [this]
      · rw [if_neg h]
        by_cases hj : x.1 = j
        · have : j ≠ k := fun e => h (by rw [hj]; exact e)
          simp [hj, this]
        · simp only [hj, decide_false]
          rw [ih]
          by_cases e : j = k
          · rw [if_pos e, if_pos e, List.any_cons, decide_eq_false h, Bool.false_or]
          · rw [if_neg e, if_neg e]
  unfold putA
  split
  · rename_i h
    rw [key, h]
    simp
  · rename_i h
    unfold getA
    rw [List.find?_append]
    by_cases hj : j = k
    · subst hj
      have : l.find? (fun x => decide (x.1 = j)) = none := by
        rw [List.find?_eq_none]
        intro x hx z
        exact h (List.any_eq_true.mpr ⟨x, hx, z⟩)
      rw [this]
      simp
    · have : ¬ k = j := fun e => hj e.symm
      simp [hj, this]
end
/-! ### the lowering -/
abbrev Cho := List (Bool × List Nat)
def rowOf (cs : Cho) (m : Nat) : List Nat := (cs[m]?.getD (false, [])).2
def lastL (r : List Nat) : Nat := r.getLastD 0
def line0 (cs : Cho) : List Nat := cs.map fun r => lastL r.2
abbrev Way := List Lk
abbrev LS := List Nat × List (Nat × Way)
def stepL (cs : Cho) (s : LS) (t : Tp) : LS := (s.1.set t.other (floorL (rowOf cs t.other) (t.com.getD 0)), putA s.2 t.other ((getA s.2 t.one).getD [] ++ [(t.rd, t.nm)]))
def lowL (ts : List Tp) (cs : Cho) : Nat → LS → LS
  | 0, s => s
  | n + 1, s => match crossL ts s.1 with
    | none => s
    | some t => lowL ts cs n (stepL cs s t)
/-- rows that can be walked -/
structure OkC (cs : Cho) : Prop where
  n : cs.length ≤ 10
  z : ∀ r ∈ cs, 0 ∈ r.2
  len : ∀ r ∈ cs, r.2.length ≤ 1000
  big : (line0 cs).sum ≤ 100000
theorem row_at {cs : Cho} {m : Nat} (h : m < cs.length) : ∃ r, cs[m]? = some r ∧ r ∈ cs ∧ rowOf cs m = r.2 := by
  refine ⟨_, List.getElem?_eq_getElem h, List.getElem_mem h, ?_⟩
  unfold rowOf; rw [List.getElem?_eq_getElem h]; rfl
theorem floorL_mem {r : List Nat} {n : Nat} (h : 0 ∈ r) : floorL r n ∈ r ∧ floorL r n ≤ n := by
  unfold floorL
  cases e : (r.filter (· ≤ n)).max? with
  | none =>
    rw [List.max?_eq_none_iff] at e
    have : 0 ∈ r.filter (· ≤ n) := List.mem_filter.mpr ⟨h, by simp⟩
    rw [e] at this; cases this
  | some m =>
    have := List.mem_filter.mp (List.max?_mem e)
    simpa using this
theorem floorL_max {r : List Nat} {n x : Nat} (h : x ∈ r) (hx : x ≤ n) : x ≤ floorL r n := by
  unfold floorL
  have hm : x ∈ r.filter (· ≤ n) := List.mem_filter.mpr ⟨h, by simpa using hx⟩
  cases e : (r.filter (· ≤ n)).max? with
  | none => rw [List.max?_eq_none_iff] at e; rw [e] at hm; cases hm
  | some m => exact (List.max?_le_iff e).mp (Nat.le_refl _) x hm
theorem sum_set : ∀ {l : List Nat} {i v : Nat} (h : i < l.length), (l.set i v).sum + l.getD i 0 = l.sum + v
  | a :: r, 0, v, h => by simp [List.sum_cons]; omega
  | a :: r, i + 1, v, h => by
    have := sum_set (l := r) (i := i) (v := v) (by simpa using h)
    simp [List.sum_cons] at this ⊢
    omega
theorem cross_some {ts : List Tp} {c : List Nat} {t : Tp} (h : crossL ts c = some t) : t ∈ ts ∧ ∃ k j, t.snd = some k ∧ t.com = some j ∧ j < c.getD t.other 0 ∧ c.getD t.one 0 ≤ k := by
  have h1 := List.mem_of_find?_eq_some h
  have h2 := List.find?_some h
  refine ⟨h1, ?_⟩
  unfold hasCome wasSent at h2
  cases e1 : t.snd with
  | none => simp [e1] at h2
  | some k =>
    cases e2 : t.com with
    | none => simp [e2] at h2
    | some j =>
      simp [e1, e2] at h2
      exact ⟨k, j, rfl, rfl, by simpa using h2.1, by simpa using h2.2⟩
structure InvL (ts : List Tp) (cs : Cho) (s : LS) : Prop where
  len : s.1.length = cs.length
  nd : (s.2.map (·.1)).Nodup
  keys : ∀ k ∈ s.2.map (·.1), k < cs.length
  wl : ∀ x ∈ s.2, x.2.length + s.1.sum ≤ 100000
  sm : s.1.sum ≤ 100000
theorem putA_mem {α β : Type} [DecidableEq α] {l : List (α × β)} {k : α} {v : β} {x : α × β} (h : x ∈ putA l k v) : x.2 = v ∨ x ∈ l := by
  unfold putA at h
  split at h
  · obtain ⟨y, hy, rfl⟩ := List.mem_map.mp h
    split
    · exact .inl rfl
    · exact .inr hy
  · rcases List.mem_append.mp h with h | h
    · exact .inr h
    · simp at h; subst h; exact .inl rfl
theorem InvL.step {ts : List Tp} {cs : Cho} {s : LS} {t : Tp} (o : OkC cs) (hts : TsOk cs.length ts) (i : InvL ts cs s) (h : crossL ts s.1 = some t) : InvL ts cs (stepL cs s t) ∧ (stepL cs s t).1.sum < s.1.sum := by
  obtain ⟨hm, k, j, e1, e2, h1, h2⟩ := cross_some h
  obtain ⟨o1, o2⟩ := hts t hm
  obtain ⟨r, hr, hrm, hro⟩ := row_at o2
  obtain ⟨f1, f2⟩ := floorL_mem (n := j) (o.z r hrm)
  have hs := sum_set (l := s.1) (i := t.other) (v := floorL (rowOf cs t.other) (t.com.getD 0)) (by rw [i.len]; exact o2)
  have hlt : (stepL cs s t).1.sum < s.1.sum := by
    rw [hro, e2] at hs
    simp only [Option.getD_some] at hs
    unfold stepL
    rw [hro, e2]
    simp only [Option.getD_some]
    omega
  refine ⟨⟨by simp [stepL, i.len], putA_nodup i.nd, fun x hx => ?_, fun x hx => ?_, by have := i.sm; omega⟩, hlt⟩
  · simp only [stepL] at hx
    rw [putA_keys] at hx
    split at hx
    · exact i.keys x hx
    · rcases List.mem_append.mp hx with hx | hx
      · exact i.keys x hx
      · simp at hx; rw [hx]; exact o2
  · rcases putA_mem (show x ∈ putA s.2 t.other _ from hx) with e | e
    · rw [e, List.length_append, List.length_singleton]
      cases hg : getA s.2 t.one with
      | none => simp; have := i.sm; omega
      | some w =>
        have := i.wl _ (getA_mem hg)
        simp
        simp only at this
        omega
    · have := i.wl x e; omega
theorem lowL_fuel {ts : List Tp} {cs : Cho} (o : OkC cs) (hts : TsOk cs.length ts) : ∀ (n : Nat) (s : LS), InvL ts cs s → s.1.sum ≤ n → lowL ts cs n s = lowL ts cs s.1.sum s
  | 0, s, i, h => by rw [Nat.le_zero.mp h]
  | n + 1, s, i, h => by
    cases e : crossL ts s.1 with
    | none =>
      have : ∀ m, lowL ts cs m s = s := fun m => by cases m <;> simp [lowL, e]
      rw [this, this]
    | some t =>
      obtain ⟨i2, lt⟩ := i.step o hts e
      obtain ⟨m, hm⟩ : ∃ m, s.1.sum = m + 1 := ⟨s.1.sum - 1, by omega⟩
      rw [hm]
      simp only [lowL, e]
      rw [lowL_fuel o hts n _ i2 (by omega), ← lowL_fuel o hts m _ i2 (by omega)]
termination_by n => n
end Cs

/-! ## CsJ -/
namespace Cs
open PySem PySem.Spec PyProof.Rows L2 Dl
def wyD (x : Nat × Way) : D := .tup [nD x.1, .tup (x.2.map lkD)]
def kN (m : Nat) : Key := Sum.inl (m : Int)
def wD (w : Way) : D := .tup (w.map lkD)
theorem kN_inj (a b : Nat) : kN a = kN b ↔ a = b := by
  unfold kN
  constructor
  · intro h; have := Sum.inl.inj h; omega
  · rintro rfl; rfl
def wkD (x : Nat × Way) : Key × D := (kN x.1, wD x.2)
def lowRes (ts : List Tp) (cs : Cho) : LS :=
  let s := lowL ts cs (line0 cs).sum (line0 cs, [])
  (s.1, (List.range cs.length).filterMap fun m => (getA s.2 m).map fun w => (m, w))
def G_lowered : DRs := fun ds μ Q => ∃ p ts cs, ds = [.ref p, choD cs] ∧ μ p = some (.lst (ts.map tpD)) ∧ OkC cs ∧ TsOk cs.length ts ∧ ∀ q, μ q = none → Q (.tup [.tup ((lowRes ts cs).1.map nD), .ref q]) (updM μ q (.lst ((lowRes ts cs).2.map wyD)))
theorem u_lowered {p ts cs μ Q} (h : μ p = some (.lst (List.map tpD ts))) (o : OkC cs) (t : TsOk cs.length ts) (q : ∀ q, μ q = none → Q (.tup [.tup ((lowRes ts cs).1.map nD), .ref q]) (updM μ q (.lst ((lowRes ts cs).2.map wyD)))) : G_lowered [.ref p, choD cs] μ Q := ⟨p, ts, cs, rfl, h, o, t, q⟩
theorem u_floor_of {r row n μ Q} (h : seqD r = some (List.map nD row)) (h1 : row.length ≤ sizeLine) (h2 : 0 ∈ row) (q : Q (nD (floorL row n)) μ) : G_floor_of [r, nD n] μ Q := ⟨r, row, n, rfl, h, h1, h2, q⟩
theorem last_at {l : List Nat} (h : l ≠ []) : l[l.length - 1]? = some (lastL l) := by
  unfold lastL
  rw [List.getLastD_eq_getLast?, List.getLast?_eq_getElem?]
  cases l with
  | nil => exact absurd rfl h
  | cons a r => simp
theorem isNon_otD (o : Option Tp) : isNon (otD o) = o.isNone := by cases o <;> rfl
/-- the keys in order -/
theorem sorted_keys {zs : List Nat} {ways : List (Nat × Way)} {n : Nat} (nd : (ways.map (·.1)).Nodup) (hk : ∀ k ∈ ways.map (·.1), k < n) (hp : zs.Perm (ways.map (·.1))) (hs : zs.Pairwise (· ≤ ·)) :
    zs = (List.range n).filter fun m => (getA ways m).isSome := by
  have nd2 := hp.symm.nodup nd
  refine List.Perm.eq_of_pairwise (le := (· ≤ ·)) (fun a b _ _ h1 h2 => by omega) hs ((List.pairwise_lt_range.imp fun h => by omega).filter _) ?_
  rw [List.perm_ext_iff_of_nodup nd2 (List.nodup_range.sublist List.filter_sublist)]
  intro a
  rw [hp.mem_iff, List.mem_filter, List.mem_range]
  constructor
  · intro h; exact ⟨hk a h, getA_isSome.mpr h⟩
  · intro h; exact getA_isSome.mp h.2
theorem keys_len {ways : List (Nat × Way)} {n : Nat} (nd : (ways.map (·.1)).Nodup) (hk : ∀ k ∈ ways.map (·.1), k < n) : ways.length ≤ n := by
  have hp : (ways.map (·.1)).Perm ((List.range n).filter fun m => (getA ways m).isSome) := by
    rw [List.perm_ext_iff_of_nodup nd (List.nodup_range.sublist List.filter_sublist)]
    intro a
    rw [List.mem_filter, List.mem_range]
    exact ⟨fun h => ⟨hk a h, getA_isSome.mpr h⟩, fun h => getA_isSome.mp h.2⟩
  have h1 := hp.length_eq
  have h2 := List.length_filter_le (fun m => (getA ways m).isSome) (List.range n)
  rw [List.length_map] at h1
  rw [List.length_range] at h2
  omega
theorem filterMap_get (ways : List (Nat × Way)) (l : List Nat) : (l.filter fun m => (getA ways m).isSome).map (fun m => (m, (getA ways m).getD [])) = l.filterMap fun m => (getA ways m).map fun w => (m, w) := by
  induction l with
  | nil => rfl
  | cons a r ih =>
    rw [List.filter_cons, List.filterMap_cons]
    cases e : getA ways a with
    | none => simp [ih]
    | some w => simp [e, ih]
theorem d_lowered (ds μ Q) (h : G_lowered ds μ Q) : Body (t_lowered G_crossing G_floor_of) 12 ds μ Q := by
  obtain ⟨p, ts, cs, rfl, hp, o, hts, q⟩ := h
  have hz : 200000 ≤ sizeLine := by decide
  have hn := o.n
  simp [-Bool.exists_bool, -Prod.exists, Body, t_lowered, choD]
  refine lc_all (fun r => nD (lastL r.2)) trivial (fun r hr Y hy => ?_) (by omega) ?_
  · have hne : r.2 ≠ [] := fun e => by have := o.z r hr; rw [e] at this; cases this
    have hl := last_at hne
    unfold rwD
    split
    · simp [-Bool.exists_bool, -Prod.exists, Dl.atI_last, hl]; exact hy
    · simp [-Bool.exists_bool, -Prod.exists, Dl.atI_last, hl]; exact hy
  intro pl hpl pw hpw
  have hlw : pl ≠ pw := fun e => by subst e; simp at hpw
  have hw0 : μ pw = none := by rw [updM_ne hlw.symm] at hpw; exact hpw
  have hppl : p ≠ pl := mu_ne hp hpl
  have hppw : p ≠ pw := mu_ne hp hw0
  have hl0 : cs.map (fun r => nD (lastL r.2)) = (line0 cs).map nD := by unfold line0; rw [List.map_map]; rfl
  rw [hl0]
  have hlen0 : (line0 cs).length = cs.length := by unfold line0; rw [List.length_map]
  refine u_crossing (c := line0 cs) (by rw [updM_ne hppw, updM_ne hppl]; exact hp) (.inr ⟨pl, rfl, by rw [updM_ne hlw]; exact updM_same⟩) (by rw [hlen0]; exact hts) ?_
  refine while_gen (fun m ρ μ' => ∃ line ways x y z u v, ρ = [some (.ref p), some (choD cs), some (.ref pl), none, some (.ref pw), some (otD (crossL ts line)), x, y, z, u, v, none] ∧ (∀ a c, μ a = some c → μ' a = some c) ∧ μ' pl = some (.lst (line.map nD)) ∧ μ' pw = some (.dK (ways.map wkD)) ∧
      InvL ts cs (line, ways) ∧ m = line.sum ∧ lowL ts cs line.sum (line, ways) = lowL ts cs (line0 cs).sum (line0 cs, [])) ?_ ⟨line0 cs, [], _, _, _, _, _, rfl, ext2 hw0 (ext1 hpl ext0), by rw [updM_ne hlw]; exact updM_same, updM_same, ⟨hlen0, by simp, by simp, by simp, o.big⟩, rfl, rfl⟩
  rintro m ρ μ' N ⟨line, ways, x, y, z, u, v, rfl, e, h1, h2, inv, rfl, hlow⟩ hN
  have hlen : ways.length ≤ 10 := by
    have : ways.length ≤ cs.length := keys_len inv.nd inv.keys
    omega
  cases hc : crossL ts line with
  | some t =>
    obtain ⟨hm, k, j, e1, e2, g1, g2⟩ := cross_some hc
    obtain ⟨o1, o2⟩ := hts t hm
    obtain ⟨r, hr, hrm, hro⟩ := row_at o2
    obtain ⟨inv2, lt⟩ := inv.step o hts hc
    have hll : line.length = cs.length := inv.len
    have hstep : stepL cs (line, ways) t = (line.set t.other (floorL r.2 j), putA ways t.other ((getA ways t.one).getD [] ++ [(t.rd, t.nm)])) := by unfold stepL; rw [hro, e2]; rfl
    rw [hstep] at inv2 lt
    have lt : (line.set t.other (floorL r.2 j)).sum < line.sum := lt
    obtain ⟨n0, hn0⟩ : ∃ n, line.sum = n + 1 := ⟨line.sum - 1, by omega⟩
    rw [hn0] at hlow
    simp only [lowL, hc] at hlow
    rw [hstep, lowL_fuel o hts _ _ inv2 (by show (line.set t.other (floorL r.2 j)).sum ≤ n0; omega)] at hlow
    have hix : ixN line.length (t.other : Int) = some t.other := by
      unfold ixN; rw [if_pos (by omega), if_pos (by omega)]; rfl
    have hgw : valD (ways.map wkD) (Sum.inl (t.one : Int)) = (getA ways t.one).map wD := get_map kN_inj ways t.one
    have hpw : putD (ways.map wkD) (Sum.inl (t.other : Int)) (wD ((getA ways t.one).getD [] ++ [(t.rd, t.nm)])) = (putA ways t.other ((getA ways t.one).getD [] ++ [(t.rd, t.nm)])).map wkD := put_map kN_inj ways t.other _
    have m2 : ∀ X, updM μ' pl X pw = some (.dK (ways.map wkD)) := fun X => by rw [updM_ne hlw.symm]; exact h2
    simp [-Bool.exists_bool, -Prod.exists, hc, otD, tpD, e1, e2, oN, choD, hr]
    refine u_floor_of (seq_rw r) (by have := o.len r hrm; omega) (o.z r hrm) ?_
    simp [-Bool.exists_bool, -Prod.exists, h1, hix, isDC, getDD, m2, hgw]
    have hwl : ((getA ways t.one).getD []).length ≤ 100000 := by
      cases hg : getA ways t.one with
      | none => simp
      | some w => have := inv.wl _ (getA_mem hg); simp at this ⊢; omega
    have hgd : ((getA ways t.one).map wD).getD (.tup []) = wD ((getA ways t.one).getD []) := by cases getA ways t.one <;> rfl
    rw [hgd]
    simp [-Bool.exists_bool, -Prod.exists, wD, m2]
    refine ⟨by omega, by omega, ?_⟩
    rw [show D.tup (((getA ways t.one).getD []).map lkD ++ [lkD (t.rd, t.nm)]) = wD ((getA ways t.one).getD [] ++ [(t.rd, t.nm)]) by simp [wD], hpw]
    have hline : (line.map nD).set t.other (nD (floorL r.2 j)) = (line.set t.other (floorL r.2 j)).map nD := by rw [List.map_set]
    rw [hline]
    refine u_crossing (c := line.set t.other (floorL r.2 j)) (by rw [updM_ne hppw, updM_ne hppl]; exact e _ _ hp) (.inr ⟨pl, rfl, by rw [updM_ne hlw]; exact updM_same⟩) (by rw [List.length_set, hll]; exact hts) ?_
    simp [-Bool.exists_bool, -Prod.exists]
    exact hN _ _ _ lt ⟨_, _, _, _, _, _, _, rfl, ext2 hw0 (ext2 hpl e), by rw [updM_ne hlw, updM_same, List.map_set], updM_same, inv2, rfl, hlow⟩
  | none =>
    have hs : ∀ m, lowL ts cs m (line, ways) = (line, ways) := fun m => by cases m <;> simp [lowL, hc]
    rw [hs] at hlow
    unfold lowRes at q
    rw [← hlow] at q
    simp only at q
    simp [-Bool.exists_bool, -Prod.exists, hc, otD, h1]
    refine ⟨ways.map wkD, h2, ways.map (fun x => (x.1 : Int)), by rw [List.map_map, List.map_map]; rfl, by rw [List.length_map]; omega, fun ys hys hso => ?_⟩
    have hyz : ∃ zs : List Nat, ys = zs.map (fun (n : Nat) => (n : Int)) ∧ zs.Perm (ways.map (·.1)) := by
      refine ⟨ys.map Int.toNat, ?_, ?_⟩
      · rw [List.map_map]
        conv => lhs; rw [← List.map_id ys]
        refine List.map_congr_left fun y hy => ?_
        obtain ⟨k, _, rfl⟩ := List.mem_map.mp (hys.mem_iff.mp hy)
        simp
      · have := hys.map Int.toNat
        rw [List.map_map] at this
        exact this
    obtain ⟨zs, rfl, hzs⟩ := hyz
    have hso' : zs.Pairwise (· ≤ ·) := by
      rw [List.pairwise_map] at hso
      exact hso.imp fun h => by omega
    have hzk := sorted_keys inv.nd inv.keys hzs hso'
    rw [List.map_map]
    refine lc_all (fun n => wyD (n, (getA ways n).getD [])) trivial (fun n hnm Y hy => ?_) (by have := hzs.length_eq; rw [List.length_map] at this; omega) ?_
    · obtain ⟨w, hw⟩ := Option.isSome_iff_exists.mp (getA_isSome.mpr (hzs.mem_iff.mp hnm))
      have hgw : valD (ways.map wkD) (Sum.inl (n : Int)) = (getA ways n).map wD := get_map kN_inj ways n
      rw [hw] at hgw hy
      simp [-Bool.exists_bool, -Prod.exists, h2, hgw]
      exact hy
    · intro pq hpq
      have hq0 : μ pq = none := by
        cases hx : μ pq with
        | none => rfl
        | some c => rw [e _ _ hx] at hpq; cases hpq
      have hfin : zs.map (fun n => wyD (n, (getA ways n).getD [])) = ((List.range cs.length).filterMap fun m => (getA ways m).map fun w => (m, w)).map wyD := by
        rw [← filterMap_get, ← hzk, List.map_map]; rfl
      rw [hfin]
      refine Fg.of (q pq hq0) fun a c h => ?_
      by_cases ha : a = pq
      · subst ha; rw [updM_same] at h ⊢; exact h
      · rw [updM_ne ha] at h ⊢; exact e _ _ h
end Cs

/-! ## CsK -/
namespace Cs
open PySem PySem.Spec PyProof.Rows L2 Dl
theorem extq {μ μ' : Mu} {q : Addr} {X : C} (e : ∀ a c, μ a = some c → μ' a = some c) : ∀ a c, updM μ q X a = some c → updM μ' q X a = some c := fun a c h => by
  by_cases ha : a = q
  · subst ha; rw [updM_same] at h ⊢; exact h
  · rw [updM_ne ha] at h ⊢; exact e _ _ h
theorem none_of {μ μ' : Mu} {q : Addr} (e : ∀ a c, μ a = some c → μ' a = some c) (h : μ' q = none) : μ q = none := by
  cases hx : μ q with
  | none => rfl
  | some c => rw [e _ _ hx] at h; cases h
/-! ### latest -/
def G_latest : DRs := fun ds μ Q => ∃ f s p l ts cs, ds = [fmD f, sdD s, .ref p, choD cs] ∧ μ p = some (.lst (l.map ddD)) ∧ OkT f s l ∧ IsTrips f s l ts ∧ OkC cs ∧ TsOk cs.length ts ∧ ∀ q, μ q = none → Q (.tup [.tup ((lowRes ts cs).1.map nD), .ref q]) (updM μ q (.lst ((lowRes ts cs).2.map wyD)))
theorem u_latest {f s p l ts cs μ Q} (h : μ p = some (.lst (List.map ddD l))) (o : OkT f s l) (i : IsTrips f s l ts) (oc : OkC cs) (t : TsOk cs.length ts) (q : ∀ q, μ q = none → Q (.tup [.tup ((lowRes ts cs).1.map nD), .ref q]) (updM μ q (.lst ((lowRes ts cs).2.map wyD)))) : G_latest [fmD f, sdD s, .ref p, choD cs] μ Q := ⟨f, s, p, l, ts, cs, rfl, h, o, i, oc, t, q⟩
theorem d_latest (ds μ Q) (h : G_latest ds μ Q) : Body (t_latest G_lowered G_trips) 4 ds μ Q := by
  obtain ⟨f, s, p, l, ts, cs, rfl, hp, o, it, oc, ht, q⟩ := h
  simp [-Bool.exists_bool, -Prod.exists, Body, t_latest]
  refine u_trips hp o it fun pt hpt => ?_
  refine u_lowered updM_same oc ht fun pq hpq => ?_
  have e := ext1 (c := .lst (ts.map tpD)) hpt (ext0 (μ := μ))
  exact Fg.of (q pq (none_of e hpq)) (extq e)
/-! ### ways -/
def byD (ts : List Tp) : List (List Key × D) := ts.map fun t => (lk (t.rd, t.nm), tpD t)
def tripOf (ts : List Tp) (k : Lk) : Option Tp := ts.find? fun t => decide ((t.rd, t.nm) = k)
theorem val_by (ts : List Tp) (k : Lk) : valD (byD ts) (lk k) = (tripOf ts k).map tpD := by
  unfold valD byD tripOf
  rw [List.find?_map]
  have e : ((fun kv : List Key × D => decide (kv.1 = lk k)) ∘ fun t : Tp => (lk (t.rd, t.nm), tpD t)) = fun t => decide ((t.rd, t.nm) = k) := by
    funext x; simp only [Function.comp, lk_inj]
  rw [e]
  cases ts.find? (fun t => decide ((t.rd, t.nm) = k)) <;> rfl
def WayOk (ts : List Tp) (cs : Cho) : Option Tp → Way → Prop
  | _, [] => True
  | ah, k :: r => ∃ t i j, tripOf ts k = some t ∧ t.snd = some i ∧ t.com = some j ∧ t.one < cs.length ∧ (match ah with
    | none => lastL (rowOf cs t.one) ≤ i
    | some a => t.one = a.other ∧ a.com.isSome = true ∧ floorL (rowOf cs t.one) (a.com.getD 0) ≤ i) ∧ WayOk ts cs (some t) r
def G_wrong_place : DRs := fun ds μ Q => ∃ p ts cs way, ds = [.ref p, choD cs, wD way] ∧ μ p = some (.dT (byD ts)) ∧ OkC cs ∧ WayOk ts cs none way ∧ Q .non μ
theorem u_wrong_place {p ts cs way μ Q} (h : μ p = some (.dT (byD ts))) (o : OkC cs) (w : WayOk ts cs none way) (q : Q .non μ) : G_wrong_place [.ref p, choD cs, wD way] μ Q := ⟨p, ts, cs, way, rfl, h, o, w, q⟩
theorem rwD_cases (r : Bool × List Nat) : rwD r = .tup (r.2.map nD) ∨ rwD r = .ftup (r.2.map nD) := by unfold rwD; split <;> simp
theorem d_wrong_place (ds μ Q) (h : G_wrong_place ds μ Q) : Body (t_wrong_place G_is_whole_trip G_floor_of) 8 ds μ Q := by
  obtain ⟨p, ts, cs, way, rfl, hp, o, w, q⟩ := h
  have q := Fg.same q
  have hz : 200000 ≤ sizeLine := by decide
  simp [-Bool.exists_bool, -Prod.exists, Body, t_wrong_place, wD]
  rw [enD_ddD]
  refine for_map (fun r ρ μ' => ∃ ah x y z u, ρ = [some (.ref p), some (choD cs), some (wD way), some (otD ah), x, y, z, u] ∧ μ' = μ ∧ WayOk ts cs ah (r.map (·.1))) ?_ ?_ ⟨none, _, _, _, _, rfl, rfl, by simpa using w⟩
  · rintro ⟨k, n⟩ r ρ μ' N ⟨ah, x, y, z, u, rfl, rfl, ok⟩ hN
    obtain ⟨t, i, j, ht, e1, e2, h1, hah, ok2⟩ := ok
    obtain ⟨rr, hr, hrm, hro⟩ := row_at h1
    have hv := val_by ts k
    rw [ht, Option.map_some] at hv
    have hw : isWhole t = true := by simp [isWhole, e1, e2]
    have ht5 : tpD t = .tup [lkD (t.rd, t.nm), nD t.one, nD i, nD t.other, nD j] := by simp [tpD, e1, e2, oN]
    have hne : rr.2 ≠ [] := fun e => by have := o.z rr hrm; rw [e] at this; cases this
    have hl := last_at hne
    rw [hro] at hah
    simp [-Bool.exists_bool, -Prod.exists, isDC, hp, getDD]
    refine ⟨lk k, rfl, ?_⟩
    rw [hv]
    simp [-Bool.exists_bool, -Prod.exists]
    rw [show Dl.isNon (tpD t) = false from rfl]
    simp [-Bool.exists_bool, -Prod.exists]
    refine u_is_whole_trip ?_
    simp [-Bool.exists_bool, -Prod.exists, hw, ht5, choD, hr]
    have fin : N [some (.ref p), some (choD cs), some (wD way), some (tpD t), some (nD n), some (lkD k), some (tpD t), some (rwD rr)] μ' := hN _ _ trivial ⟨some t, _, _, _, _, rfl, rfl, ok2⟩
    rw [ht5] at fin
    cases ah with
    | none =>
      simp only at hah
      have hlt : ¬ (i < lastL rr.2) := by omega
      rcases rwD_cases rr with e | e <;> rw [e] at fin ⊢ <;> simp [-Bool.exists_bool, -Prod.exists, otD, Dl.atI_last, hl, hlt] <;> simpa [choD, wD] using fin
    | some a =>
      obtain ⟨a1, a2, a3⟩ := hah
      obtain ⟨ac, hac⟩ := Option.isSome_iff_exists.mp a2
      rw [hac] at a3
      simp only [Option.getD_some] at a3
      have hlt : ¬ (i < floorL rr.2 ac) := by omega
      simp [-Bool.exists_bool, -Prod.exists, otD, tpD, hac, oN, a1]
      refine u_floor_of (seq_rw rr) (by have := o.len rr hrm; omega) (o.z rr hrm) ?_
      simp [-Bool.exists_bool, -Prod.exists, hlt]
      simpa [choD, wD, a1] using fin
  · rintro ρ μ' ⟨ah, x, y, z, u, rfl, rfl, ok⟩
    simpa using q
end Cs

/-! ## CsL -/
namespace Cs
open PySem PySem.Spec PyProof.Rows L2 Dl
theorem okDs_map {α : Type} {e : α → D} {n : Nat} (h : ∀ a, okD n (e a) = true) (l : List α) : okDs n (l.map e) = true := by
  induction l with
  | nil => exact okDs_nil n
  | cons a r ih => simp [okDs, h, ih]
theorem okD_lk (n : Nat) (k : Lk) : okD (n + 1) (lkD k) = true := by simp [lkD, okD, okDs]
def G_ends_at : DRs := fun ds μ Q => ∃ p ts way m c k t j, ds = [.ref p, wD way, nD m, nD c] ∧ μ p = some (.dT (byD ts)) ∧ way.getLast? = some k ∧ tripOf ts k = some t ∧ t.com = some j ∧ Q (.bl (t.other == m && decide (j < c))) μ
theorem u_ends_at {p ts way m c k t j μ Q} (h : μ p = some (.dT (byD ts))) (h1 : List.getLast? way = some k) (h2 : tripOf ts k = some t) (h3 : t.com = some j) (q : Q (.bl (t.other == m && decide (j < c))) μ) : G_ends_at [.ref p, wD way, nD m, nD c] μ Q := ⟨p, ts, way, m, c, k, t, j, rfl, h, h1, h2, h3, q⟩
theorem d_ends_at (ds μ Q) (h : G_ends_at ds μ Q) : Body t_ends_at 5 ds μ Q := by
  obtain ⟨p, ts, way, m, c, k, t, j, rfl, hp, h1, h2, h3, q⟩ := h
  have q := Fg.same q
  have hv := val_by ts k
  rw [h2, Option.map_some] at hv
  have ok1 : okD 20 (.tup (way.map lkD)) = true := by
    show okDs 19 _ = true
    exact okDs_map (fun a => okD_lk 18 a) way
  have ok2 : okD 20 (.tup []) = true := okDs_nil 19
  have hb : beqDs (way.map lkD) [] = false := by
    cases way with
    | nil => cases h1
    | cons a r => rfl
  have hl : way[way.length - 1]? = some k := by rw [← List.getLast?_eq_getElem?]; exact h1
  simp [-Bool.exists_bool, -Prod.exists, Body, t_ends_at, wD, ok1, ok2, hb, Dl.atI_last, hl, hp]
  refine ⟨lk k, rfl, ?_⟩
  rw [hv]
  simp [-Bool.exists_bool, -Prod.exists, tpD, h3, oN]
  by_cases he : t.other = m
  · simp [he] at q ⊢; exact q
  · rw [beq_eq_false_iff_ne.mpr he, Bool.false_and] at q
    simp [he]; exact q
def G_is_number : DRs := fun ds μ Q => match ds with
  | [.int i] => Q (.bl true) μ
  | _ => False
theorem d_is_number (ds μ Q) (h : G_is_number ds μ Q) : Body t_is_number 1 ds μ Q := by
  unfold G_is_number at h
  split at h <;> try exact h.elim
  simp [Body, t_is_number, isLC, tyD]
  exact Fg.same h
theorem map_true {α : Type} (l : List α) : l.map (fun _ => D.bl true) = (l.map fun _ => true).map D.bl := by rw [List.map_map]; rfl
theorem all_true {α : Type} (l : List α) : (l.map fun _ => true).all id = true := by induction l <;> simp_all
def G_is_letters : DRs := fun ds μ Q => ∃ way : Way, ds = [wD way] ∧ way.length ≤ 200000 ∧ Q (.bl true) μ
theorem u_is_letters {way μ Q} (h : List.length way ≤ 200000) (q : Q (.bl true) μ) : G_is_letters [wD way] μ Q := ⟨way, rfl, h, q⟩
theorem d_is_letters (ds μ Q) (h : G_is_letters ds μ Q) : Body (t_is_letters G_is_number) 3 ds μ Q := by
  obtain ⟨way, rfl, hl, q⟩ := h
  have q := Fg.same q
  have hz : 200000 ≤ sizeLine := by decide
  simp [-Bool.exists_bool, -Prod.exists, Body, t_is_letters, isLC, tyD, wD]
  refine lc_all (fun _ => .bl true) trivial (fun k hk Y hy => ?_) (by omega) ?_
  · simp [-Bool.exists_bool, -Prod.exists, isLC, tyD, lkD]
    simp [-Bool.exists_bool, -Prod.exists, lcLoop, G_is_number]
    refine ⟨by omega, by omega, [true, true], rfl, hy⟩
  · exact ⟨_, map_true way, by rw [all_true]; exact q⟩
def G_ask_line : DRs := fun ds μ Q => ∃ (cs : Cho) (line : List Nat), ds = [choD cs, .tup (line.map nD)] ∧ line.length = cs.length ∧ cs.length ≤ 10 ∧ (∀ m, m < cs.length → line.getD m 0 ∈ rowOf cs m) ∧ Q .non μ
theorem u_ask_line {cs : Cho} {line : List Nat} {μ Q} (h : List.length line = List.length cs) (h1 : cs.length ≤ 10) (h2 : ∀ m, m < cs.length → line.getD m 0 ∈ rowOf cs m) (q : Q .non μ) : G_ask_line [choD cs, .tup (line.map nD)] μ Q := ⟨cs, line, rfl, h, h1, h2, q⟩
theorem d_ask_line (ds μ Q) (h : G_ask_line ds μ Q) : Body (t_ask_line G_is_number) 4 ds μ Q := by
  obtain ⟨cs, line, rfl, hl, h10, hm, q⟩ := h
  have q := Fg.same q
  have hz : 200000 ≤ sizeLine := by decide
  simp [-Bool.exists_bool, -Prod.exists, Body, t_ask_line, isLC, tyD, choD, hl]
  refine lc_all (fun _ => .bl true) trivial (fun k hk Y hy => by simp [G_is_number]; exact hy) (by omega) ?_
  refine ⟨_, map_true line, ?_⟩
  refine ⟨by simp, ?_⟩
  rw [enD_ddD]
  refine for_map (fun r ρ μ' => ∃ x y, ρ = [some (choD cs), some (.tup (line.map nD)), x, y] ∧ μ' = μ ∧ ∃ i, i + r.length = line.length ∧ r = (line.drop i).zipIdx i) ?_ ?_ ⟨_, _, rfl, rfl, 0, by simp, by simp⟩
  · rintro ⟨v, n⟩ r ρ μ' N ⟨x, y, rfl, rfl, i, hi, he⟩ hN
    rw [List.length_cons] at hi
    have hlt : i < line.length := by omega
    rw [List.drop_eq_getElem_cons hlt, List.zipIdx_cons] at he
    obtain ⟨he1, he2⟩ := List.cons.inj he
    obtain ⟨hv, hn⟩ := Prod.mk.inj he1
    subst hn
    obtain ⟨rr, hr, hrm, hro⟩ := row_at (show n < cs.length by omega)
    have hmem := hm n (by omega)
    rw [hro, List.getD_eq_getElem?_getD, List.getElem?_eq_getElem hlt, Option.getD_some, ← hv] at hmem
    simp [-Bool.exists_bool, -Prod.exists, choD, hr]
    refine ⟨_, (v : Int), rr.2.map (fun (n : Nat) => (n : Int)), seq_rw rr, rfl, int_map _, ?_⟩
    have hd : (!decide ((v : Int) ∈ rr.2.map (fun (n : Nat) => (n : Int)))) = false := by
      rw [decide_eq_true (List.mem_map.mpr ⟨v, hmem, rfl⟩)]; rfl
    rw [hd]
    simp [-Bool.exists_bool, -Prod.exists]
    exact hN _ _ trivial ⟨_, _, rfl, rfl, n + 1, by omega, he2⟩
  · rintro ρ μ' ⟨x, y, rfl, rfl, _⟩
    exact q
def G_ask_right : DRs := fun ds μ Q => ∃ (p : Addr) (ts : List Tp) (c : List Nat), ds = [.ref p, .tup (c.map nD)] ∧ μ p = some (.lst (ts.map tpD)) ∧ TsOk c.length ts ∧ ts.length ≤ 5000 ∧ crossL ts c = none ∧ Q .non μ
theorem u_ask_right {p : Addr} {ts : List Tp} {c : List Nat} {μ Q} (h : μ p = some (.lst (List.map tpD ts))) (h1 : TsOk c.length ts) (h2 : ts.length ≤ 5000) (h3 : crossL ts c = none) (q : Q .non μ) : G_ask_right [.ref p, .tup (c.map nD)] μ Q := ⟨p, ts, c, rfl, h, h1, h2, h3, q⟩
theorem d_ask_right (ds μ Q) (h : G_ask_right ds μ Q) : Body (t_ask_right G_has_come G_was_sent) 4 ds μ Q := by
  obtain ⟨p, ts, c, rfl, hp, ht, hl, hc, q⟩ := h
  have hz : 200000 ≤ sizeLine := by decide
  simp [-Bool.exists_bool, -Prod.exists, Body, t_ask_right, hp]
  refine lc_map (fun t => hasCome t c && !wasSent t c) (fun t => nD t.other) hp (fun t htm Y N hy hn => ?_) (by omega) ?_
  · obtain ⟨o1, o2⟩ := ht t htm
    simp [-Bool.exists_bool, -Prod.exists]
    refine u_has_come (.inl rfl) o2 ?_
    by_cases h : hasCome t c = true
    · simp [-Bool.exists_bool, -Prod.exists, h]
      refine u_was_sent (.inl rfl) o1 ?_
      by_cases h2 : wasSent t c = true
      · simp [-Bool.exists_bool, -Prod.exists, h2]; exact hn (by simp [h2])
      · simp [-Bool.exists_bool, -Prod.exists, h2, tpD]; exact hy (by simp [h, h2])
    · simp [-Bool.exists_bool, -Prod.exists, h]; exact hn (by simp [h])
  · have hf : ts.filter (fun t => hasCome t c && !wasSent t c) = [] := by
      rw [List.filter_eq_nil_iff]
      intro t ht
      exact List.find?_eq_none.mp hc t ht
    rw [hf]
    intro p1 h1 p2 h2
    have hne : p1 ≠ p2 := fun e => by subst e; simp at h2
    simp [-Bool.exists_bool, -Prod.exists, updM_ne hne, lstOf]
    exact Fg.of q (ext1 h2 (ext1 h1 ext0))

def G_ask_rows : DRs := fun ds μ Q => ∃ (p q : Addr) (ws : List (Nat × Way)) (x : Str), ds = [.ref p, .ref q, .str x] ∧ μ p = some (.lst (ws.map wyD)) ∧ μ q = some (.lst ((ws.map (·.1)).map nD)) ∧ ws.length ≤ 10 ∧ (∀ w ∈ ws, w.2.length ≤ 200000) ∧ Q .non μ
theorem u_ask_rows {p q : Addr} {ws : List (Nat × Way)} {x : Str} {μ Q} (h : μ p = some (.lst (ws.map wyD))) (h1 : μ q = some (.lst ((ws.map (·.1)).map nD))) (h2 : ws.length ≤ 10) (h3 : ∀ w ∈ ws, w.2.length ≤ 200000) (q2 : Q .non μ) : G_ask_rows [.ref p, .ref q, .str x] μ Q := ⟨p, q, ws, x, rfl, h, h1, h2, h3, q2⟩
theorem beqDs_int (l : List Nat) : beqDs (l.map nD) (l.map nD) = true := by
  induction l with
  | nil => rfl
  | cons a r ih => simp [beqDs, beqD, ih]
theorem d_ask_rows (ds μ Q) (h : G_ask_rows ds μ Q) : Body (t_ask_rows G_is_number G_is_letters) 5 ds μ Q := by
  obtain ⟨p, q, ws, x, rfl, hp, hq, hl, hw, qq⟩ := h
  have hz : 200000 ≤ sizeLine := by decide
  simp [-Bool.exists_bool, -Prod.exists, Body, t_ask_rows, isLC, tyD, hp]
  refine for_map (fun r ρ μ' => (∃ y, ρ = [some (.ref p), some (.ref q), some (.str x), some (.bl true), y]) ∧ μ' = μ ∧ ∀ w ∈ r, w.2.length ≤ 200000) ?_ ?_ ⟨⟨_, rfl⟩, rfl, hw⟩
  · rintro ⟨m, w⟩ r ρ μ' N ⟨⟨y, rfl⟩, rfl, hr⟩ hN
    simp [-Bool.exists_bool, -Prod.exists, isLC, tyD, wyD, G_is_number]
    refine u_is_letters (hr (m, w) List.mem_cons_self) ?_
    exact hN _ _ hp ⟨⟨_, rfl⟩, rfl, fun z hz => hr z (List.mem_cons_of_mem _ hz)⟩
  · rintro ρ μ' ⟨⟨y, rfl⟩, rfl, _⟩
    simp [-Bool.exists_bool, -Prod.exists, hp]
    refine lc_all (fun w => nD w.1) hp (fun w hwm Y hy => by simp [wyD]; exact hy) (by omega) ?_
    intro p1 h1
    have hne : q ≠ p1 := mu_ne hq h1
    have e : ws.map (fun w => nD w.1) = (ws.map (·.1)).map nD := by rw [List.map_map]; rfl
    rw [e]
    have o1 := okDs_int 20 (ws.map (·.1))
    have b1 := beqDs_int (ws.map (·.1))
    have q1 : updM μ' p1 (.lst ((ws.map (·.1)).map nD)) q = some (.lst ((ws.map (·.1)).map nD)) := by rw [updM_ne hne]; exact hq
    generalize (ws.map (·.1)).map nD = L at o1 b1 q1 ⊢
    simp [-Bool.exists_bool, -Prod.exists, lstOf, q1, o1, b1]
    exact Fg.of qq (ext1 h1 ext0)
end Cs

/-! ## CsM -/
namespace Cs
open PySem PySem.Spec PyProof.Rows L2 Dl
structure WayTo (ts : List Tp) (cs : Cho) (w : Way) (m c : Nat) : Prop where
  ok : WayOk ts cs none w
  len : w.length ≤ 200000
  to : ∃ k t j, w.getLast? = some k ∧ tripOf ts k = some t ∧ t.com = some j ∧ t.other = m ∧ j < c
def offs (cs : Cho) (line : List Nat) : List Nat := ((cs.zipIdx).filter fun x => line.getD x.2 0 != lastL x.1.2).map (·.2)
structure LineOk (ts : List Tp) (cs : Cho) (line : List Nat) (ways : List (Nat × Way)) : Prop where
  len : line.length = cs.length
  mem : ∀ m, m < cs.length → line.getD m 0 ∈ rowOf cs m
  cross : crossL ts line = none
  ms : offs cs line = ways.map (·.1)
  ws : ∀ x ∈ ways, x.1 < cs.length ∧ ∃ c, nextL (rowOf cs x.1) (line.getD x.1 0) = some c ∧ WayTo ts cs x.2 x.1 c
structure OkTs (f : Fm) (s : Sd) (l : List Dd) (ts : List Tp) (cs : Cho) : Prop where
  o : OkT f s l
  it : IsTrips f s l ts
  oc : OkC cs
  t : TsOk cs.length ts
  n : ts.length ≤ 5000
  nd : (ts.map fun t => (t.rd, t.nm)).Nodup
def G_line_asked : DRs := fun ds μ Q => ∃ f s p l ts cs line pw ways, ds = [fmD f, sdD s, .ref p, choD cs, .tup (List.map nD line), .ref pw] ∧ μ p = some (.lst (l.map ddD)) ∧ μ pw = some (.lst (ways.map wyD)) ∧ OkTs f s l ts cs ∧ LineOk ts cs line ways ∧ Q (.bl true) μ
theorem u_line_asked {f s p l ts cs line pw ways μ Q} (h : μ p = some (.lst (List.map ddD l))) (hw : μ pw = some (.lst (List.map wyD ways))) (o : OkTs f s l ts cs) (k : LineOk ts cs line ways) (q : Q (.bl true) μ) : G_line_asked [fmD f, sdD s, .ref p, choD cs, .tup (List.map nD line), .ref pw] μ Q := ⟨f, s, p, l, ts, cs, line, pw, ways, rfl, h, hw, o, k, q⟩
theorem u_next_of {r row n μ Q} (h : seqD r = some (List.map nD row)) (h1 : row.length ≤ sizeLine) (q : Q (oN (nextL row n)) μ) : G_next_of [r, nD n] μ Q := ⟨r, row, n, rfl, h, h1, q⟩
theorem by_put {ts : List Tp} {t : Tp} (h : ((ts ++ [t]).map fun t => (t.rd, t.nm)).Nodup) : putD (byD ts) (lk (t.rd, t.nm)) (tpD t) = byD (ts ++ [t]) := by
  unfold putD
  rw [if_neg]
  · unfold byD; rw [List.map_append]; rfl
  · intro hh
    obtain ⟨x, hx, he⟩ := List.any_eq_true.mp hh
    obtain ⟨u, hu, rfl⟩ := List.mem_map.mp hx
    have he := lk_inj.mp (of_decide_eq_true he)
    rw [List.map_append, List.nodup_append] at h
    exact h.2.2 _ (List.mem_map.mpr ⟨u, hu, rfl⟩) (t.rd, t.nm) (by simp) he
theorem d_line_asked (ds μ Q) (h : G_line_asked ds μ Q) : Body (t_line_asked G_trips G_ask_line G_ask_right G_ask_rows G_next_of G_wrong_place G_ends_at) 14 ds μ Q := by
  obtain ⟨f, s, p, l, ts, cs, line, pw, ways, rfl, hp, hw, o, k, q⟩ := h
  have hz : 200000 ≤ sizeLine := by decide
  have h10 := o.oc.n
  simp [-Bool.exists_bool, -Prod.exists, Body, t_line_asked]
  refine u_trips hp o.o o.it fun pt hpt => ?_
  have hpt0 := hpt
  have hppt : p ≠ pt := mu_ne hp hpt
  have hwpt : pw ≠ pt := mu_ne hw hpt
  refine u_ask_line k.len h10 k.mem ?_
  refine u_ask_right (c := line) updM_same (by rw [k.len]; exact o.t) o.n k.cross ?_
  simp [-Bool.exists_bool, -Prod.exists, choD]
  rw [enD_ddD]
  refine lc_map (fun x : (Bool × List Nat) × Nat => line.getD x.2 0 != lastL x.1.2) (fun x => nD x.2) trivial (fun x hx Y N hy hn => ?_) (by simp; omega) ?_
  · obtain ⟨r, m⟩ := x
    have hx' := List.mem_zipIdx_iff_getElem?.mp hx
    simp only at hx'
    have hm : m < cs.length := (List.getElem?_eq_some_iff.mp hx').1
    have hrm : r ∈ cs := List.mem_of_getElem? hx'
    have hne : r.2 ≠ [] := fun e => by have := o.oc.z r hrm; rw [e] at this; cases this
    have hl := last_at hne
    have hle := getD_at (c := line) (i := m) (by rw [k.len]; exact hm)
    generalize line.getD m 0 = v at hle hy hn
    rcases rwD_cases r with e | e
    · simp [-Bool.exists_bool, -Prod.exists, hle, e, Dl.atI_last, hl]
      by_cases hv : v = lastL r.2
      · simp [hv]; exact hn (by simp [hv])
      · simp [hv]; exact hy (by simp [hv])
    · simp [-Bool.exists_bool, -Prod.exists, hle, e, Dl.atI_last, hl]
      by_cases hv : v = lastL r.2
      · simp [hv]; exact hn (by simp [hv])
      · simp [hv]; exact hy (by simp [hv])
  intro pm hpm
  have hms : ((cs.zipIdx).filter fun x => line.getD x.2 0 != lastL x.1.2).map (fun x => nD x.2) = (ways.map (·.1)).map nD := by
    rw [← k.ms]; unfold offs; rw [List.map_map]; rfl
  rw [hms]
  have htm : pt ≠ pm := fun e => by subst e; simp at hpm
  have hpm0 : μ pm = none := by rw [updM_ne htm.symm] at hpm; exact hpm
  have hwl : ways.length ≤ 10 := by
    have h1 : (offs cs line).length ≤ cs.length := by
      unfold offs
      rw [List.length_map]
      have := List.length_filter_le (fun x : (Bool × List Nat) × Nat => line.getD x.2 0 != lastL x.1.2) cs.zipIdx
      rw [List.length_zipIdx] at this
      exact this
    rw [k.ms, List.length_map] at h1
    omega
  have hwpm : pw ≠ pm := mu_ne hw hpm0
  refine u_ask_rows (ws := ways) (by rw [updM_ne hwpm, updM_ne hwpt]; exact hw) updM_same hwl (fun x hx => by obtain ⟨_, c, _, g⟩ := k.ws x hx; exact g.len) ?_
  intro pb hpb
  have hmb : pm ≠ pb := fun e => by subst e; simp at hpb
  have htb : pt ≠ pb := fun e => by subst e; rw [updM_ne htm] at hpb; simp at hpb
  have hpb0 : μ pb = none := by rw [updM_ne hmb.symm, updM_ne htb.symm] at hpb; exact hpb
  have hwpb : pw ≠ pb := mu_ne hw hpb0
  simp [-Bool.exists_bool, -Prod.exists, updM_ne htb, updM_ne htm]
  refine for_map (fun r ρ μ' => ∃ x y z u dn, ρ = [some (fmD f), some (sdD s), some (.ref p), some (choD cs), some (.tup (line.map nD)), some (.ref pw), some (.ref pt), some (.ref pm), none, none, some (.ref pb), x, y, z] ∧ u = true ∧ (∀ a c, μ a = some c → μ' a = some c) ∧ μ' pt = some (.lst (ts.map tpD)) ∧ μ' pb = some (.dT (byD dn)) ∧ dn ++ r = ts) ?_ ?_
    ⟨_, _, _, true, [], rfl, rfl, ext2 hpb0 (ext2 hpm0 (ext1 hpt ext0)), by rw [updM_ne htb, updM_ne htm]; exact updM_same, updM_same, rfl⟩
  · rintro t r ρ μ' N ⟨x, y, z, u, dn, rfl, rfl, e, h1, h2, h3⟩ hN
    have hnd := o.nd
    rw [← h3, show dn ++ t :: r = (dn ++ [t]) ++ r by simp, List.map_append, List.nodup_append] at hnd
    have hput := by_put hnd.1
    have hdl : dn.length ≤ 5000 := by have := o.n; rw [← h3, List.length_append] at this; omega
    have hlen : (byD dn).length < sizeLine := by unfold byD; rw [List.length_map]; omega
    have e0 : atI [lkD (t.rd, t.nm), nD t.one, oN t.snd, nD t.other, oN t.com] 0 = some (lkD (t.rd, t.nm)) := rfl
    simp [-Bool.exists_bool, -Prod.exists]
    unfold tpD at hput ⊢
    simp [-Bool.exists_bool, -Prod.exists, h2]
    refine ⟨lk (t.rd, t.nm), rfl, hlen, ?_⟩
    rw [hput]
    exact hN _ _ (by rw [updM_ne htb]; exact h1) ⟨_, _, _, true, dn ++ [t], rfl, rfl, ext2 hpb0 e, by rw [updM_ne htb]; exact h1, updM_same, by rw [← h3]; simp⟩
  · rintro ρ μ' ⟨x, y, z, u, dn, rfl, rfl, e, h1, h2, h3⟩
    rw [List.append_nil] at h3
    subst h3
    have hw' := e _ _ hw
    simp [-Bool.exists_bool, -Prod.exists, hw']
    refine for_map (fun r ρ μ2 => ∃ m x y z, ρ = [some (fmD f), some (sdD s), some (.ref p), some (choD cs), some (.tup (line.map nD)), some (.ref pw), some (.ref pt), some (.ref pm), m, none, some (.ref pb), x, y, z] ∧ μ2 = μ' ∧ ∀ x ∈ r, x ∈ ways) ?_ ?_ ⟨_, _, _, _, rfl, rfl, fun x hx => hx⟩
    · rintro ⟨m, w⟩ r ρ μ2 N ⟨mm, x, y, z, rfl, rfl, hin⟩ hN
      obtain ⟨hm, c, hc, g⟩ := k.ws (m, w) (hin _ List.mem_cons_self)
      obtain ⟨kk, t, j, g1, g2, g3, g4, g5⟩ := g.to
      simp only at hm hc g4
      obtain ⟨rr, hr, hrm, hro⟩ := row_at hm
      have hle := getD_at (c := line) (i := m) (by rw [k.len]; exact hm)
      rw [hro] at hc
      generalize line.getD m 0 = v at hle hc
      simp [-Bool.exists_bool, -Prod.exists, wyD, choD, hr, hle]
      refine u_next_of (seq_rw rr) (by have := o.oc.len rr hrm; omega) ?_
      rw [hc]
      simp [-Bool.exists_bool, -Prod.exists, oN]
      refine u_wrong_place (way := w) h2 o.oc g.ok ?_
      simp [-Bool.exists_bool, -Prod.exists]
      refine u_ends_at (way := w) h2 g1 g2 g3 ?_
      simp [-Bool.exists_bool, -Prod.exists, g4, g5]
      exact hN _ _ hw' ⟨_, _, _, _, rfl, rfl, fun x hx => hin x (List.mem_cons_of_mem _ hx)⟩
    · rintro ρ μ2 ⟨m, x, y, z, rfl, rfl, _⟩
      simp
      exact Fg.of q e
end Cs

/-! ## CsN -/
namespace Cs
open PySem PySem.Spec PyProof.Rows L2 Dl
abbrev Wtd := List (Nat × Nat)
def wcD (x : Nat × Nat) : Key × D := (kN x.1, nD x.2)
theorem val_wc (ws : Wtd) (m : Nat) : valD (ws.map wcD) (Sum.inl (m : Int)) = (getA ws m).map nD := get_map kN_inj (g := nD) ws m
def cutR (ws : Wtd) (m : Nat) (r : Bool × List Nat) : Bool × List Nat := match getA ws m with
  | some c => (false, r.2.filter (· ≤ c))
  | none => r
def uptoL (cs : Cho) (ws : Wtd) : Cho := cs.zipIdx.map fun x => cutR ws x.2 x.1
def G_up_to : DRs := fun ds μ Q => ∃ cs pd ws, ds = [choD cs, .ref pd] ∧ μ pd = some (.dK (ws.map wcD)) ∧ cs.length ≤ 10 ∧ (∀ r ∈ cs, r.2.length ≤ 1000) ∧ Q (choD (uptoL cs ws)) μ
theorem u_up_to {cs pd ws μ Q} (h : μ pd = some (.dK (List.map wcD ws))) (h1 : List.length cs ≤ 10) (h2 : ∀ r ∈ cs, r.2.length ≤ 1000) (q : Q (choD (uptoL cs ws)) μ) : G_up_to [choD cs, .ref pd] μ Q := ⟨cs, pd, ws, rfl, h, h1, h2, q⟩
theorem d_up_to (ds μ Q) (h : G_up_to ds μ Q) : Body t_up_to 6 ds μ Q := by
  obtain ⟨cs, pd, ws, rfl, hd, h10, hl, q⟩ := h
  have hz : 200000 ≤ sizeLine := by decide
  simp [-Bool.exists_bool, -Prod.exists, Body, t_up_to, choD]
  intro pf hf
  have hdf : pd ≠ pf := mu_ne hd hf
  rw [enD_ddD]
  refine for_map (fun r ρ μ' => ∃ x y dn, ρ = [some (choD cs), some (.ref pd), some (.ref pf), x, y, none] ∧ (∀ a c, μ a = some c → μ' a = some c) ∧ μ' pf = some (.lst (dn.map rwD)) ∧ dn ++ r.map (fun x => cutR ws x.2 x.1) = uptoL cs ws ∧ dn.length + r.length ≤ 10 ∧ ∀ x ∈ r, x.1.2.length ≤ 1000) ?_ ?_
    ⟨_, _, [], rfl, ext1 hf ext0, updM_same, rfl, by simpa using h10, fun x hx => hl _ (by have := List.mem_zipIdx_iff_getElem?.mp hx; exact List.mem_of_getElem? this)⟩
  · rintro ⟨r, m⟩ t ρ μ' N ⟨x, y, dn, rfl, e, h1, h2, h3, h4⟩ hN
    have hd' := e _ _ hd
    have hr := h4 (r, m) List.mem_cons_self
    have h4' : ∀ x ∈ t, x.1.2.length ≤ 1000 := fun x hx => h4 x (List.mem_cons_of_mem _ hx)
    rw [List.length_cons] at h3
    rw [List.map_cons] at h2
    have hv := val_wc ws m
    simp [-Bool.exists_bool, -Prod.exists, hd', hv]
    cases hg : getA ws m with
    | none =>
      simp [-Bool.exists_bool, -Prod.exists, h1]
      refine ⟨by omega, ?_⟩
      refine hN _ _ trivial ⟨_, _, dn ++ [r], rfl, ext2 hf e, by rw [updM_same, List.map_append]; rfl, ?_, by rw [List.length_append, List.length_singleton]; omega, h4'⟩
      rw [← h2]
      simp [cutR, hg]
    | some c =>
      have key : lcLoop (fun x => True) (aName 5) (aTest (aOp rLe (aVar 5) (aOp rIxD (aVar 1) (aVar 3)))) (aVar 5) [some (choD cs), some (.ref pd), some (.ref pf), some (nD m), some (rwD r), none] (r.2.map nD) [] μ' fun ds μ1 => (∃ es, μ1 pf = some (.lst es)) ∧ (∃ es, μ1 pf = some (.lst es) ∧ es.length < sizeLine ∧ N [some (choD cs), some (.ref pd), some (.ref pf), some (nD m), some (.tup ds), none] (updM μ1 pf (.lst (es ++ [.tup ds])))) := by
        refine lc_map (fun x => decide (x ≤ c)) nD trivial (fun x hx Y N hy hn => ?_) (by simp only at hr; omega) ?_
        · rw [hg] at hv
          simp [-Bool.exists_bool, -Prod.exists, hd', hv]
          by_cases h : x ≤ c
          · simp [h]; exact hy (by simp [h])
          · simp [h]; exact hn (by simp [h])
        · refine ⟨⟨_, h1⟩, _, h1, by rw [List.length_map]; omega, ?_⟩
          refine hN _ _ trivial ⟨_, _, dn ++ [cutR ws m r], rfl, ext2 hf e, by rw [updM_same, List.map_append]; simp [cutR, hg, rwD], ?_, by rw [List.length_append, List.length_singleton]; omega, h4'⟩
          rw [← h2]
          simp
      rcases rwD_cases r with er | er <;> rw [er] at key ⊢ <;> simp [-Bool.exists_bool, -Prod.exists] <;> simpa [-Bool.exists_bool, -Prod.exists, choD] using key
  · rintro ρ μ' ⟨x, y, dn, rfl, e, h1, h2, h3, h4⟩
    rw [List.map_nil, List.append_nil] at h2
    subst h2
    simp [-Bool.exists_bool, -Prod.exists, h1]
    exact Fg.of q e

/-! ### told_of -/
def hitL (ts : List Tp) (cs : Cho) (ws : Wtd) : Option Way := ((lowRes ts (uptoL cs ws)).2.find? fun x => (getA ws x.1).isSome).map (·.2)
theorem upto_len (cs : Cho) (ws : Wtd) : (uptoL cs ws).length = cs.length := by unfold uptoL; rw [List.length_map, List.length_zipIdx]
def TellQ (ts : List Tp) (cs : Cho) (ws : Wtd) (μ : Mu) (Q : D → Mu → Prop) : Prop := match hitL ts cs ws with
  | some w => Q (.tup [.str "way", wD w]) μ
  | none => ∀ q, μ q = none → Q (.tup [.str "line", .tup ((lowRes ts (uptoL cs ws)).1.map nD), .ref q]) (updM μ q (.lst ((lowRes ts (uptoL cs ws)).2.map wyD)))
structure OkW (cs : Cho) (ws : Wtd) : Prop where
  c : OkC cs
  u : OkC (uptoL cs ws)
def G_told_of : DRs := fun ds μ Q => ∃ p ts cs pd ws, ds = [.ref p, choD cs, .ref pd] ∧ μ p = some (.lst (ts.map tpD)) ∧ μ pd = some (.dK (ws.map wcD)) ∧ OkW cs ws ∧ TsOk cs.length ts ∧ TellQ ts cs ws μ Q
theorem u_told_of {p ts cs pd ws μ Q} (h : μ p = some (.lst (List.map tpD ts))) (h1 : μ pd = some (.dK (List.map wcD ws))) (o : OkW cs ws) (t : TsOk cs.length ts) (q : TellQ ts cs ws μ Q) : G_told_of [.ref p, choD cs, .ref pd] μ Q := ⟨p, ts, cs, pd, ws, rfl, h, h1, o, t, q⟩
theorem d_told_of (ds μ Q) (h : G_told_of ds μ Q) : Body (t_told_of G_lowered G_up_to) 7 ds μ Q := by
  obtain ⟨p, ts, cs, pd, ws, rfl, hp, hd, o, ht, q⟩ := h
  simp [-Bool.exists_bool, -Prod.exists, Body, t_told_of]
  refine u_up_to hd o.c.n o.c.len ?_
  refine u_lowered hp o.u (by rw [upto_len]; exact ht) fun pw hw => ?_
  have hdw : pd ≠ pw := mu_ne hd hw
  unfold TellQ hitL at q
  generalize lowRes ts (uptoL cs ws) = R at *
  simp [-Bool.exists_bool, -Prod.exists]
  refine for_map (fun r ρ μ' => ∃ x y, ρ = [some (.ref p), some (choD cs), some (.ref pd), some (.tup (R.1.map nD)), some (.ref pw), x, y] ∧ μ' = updM μ pw (.lst (R.2.map wyD)) ∧ (r.find? fun x => (getA ws x.1).isSome).map (·.2) = (R.2.find? fun x => (getA ws x.1).isSome).map (·.2)) ?_ ?_ ⟨_, _, rfl, rfl, rfl⟩
  · rintro ⟨m, w⟩ r ρ μ' N ⟨x, y, rfl, rfl, e⟩ hN
    have hv := val_wc ws m
    have hd' : updM μ pw (.lst (R.2.map wyD)) pd = some (.dK (ws.map wcD)) := by rw [updM_ne hdw]; exact hd
    simp [-Bool.exists_bool, -Prod.exists, wyD]
    by_cases hg : (getA ws m).isSome = true
    · have hc : List.find? (fun x : Nat × Way => (getA ws x.1).isSome) ((m, w) :: r) = some (m, w) := List.find?_cons_of_pos hg
      rw [hc, Option.map_some] at e
      rw [← e] at q
      have hv2 : (valD (ws.map wcD) (Sum.inl (m : Int))).isSome = true := by rw [hv, Option.isSome_map]; exact hg
      simp [-Bool.exists_bool, -Prod.exists, hd', hv2]
      exact Fg.of q (ext1 hw ext0)
    · have hc : List.find? (fun x : Nat × Way => (getA ws x.1).isSome) ((m, w) :: r) = List.find? (fun x : Nat × Way => (getA ws x.1).isSome) r := List.find?_cons_of_neg hg
      rw [hc] at e
      have hv2 : (valD (ws.map wcD) (Sum.inl (m : Int))).isSome = false := by rw [hv, Option.isSome_map]; exact Bool.eq_false_iff.mpr hg
      simp [-Bool.exists_bool, -Prod.exists, hd', hv2]
      exact hN _ _ updM_same ⟨_, _, rfl, rfl, e⟩
  · rintro ρ μ' ⟨x, y, rfl, rfl, e⟩
    rw [← e] at q
    simp only [List.find?_nil, Option.map_none] at q
    simp
    exact Fg.same (q pw hw)
def G_extended : DRs := fun ds μ Q => ∃ f s p l ts cs pd ws, ds = [fmD f, sdD s, .ref p, choD cs, .ref pd] ∧ μ p = some (.lst (l.map ddD)) ∧ μ pd = some (.dK (ws.map wcD)) ∧ OkT f s l ∧ IsTrips f s l ts ∧ OkW cs ws ∧ TsOk cs.length ts ∧ TellQ ts cs ws μ Q
theorem u_extended {f s p l ts cs pd ws μ Q} (h : μ p = some (.lst (List.map ddD l))) (h1 : μ pd = some (.dK (List.map wcD ws))) (ot : OkT f s l) (i : IsTrips f s l ts) (o : OkW cs ws) (t : TsOk cs.length ts) (q : TellQ ts cs ws μ Q) : G_extended [fmD f, sdD s, .ref p, choD cs, .ref pd] μ Q := ⟨f, s, p, l, ts, cs, pd, ws, rfl, h, h1, ot, i, o, t, q⟩
theorem TellQ.fg {ts cs ws μ μ' Q} (e : ∀ a c, μ a = some c → μ' a = some c) (q : TellQ ts cs ws μ Q) : TellQ ts cs ws μ' (Fg Q) := by
  unfold TellQ at q ⊢
  split
  · rename_i w hw
    rw [hw] at q
    exact Fg.of q e
  · rename_i hw
    rw [hw] at q
    exact fun r hr => Fg.of (q r (none_of e hr)) (extq e)
theorem d_extended (ds μ Q) (h : G_extended ds μ Q) : Body (t_extended G_told_of G_trips) 5 ds μ Q := by
  obtain ⟨f, s, p, l, ts, cs, pd, ws, rfl, hp, hd, ot, it, o, ht, q⟩ := h
  simp [-Bool.exists_bool, -Prod.exists, Body, t_extended]
  refine u_trips hp ot it fun pt hpt => ?_
  have hdt : pd ≠ pt := mu_ne hd hpt
  exact u_told_of updM_same (by rw [updM_ne hdt]; exact hd) o ht (TellQ.fg (ext1 hpt ext0) q)
end Cs

/-! ## CsO -/
namespace Cs
open PySem PySem.Spec PyProof.Rows L2 Dl
@[simp] theorem s_aKeysLc (td : DE) (g : DG) (tt : DT) (te : DE) (vs : List Nat) (ρ : DEnv) (μ : Mu) (K : List D → Mu → Prop) : aKeysLc td g tt te vs ρ μ K = ∃ d kvs, μ d = some (.dK kvs) ∧ ∀ ob ws, td ρ (updM μ d (.zK ob ws kvs)) fun x μ1 => x = .ref d ∧ μ1 d = some (.zK ob ws kvs) ∧
  lcLoop (fun μ => μ d = some (.zK ob ws kvs)) g tt te (wipeD ρ vs) (kvs.map fun kv => kD kv.1) [] μ1 fun ds μ2 => μ2 d = some (.zK ob ws kvs) ∧ K ds (updM μ2 d (.dK kvs)) := rfl
structure WayW (ts : List Tp) (cs : Cho) (ws : Wtd) (w : Way) : Prop where
  ok : WayOk ts cs none w
  len : w.length ≤ 200000
  to : ∃ k t j, w.getLast? = some k ∧ tripOf ts k = some t ∧ t.com = some j ∧ ∃ x ∈ ws, t.other = x.1 ∧ j < x.2
def G_ask_way : DRs := fun ds μ Q => ∃ f s p l ts cs pd ws w, ds = [fmD f, sdD s, .ref p, choD cs, .ref pd, wD w] ∧ μ p = some (.lst (l.map ddD)) ∧ μ pd = some (.dK (ws.map wcD)) ∧ OkTs f s l ts cs ∧ (ws.map (·.1)).Nodup ∧ ws.length ≤ 10 ∧ WayW ts cs ws w ∧ Q .non μ
theorem u_ask_way {f s p l ts cs pd ws w μ Q} (h : μ p = some (.lst (List.map ddD l))) (h1 : μ pd = some (.dK (List.map wcD ws))) (o : OkTs f s l ts cs) (nd : (List.map (·.1) ws).Nodup) (n : ws.length ≤ 10) (g : WayW ts cs ws w) (q : Q .non μ) : G_ask_way [fmD f, sdD s, .ref p, choD cs, .ref pd, wD w] μ Q := ⟨f, s, p, l, ts, cs, pd, ws, w, rfl, h, h1, o, nd, n, g, q⟩
theorem getA_of {α β : Type} [DecidableEq α] {l : List (α × β)} (nd : (l.map (·.1)).Nodup) {x : α × β} (h : x ∈ l) : getA l x.1 = some x.2 := by
  obtain ⟨v, hv⟩ := Option.isSome_iff_exists.mp (getA_isSome.mpr (List.mem_map.mpr ⟨x, h, rfl⟩))
  have hm := getA_mem hv
  induction l with
  | nil => cases h
  | cons a r ih =>
    rw [List.map_cons, List.nodup_cons] at nd
    unfold getA at hv ⊢
    rw [List.find?_cons] at hv ⊢
    by_cases e : a.1 = x.1
    · rcases List.mem_cons.mp h with rfl | h'
      · simp
      · exact absurd (List.mem_map.mpr ⟨x, h', e.symm⟩) nd.1
    · simp only [e, decide_false] at hv ⊢
      rcases List.mem_cons.mp h with rfl | h'
      · exact absurd rfl e
      · refine ih nd.2 h' hv ?_
        exact getA_mem hv
theorem d_ask_way (ds μ Q) (h : G_ask_way ds μ Q) : Body (t_ask_way G_trips G_wrong_place G_ends_at) 10 ds μ Q := by
  obtain ⟨f, s, p, l, ts, cs, pd, ws, w, rfl, hp, hd, o, nd, h10, g, q⟩ := h
  have hz : 200000 ≤ sizeLine := by decide
  simp [-Bool.exists_bool, -Prod.exists, Body, t_ask_way]
  intro pb hpb
  have hppb : p ≠ pb := mu_ne hp hpb
  have hdpb : pd ≠ pb := mu_ne hd hpb
  refine u_trips (by rw [updM_ne hppb]; exact hp) o.o o.it fun pt hpt => ?_
  have htb : pt ≠ pb := fun e => by subst e; simp at hpt
  have hdpt : pd ≠ pt := fun e => by subst e; rw [updM_ne hdpb, hd] at hpt; cases hpt
  have hpt0 : μ pt = none := by rw [updM_ne htb] at hpt; exact hpt
  simp [-Bool.exists_bool, -Prod.exists]
  refine for_map (fun r ρ μ' => ∃ x dn, ρ = [some (fmD f), some (sdD s), some (.ref p), some (choD cs), some (.ref pd), some (wD w), some (.ref pb), x, none, none] ∧ (∀ a c, μ a = some c → μ' a = some c) ∧ μ' pt = some (.lst (ts.map tpD)) ∧ μ' pb = some (.dT (byD dn)) ∧ dn ++ r = ts) ?_ ?_
    ⟨_, [], rfl, ext2 hpt0 (ext1 hpb ext0), updM_same, by rw [updM_ne htb.symm]; exact updM_same, rfl⟩
  · rintro t r ρ μ' N ⟨x, dn, rfl, e, h1, h2, h3⟩ hN
    have hnd := o.nd
    rw [← h3, show dn ++ t :: r = (dn ++ [t]) ++ r by simp, List.map_append, List.nodup_append] at hnd
    have hput := by_put hnd.1
    have hdl : dn.length ≤ 5000 := by have := o.n; rw [← h3, List.length_append] at this; omega
    have hlen : (byD dn).length < sizeLine := by unfold byD; rw [List.length_map]; omega
    simp [-Bool.exists_bool, -Prod.exists]
    unfold tpD at hput ⊢
    simp [-Bool.exists_bool, -Prod.exists, h2]
    refine ⟨lk (t.rd, t.nm), rfl, hlen, ?_⟩
    rw [hput]
    exact hN _ _ (by rw [updM_ne htb]; exact h1) ⟨_, dn ++ [t], rfl, ext2 hpb e, by rw [updM_ne htb]; exact h1, updM_same, by rw [← h3]; simp⟩
  · rintro ρ μ' ⟨x, dn, rfl, e, h1, h2, h3⟩
    rw [List.append_nil] at h3
    subst h3
    obtain ⟨kk, t, j, g1, g2, g3, y, hy, g4, g5⟩ := g.to
    have hd' := e _ _ hd
    simp [-Bool.exists_bool, -Prod.exists]
    refine u_wrong_place (way := w) h2 o.oc g.ok ?_
    simp [-Bool.exists_bool, -Prod.exists]
    refine ⟨pd, ws.map wcD, hd', fun ob vs => ⟨rfl, ?_⟩⟩
    have hzb : updM μ' pd (.zK ob vs (ws.map wcD)) pb = some (.dT (byD dn)) := by rw [updM_ne hdpb.symm]; exact h2
    rw [show (ws.map wcD).map (fun kv => kD kv.1) = ws.map (fun x : Nat × Nat => nD x.1) by rw [List.map_map]; rfl]
    refine lc_all (l := ws) (e := fun x : Nat × Nat => nD x.1) (fun x : Nat × Nat => .bl (t.other == x.1 && decide (j < x.2))) (by exact updM_same) (fun x hx Y hy => ?_) (by omega) ?_
    · have hv := val_wc ws x.1
      rw [getA_of nd hx, Option.map_some] at hv
      simp [-Bool.exists_bool, -Prod.exists]
      refine ⟨_, hv, ?_⟩
      exact u_ends_at (way := w) hzb g1 g2 g3 hy
    · refine ⟨updM_same, ws.map (fun x : Nat × Nat => t.other == x.1 && decide (j < x.2)), by rw [List.map_map]; rfl, List.mem_map.mpr ⟨y, hy, by simp [g4, g5]⟩, ?_⟩
      refine Fg.of q fun a c h => ?_
      by_cases ha : a = pd
      · subst ha; rw [hd] at h; rw [updM_same]; exact h
      · rw [updM_ne ha]
        first | exact e _ _ h | (rw [updM_ne ha]; exact e _ _ h)
/-! ### extended_asked -/
def ToldOk (ts : List Tp) (cs : Cho) (ws : Wtd) (μ : Mu) (told : D) : Prop :=
  (∃ line pw ways, told = .tup [.str "line", .tup (List.map nD line), .ref pw] ∧ μ pw = some (.lst (ways.map wyD)) ∧ LineOk ts cs line ways ∧ ∀ x ∈ ws, line[x.1]? = some x.2) ∨
  ∃ w, told = .tup [.str "way", wD w] ∧ WayW ts cs ws w
def G_extended_asked : DRs := fun ds μ Q => ∃ f s p l ts cs pd ws told, ds = [fmD f, sdD s, .ref p, choD cs, .ref pd, told] ∧ μ p = some (.lst (l.map ddD)) ∧ μ pd = some (.dK (ws.map wcD)) ∧ cs.length ≤ 10 ∧ (∀ r ∈ cs, r.2.length ≤ 1000) ∧ OkTs f s l ts (uptoL cs ws) ∧ (ws.map (·.1)).Nodup ∧ ws.length ≤ 10 ∧ ToldOk ts (uptoL cs ws) ws μ told ∧ Q (.bl true) μ
theorem u_extended_asked {f s p l ts cs pd ws told μ Q} (h : μ p = some (.lst (List.map ddD l))) (h1 : μ pd = some (.dK (List.map wcD ws))) (h2 : List.length cs ≤ 10) (h3 : ∀ r ∈ cs, r.2.length ≤ 1000) (o : OkTs f s l ts (uptoL cs ws)) (nd : (List.map (·.1) ws).Nodup) (n : ws.length ≤ 10) (g : ToldOk ts (uptoL cs ws) ws μ told) (q : Q (.bl true) μ) : G_extended_asked [fmD f, sdD s, .ref p, choD cs, .ref pd, told] μ Q := ⟨f, s, p, l, ts, cs, pd, ws, told, rfl, h, h1, h2, h3, o, nd, n, g, q⟩
theorem d_extended_asked (ds μ Q) (h : G_extended_asked ds μ Q) : Body (t_extended_asked G_up_to G_line_asked G_is_letters G_ask_way) 8 ds μ Q := by
  obtain ⟨f, s, p, l, ts, cs, pd, ws, told, rfl, hp, hd, h10, hl, o, nd, hw, g, q⟩ := h
  have q := Fg.same q
  have hz : 200000 ≤ sizeLine := by decide
  simp [-Bool.exists_bool, -Prod.exists, Body, t_extended_asked]
  refine u_up_to hd h10 hl ?_
  rcases g with ⟨line, pw, ways, rfl, hpw, lo, hx⟩ | ⟨w, rfl, ww⟩
  · simp [-Bool.exists_bool, -Prod.exists, isLC, tyD]
    refine u_line_asked hp hpw o lo ?_
    refine ⟨ws.map wcD, hd, ws.map (fun x => (x.1 : Int)), by rw [List.map_map, List.map_map]; rfl, by rw [List.length_map]; omega, fun ys hys _ => ?_⟩
    refine for_map (fun r ρ μ' => (∃ z, ρ = [some (fmD f), some (sdD s), some (.ref p), some (choD cs), some (.ref pd), some (.tup [.str "line", .tup (List.map nD line), .ref pw]), some (choD (uptoL cs ws)), z]) ∧ μ' = μ ∧ ∀ y ∈ r, y ∈ ys) ?_ ?_ ⟨⟨_, rfl⟩, rfl, fun y hy => hy⟩
    · rintro y r ρ μ' N ⟨⟨z, rfl⟩, rfl, hin⟩ hN
      obtain ⟨x, hxm, rfl⟩ := List.mem_map.mp (hys.mem_iff.mp (hin y List.mem_cons_self))
      have hv := val_wc ws x.1
      rw [getA_of nd hxm, Option.map_some] at hv
      simp [-Bool.exists_bool, -Prod.exists, hx x hxm, hd, hv]
      exact hN _ _ trivial ⟨⟨_, rfl⟩, rfl, fun y hy => hin y (List.mem_cons_of_mem _ hy)⟩
    · rintro ρ μ' ⟨⟨z, rfl⟩, rfl, _⟩
      simp
      exact q
  · simp [-Bool.exists_bool, -Prod.exists, isLC, tyD]
    refine u_is_letters ww.len ?_
    simp [-Bool.exists_bool, -Prod.exists]
    exact u_ask_way hp hd o nd hw ww q
end Cs

/-! ## CsP -/
namespace Cs
open PySem PySem.Spec PyProof.Rows L2 Dl
/-! ### first_useless -/
def useIn (ts : List Tp) (cs : Cho) (m : Nat) : List Nat → Option (Nat × Nat × Way)
  | [] => none
  | c :: r => match hitL ts cs [(m, c)] with
    | some w => some (m, c, w)
    | none => useIn ts cs m r
def useLs (ts : List Tp) (cs : Cho) : List ((Bool × List Nat) × Nat) → Option (Nat × Nat × Way)
  | [] => none
  | x :: r => match useIn ts cs x.2 x.1.2 with
    | some u => some u
    | none => useLs ts cs r
def useL (ts : List Tp) (cs : Cho) : Option (Nat × Nat × Way) := useLs ts cs cs.zipIdx
def usD : Option (Nat × Nat × Way) → D
  | none => .non
  | some u => .tup [.str "useless", nD u.1, nD u.2.1, wD u.2.2]
def AllW (cs : Cho) : Prop := ∀ m r c, cs[m]? = some r → c ∈ r.2 → OkW cs [(m, c)]
def G_first_useless : DRs := fun ds μ Q => ∃ p ts cs, ds = [.ref p, choD cs] ∧ μ p = some (.lst (ts.map tpD)) ∧ TsOk cs.length ts ∧ AllW cs ∧ Q (usD (useL ts cs)) μ
theorem u_first_useless {p ts cs μ Q} (h : μ p = some (.lst (List.map tpD ts))) (t : TsOk cs.length ts) (a : AllW cs) (q : Q (usD (useL ts cs)) μ) : G_first_useless [.ref p, choD cs] μ Q := ⟨p, ts, cs, rfl, h, t, a, q⟩
theorem d_first_useless (ds μ Q) (h : G_first_useless ds μ Q) : Body (t_first_useless G_told_of) 6 ds μ Q := by
  obtain ⟨p, ts, cs, rfl, hp, ht, ha, q⟩ := h
  simp [-Bool.exists_bool, -Prod.exists, Body, t_first_useless, choD]
  rw [enD_ddD]
  refine for_map (fun r ρ μ' => ∃ x y z u, ρ = [some (.ref p), some (choD cs), x, y, z, u] ∧ (∀ a c, μ a = some c → μ' a = some c) ∧ useLs ts cs r = useL ts cs ∧ ∀ x ∈ r, x ∈ cs.zipIdx) ?_ ?_ ⟨_, _, _, _, rfl, ext0, rfl, fun x hx => hx⟩
  · rintro ⟨row, m⟩ r ρ μ' N ⟨x, y, z, u, rfl, e, hu, hin⟩ hN
    have hx := List.mem_zipIdx_iff_getElem?.mp (hin _ List.mem_cons_self)
    simp only at hx
    have key : ∀ (x : D), x = rwD row → loopD (fun x => True) (aName 4) (aSeq (aAsg (aCall G_told_of (aCons (aVar 0) (aCons (aVar 1) (aCons (aDisp [((aVar 2), (aVar 4))]) aNil)))) (aName 5)) (aIfS (aTest (aOp (rEqq false) (aOp rIxD (aVar 5) (aC (.int 0))) (aC (.str "way")))) (aRet (aTup (aCons (aC (.str "useless")) (aCons (aVar 2) (aCons (aVar 4) (aCons (aOp rIxD (aVar 5) (aC (.int 1))) aNil)))))) aNext))
        { nx := N, rt := fun d μ' => Fg Q d μ', bk := aRet (aC .non) { nx := fun _ μ' => Fg Q .non μ', rt := fun d μ' => Fg Q d μ' }, ct := N } (row.2.map nD) [some (.ref p), some (choD cs), some (nD m), some x, z, u] μ' := by
      intro x hxe
      subst hxe
      refine for_map (fun t ρ μ2 => ∃ z u, ρ = [some (.ref p), some (choD cs), some (nD m), some (rwD row), z, u] ∧ (∀ a c, μ a = some c → μ2 a = some c) ∧ useIn ts cs m t = useIn ts cs m row.2 ∧ ∀ c ∈ t, c ∈ row.2) ?_ ?_ ⟨_, _, rfl, e, rfl, fun c hc => hc⟩
      · rintro c t ρ μ2 N2 ⟨z, u, rfl, e2, hu2, hin2⟩ hN2
        have hin3 : ∀ c ∈ t, c ∈ row.2 := fun x hx => hin2 x (List.mem_cons_of_mem _ hx)
        simp [-Bool.exists_bool, -Prod.exists]
        intro pd hpd
        have hppd : p ≠ pd := mu_ne (e2 _ _ hp) hpd
        refine u_told_of (ws := [(m, c)]) (by rw [updM_ne hppd]; exact e2 _ _ hp) updM_same (ha m row c hx (hin2 c List.mem_cons_self)) ht ?_
        unfold TellQ
        cases hh : hitL ts cs [(m, c)] with
        | some w =>
          have hz : useIn ts cs m (c :: t) = some (m, c, w) := by simp only [useIn, hh]
          rw [hu2] at hz
          have hz2 : useL ts cs = some (m, c, w) := by rw [← hu]; simp only [useLs, hz]
          rw [hz2] at q
          simp [-Bool.exists_bool, -Prod.exists]
          exact Fg.of q (ext1 hpd e2)
        | none =>
          have hz : useIn ts cs m (c :: t) = useIn ts cs m t := by simp only [useIn, hh]
          simp [-Bool.exists_bool, -Prod.exists]
          intro pq hpq
          exact hN2 _ _ trivial ⟨_, _, rfl, ext1 hpq (ext1 hpd e2), by rw [← hu2, hz], hin3⟩
      · rintro ρ μ2 ⟨z, u, rfl, e2, hu2, hin2⟩
        have hz : useIn ts cs m row.2 = none := by rw [← hu2]; rfl
        have hz2 : useLs ts cs r = useL ts cs := by rw [← hu]; simp only [useLs, hz]
        exact hN _ _ trivial ⟨_, _, _, _, rfl, e2, hz2, fun x hx => hin x (List.mem_cons_of_mem _ hx)⟩
    have key := key _ rfl
    rcases rwD_cases row with er | er <;> rw [er] at key ⊢ <;> simp [-Bool.exists_bool, -Prod.exists] <;> simpa [-Bool.exists_bool, -Prod.exists, choD] using key
  · rintro ρ μ' ⟨x, y, z, u, rfl, e, hu, hin⟩
    rw [← hu] at q
    simp
    exact Fg.of q e
/-! ### place_in -/
def posL : List Nat → Nat → Nat
  | [], _ => 0
  | a :: r, v => if a = v then 0 else posL r v + 1
theorem posL_at : ∀ {l : List Nat} {v : Nat}, v ∈ l → l[posL l v]? = some v ∧ ∀ m, m < posL l v → l[m]? ≠ some v
  | [], v, h => by cases h
  | a :: r, v, h => by
    by_cases e : a = v
    · subst e
      simp [posL]
    · rcases List.mem_cons.mp h with h | h
      · exact absurd h.symm e
      · obtain ⟨h1, h2⟩ := posL_at h
        refine ⟨by simp [posL, e, h1], fun m hm => ?_⟩
        simp only [posL, e, if_false] at hm
        cases m with
        | zero => simpa using e
        | succ m => simpa using h2 m (by omega)
def placeL (row : List Nat) (n : Nat) : Nat := posL row (floorL row n)
theorem placeL_lt {row : List Nat} {n : Nat} (h : 0 ∈ row) : placeL row n < row.length := by
  have := (posL_at (floorL_mem (n := n) h).1).1
  exact (List.getElem?_eq_some_iff.mp this).1
def G_place_in : DRs := fun ds μ Q => ∃ (cs : Cho) (m n : Nat) (row : List Nat), ds = [choD cs, nD m, nD n] ∧ cs[m]? = some (true, row) ∧ 0 ∈ row ∧ row.length ≤ 1000 ∧ Q (nD (placeL row n)) μ
theorem u_place_in {cs : Cho} {m n : Nat} {row : List Nat} {μ Q} (h : cs[m]? = some (true, row)) (h1 : 0 ∈ row) (h2 : row.length ≤ 1000) (q : Q (nD (placeL row n)) μ) : G_place_in [choD cs, nD m, nD n] μ Q := ⟨cs, m, n, row, rfl, h, h1, h2, q⟩
theorem d_place_in (ds μ Q) (h : G_place_in ds μ Q) : Body (t_place_in G_floor_of) 3 ds μ Q := by
  obtain ⟨cs, m, n, row, rfl, hm, h0, hl, q⟩ := h
  have q := Fg.same q
  have hz : 200000 ≤ sizeLine := by decide
  obtain ⟨p1, p2⟩ := posL_at (floorL_mem (n := n) h0).1
  simp [-Bool.exists_bool, -Prod.exists, Body, t_place_in, choD, hm]
  refine ⟨row.map (fun (n : Nat) => (n : Int)), by simp [rwD, int_map], ?_⟩
  refine u_floor_of (seq_rw (true, row)) (by show row.length ≤ _; omega) h0 ?_
  refine ⟨_, rfl, posL row (floorL row n), by rw [List.getElem?_map, p1]; rfl, fun j hj => ?_, q⟩
  rw [List.getElem?_map]
  intro h
  obtain ⟨v, hv, hv2⟩ := Option.map_eq_some_iff.mp h
  have hv2 : (v : Int) = (floorL row n : Nat) := hv2
  have : v = floorL row n := by omega
  subst this
  exact p2 j hj hv

/-! ### raised -/
abbrev Nums := List (List Nat)
def at2 (n : Nums) (i p : Nat) : Nat := (n.getD i []).getD p 0
def upP (s : List Nat × Bool) (p : Nat) : List Nat × Bool := if s.1.getD p 0 ≤ s.1.getD (p - 1) 0 then (s.1.set p (s.1.getD (p - 1) 0 + 1), true) else s
def upRow (row : List Nat) (b : Bool) : List Nat × Bool := ((List.range (row.length - 1)).map (1 + ·)).foldl upP (row, b)
def phase1 : Nums → Bool → Nums × Bool
  | [], b => ([], b)
  | row :: r, b => ((upRow row b).1 :: (phase1 r (upRow row b).2).1, (phase1 r (upRow row b).2).2)
abbrev Stp := Nat × Nat × Nat × Nat
def stD (s : Stp) : D := .tup [nD s.1, nD s.2.1, nD s.2.2.1, nD s.2.2.2]
def stepN (s : Nums × Bool) (t : Stp) : Nums × Bool := if at2 s.1 t.2.2.1 t.2.2.2 < at2 s.1 t.1 t.2.1 then (s.1.set t.2.2.1 ((s.1.getD t.2.2.1 []).set t.2.2.2 (at2 s.1 t.1 t.2.1)), true) else s
def raisedL (sts : List Stp) (n : Nums) : Nums × Bool := sts.foldl stepN (phase1 n false)
structure NumIs (μ : Mu) (pn : Addr) (rs : List Addr) (n : Nums) : Prop where
  l : μ pn = some (.lst (rs.map D.ref))
  nd : rs.Nodup
  out : pn ∉ rs
  len : rs.length = n.length
  at_ : ∀ (i : Nat) (r : Addr) (row : List Nat), rs[i]? = some r → n[i]? = some row → μ r = some (.lst (row.map nD))
theorem nodup_at {α : Type} {l : List α} (h : l.Nodup) {i j : Nat} {a : α} (hi : l[i]? = some a) (hj : l[j]? = some a) : i = j := by
  obtain ⟨h1, e1⟩ := List.getElem?_eq_some_iff.mp hi
  obtain ⟨h2, e2⟩ := List.getElem?_eq_some_iff.mp hj
  exact (List.getElem_inj h).mp (e1.trans e2.symm)
theorem NumIs.put {μ : Mu} {pn : Addr} {rs : List Addr} {n : Nums} {i : Nat} {a : Addr} {row : List Nat} (h : NumIs μ pn rs n) (ha : rs[i]? = some a) : NumIs (updM μ a (.lst (row.map nD))) pn rs (n.set i row) := by
  have hne : pn ≠ a := fun e => h.out (by rw [e]; exact List.mem_of_getElem? ha)
  refine ⟨by rw [updM_ne hne]; exact h.l, h.nd, h.out, by rw [List.length_set]; exact h.len, fun j r row' hr hrow => ?_⟩
  by_cases hj : i = j
  · subst hj
    rw [ha] at hr
    cases hr
    rw [List.getElem?_set_self (by rw [← h.len]; exact (List.getElem?_eq_some_iff.mp ha).1)] at hrow
    cases hrow
    exact updM_same
  · rw [List.getElem?_set_ne hj] at hrow
    rw [updM_ne (fun e => hj (nodup_at h.nd ha (by rw [← e]; exact hr)))]
    exact h.at_ j r row' hr hrow
theorem NumIs.get {μ : Mu} {pn : Addr} {rs : List Addr} {n : Nums} (h : NumIs μ pn rs n) {i : Nat} (hi : i < n.length) : ∃ r, rs[i]? = some r ∧ r ∈ rs ∧ μ r = some (.lst ((n.getD i []).map nD)) := by
  have e := List.getElem?_eq_getElem (show i < rs.length by rw [h.len]; exact hi)
  refine ⟨_, e, List.mem_of_getElem? e, ?_⟩
  refine h.at_ i _ _ e ?_
  rw [List.getD_eq_getElem?_getD, List.getElem?_eq_getElem hi]; rfl
def OutR (rs : List Addr) (μ μ' : Mu) : Prop := ∀ a, a ∉ rs → μ' a = μ a
theorem OutR.put {rs : List Addr} {μ μ' : Mu} {a : Addr} {c : C} (h : OutR rs μ μ') (ha : a ∈ rs) : OutR rs μ (updM μ' a c) := fun b hb => by
  rw [updM_ne (fun e => hb (by rw [e]; exact ha))]; exact h b hb
/-- the shape of a table of numbers -/
def shp (n : Nums) : List Nat := n.map List.length
def StOk (n : Nums) (t : Stp) : Prop := t.1 < n.length ∧ t.2.1 < (n.getD t.1 []).length ∧ t.2.2.1 < n.length ∧ t.2.2.2 < (n.getD t.2.2.1 []).length
def G_raised : DRs := fun ds μ Q => ∃ (c : D) (ps pn : Addr) (rs : List Addr) (sts : List Stp) (n : Nums), ds = [c, .ref ps, .ref pn] ∧ μ ps = some (.lst (sts.map stD)) ∧ ps ∉ rs ∧ NumIs μ pn rs n ∧ (∀ t ∈ sts, StOk n t) ∧ (∀ r ∈ n, r.length ≤ 1000) ∧
  ∀ μ', NumIs μ' pn rs (raisedL sts n).1 → OutR rs μ μ' → Q (.bl (raisedL sts n).2) μ'
theorem u_raised {c : D} {ps pn : Addr} {rs : List Addr} {sts : List Stp} {n : Nums} {μ Q} (h : μ ps = some (.lst (sts.map stD))) (h1 : ps ∉ rs) (h2 : NumIs μ pn rs n) (h3 : ∀ t ∈ sts, StOk n t) (h4 : ∀ r ∈ n, r.length ≤ 1000)
    (q : ∀ μ', NumIs μ' pn rs (raisedL sts n).1 → OutR rs μ μ' → Q (.bl (raisedL sts n).2) μ') : G_raised [c, .ref ps, .ref pn] μ Q := ⟨c, ps, pn, rs, sts, n, rfl, h, h1, h2, h3, h4, q⟩
theorem upP_len (s : List Nat × Bool) (p : Nat) : (upP s p).1.length = s.1.length := by unfold upP; split <;> simp
theorem upR_len : ∀ (ps : List Nat) (s : List Nat × Bool), (ps.foldl upP s).1.length = s.1.length
  | [], s => rfl
  | p :: ps, s => by rw [List.foldl_cons, upR_len ps, upP_len]
theorem phase1_shp : ∀ (n : Nums) (b : Bool), shp (phase1 n b).1 = shp n
  | [], b => rfl
  | row :: r, b => by
    simp only [phase1, shp, List.map_cons]
    rw [show (upRow row b).1.length = row.length from upR_len _ _]
    congr 1
    exact phase1_shp r _
theorem shp_at {n n' : Nums} (h : shp n = shp n') (i : Nat) : (n.getD i []).length = (n'.getD i []).length := by
  have : (shp n)[i]? = (shp n')[i]? := by rw [h]
  unfold shp at this
  rw [List.getElem?_map, List.getElem?_map] at this
  rw [List.getD_eq_getElem?_getD, List.getD_eq_getElem?_getD]
  cases e1 : n[i]? <;> cases e2 : n'[i]? <;> simp [e1, e2] at this ⊢
  exact this
theorem shp_len {n n' : Nums} (h : shp n = shp n') : n.length = n'.length := by
  have := congrArg List.length h
  simpa [shp] using this
theorem StOk.of {n n' : Nums} {t : Stp} (h : StOk n t) (e : shp n' = shp n) : StOk n' t := by
  unfold StOk at h ⊢
  rw [shp_len e, shp_at e, shp_at e]
  exact h
theorem stepN_shp (s : Nums × Bool) (t : Stp) : shp (stepN s t).1 = shp s.1 := by
  unfold stepN
  split
  · unfold shp
    rw [List.map_set]
    refine List.ext_getElem? fun i => ?_
    by_cases h : t.2.2.1 = i
    · subst h
      by_cases hl : t.2.2.1 < s.1.length
      · rw [List.getElem?_set_self (by simpa using hl), List.getElem?_map, List.getElem?_eq_getElem hl, List.getD_eq_getElem?_getD, List.getElem?_eq_getElem hl]
        simp
      · rw [List.getElem?_eq_none (by simpa using hl), List.getElem?_eq_none (by simpa using hl)]
    · rw [List.getElem?_set_ne h]
  · rfl
end Cs

/-! ## CsQ -/
namespace Cs
open PySem PySem.Spec PyProof.Rows L2 Dl
theorem set_mid {α : Type} (dn : List α) (a b : α) (r : List α) : (dn ++ a :: r).set dn.length b = dn ++ b :: r := by
  rw [List.set_append_right _ _ (Nat.le_refl _), Nat.sub_self]; rfl
theorem d_raised (ds μ Q) (h : G_raised ds μ Q) : Body t_raised 10 ds μ Q := by
  obtain ⟨c, ps, pn, rs, sts, n, rfl, hps, hpr, hn, hst, hl, q⟩ := h
  have hz : 200000 ≤ sizeLine := by decide
  simp [-Bool.exists_bool, -Prod.exists, Body, t_raised, hn.l]
  refine for_map (fun r ρ μ' => ∃ x y dn rem b, ρ = [some c, some (.ref ps), some (.ref pn), some (.bl b), x, y, none, none, none, none] ∧ NumIs μ' pn rs (dn ++ rem) ∧ OutR rs μ μ' ∧ r = rs.drop dn.length ∧ rem.length = r.length ∧ (dn ++ (phase1 rem b).1, (phase1 rem b).2) = phase1 n false ∧ ∀ x ∈ rem, x.length ≤ 1000) ?_ ?_
    ⟨_, _, [], n, false, rfl, hn, fun _ _ => rfl, rfl, by rw [hn.len], rfl, hl⟩
  · rintro a r ρ μ' N ⟨x, y, dn, rem, b, rfl, h1, ho, hr, hlr, hp, hlen⟩ hN
    obtain ⟨row, rem', rfl⟩ : ∃ row rem', rem = row :: rem' := by
      cases rem with
      | nil => simp at hlr
      | cons a r => exact ⟨a, r, rfl⟩
    have hlt : dn.length < rs.length := by
      rcases Nat.lt_or_ge dn.length rs.length with h | h
      · exact h
      · rw [List.drop_eq_nil_iff.mpr h] at hr; cases hr
    rw [List.drop_eq_getElem_cons hlt] at hr
    obtain ⟨ha, hr'⟩ := List.cons.inj hr
    have hae : rs[dn.length]? = some a := by rw [List.getElem?_eq_getElem hlt, ← ha]
    have hamem : a ∈ rs := List.mem_of_getElem? hae
    have hrow : ∀ {μ2 : Mu} {row2 : List Nat}, NumIs μ2 pn rs (dn ++ row2 :: rem') → μ2 a = some (.lst (row2.map nD)) := fun {μ2 row2} h => by
      refine h.at_ dn.length a row2 hae ?_
      rw [List.getElem?_append_right (Nat.le_refl _), Nat.sub_self]; rfl
    have hr1 := hlen row List.mem_cons_self
    have hlr' : rem'.length = r.length := by simpa using hlr
    have hno : pn ∉ rs := h1.out
    simp [-Bool.exists_bool, -Prod.exists, hrow h1]
    refine ⟨_, _, ⟨rfl, rfl⟩, by omega, ?_⟩
    rw [rgD_map, show ((row.length : Int) - 1).toNat = row.length - 1 by omega]
    refine for_map (fun u ρ μ2 => ∃ y row2 b2, ρ = [some c, some (.ref ps), some (.ref pn), some (.bl b2), some (.ref a), y, none, none, none, none] ∧ NumIs μ2 pn rs (dn ++ row2 :: rem') ∧ OutR rs μ μ2 ∧ row2.length = row.length ∧ (u.map (1 + ·)).foldl upP (row2, b2) = upRow row b ∧ ∀ j ∈ u, 1 + j < row.length) ?_ ?_
      ⟨_, row, b, rfl, h1, ho, rfl, rfl, fun j hj => by have := List.mem_range.mp hj; omega⟩
    · rintro j u ρ μ2 N2 ⟨y, row2, b2, rfl, k1, k2, k3, k4, k5⟩ hN2
      have hj := k5 j List.mem_cons_self
      have hj' : ∀ i ∈ u, 1 + i < row.length := fun i hi => k5 i (List.mem_cons_of_mem _ hi)
      have e1 := getD_at (c := row2) (i := 1 + j) (by omega)
      have e2 := getD_at (c := row2) (i := 1 + j - 1) (by omega)
      have ra := hrow k1
      have c1 : (1 : Int) + (j : Int) = ((1 + j : Nat) : Int) := by omega
      have c2 : ((1 + j : Nat) : Int) - 1 = ((1 + j - 1 : Nat) : Int) := by omega
      rw [List.map_cons, List.foldl_cons] at k4
      have hix : ixN row2.length ((1 + j : Nat) : Int) = some (1 + j) := by
        unfold ixN; rw [if_pos (by omega), if_pos (by omega)]; rfl
      have hup : upP (row2, b2) (1 + j) = if row2.getD (1 + j) 0 ≤ row2.getD (1 + j - 1) 0 then (row2.set (1 + j) (row2.getD (1 + j - 1) 0 + 1), true) else (row2, b2) := rfl
      generalize row2.getD (1 + j) 0 = v1 at e1 hup
      generalize row2.getD (1 + j - 1) 0 = v2 at e2 hup
      have x1 : atI (row2.map nD) ((1 + j : Nat) : Int) = some (nD v1) := by rw [atI_map, e1]; rfl
      have x2 : atI (row2.map nD) ((1 + j - 1 : Nat) : Int) = some (nD v2) := by rw [atI_map, e2]; rfl
      rw [c1]
      generalize hk : 1 + j = k at *
      have c3 : (k : Int) - 1 = ((k - 1 : Nat) : Int) := c2
      by_cases h : v1 ≤ v2
      · rw [if_pos h] at hup
        rw [hup] at k4
        have hiv : (v1 : Int) ≤ (v2 : Int) := by omega
        have hput := k1.put (row := row2.set k (v2 + 1)) hae
        rw [set_mid] at hput
        have hm : (row2.map nD).set k (.int ((v2 : Int) + 1)) = (row2.set k (v2 + 1)).map nD := by rw [List.map_set]; rfl
        simp [-Bool.exists_bool, -Prod.exists, ra, c3, e1, e2, hix, h]
        rw [hm]
        exact hN2 _ _ trivial ⟨_, row2.set k (v2 + 1), true, rfl, hput, k2.put hamem, by rw [List.length_set]; exact k3, k4, hj'⟩
      · rw [if_neg h] at hup
        rw [hup] at k4
        simp [-Bool.exists_bool, -Prod.exists, ra, c3, e1, e2, hix, h]
        exact hN2 _ _ trivial ⟨_, row2, b2, rfl, k1, k2, k3, k4, hj'⟩
    · rintro ρ μ2 ⟨y, row2, b2, rfl, k1, k2, k3, k4, k5⟩
      have k4 : (row2, b2) = upRow row b := k4
      refine hN _ _ k1.l ⟨_, _, dn ++ [row2], rem', b2, rfl, by simpa using k1, k2, ?_, hlr', ?_, fun z hz => hlen z (List.mem_cons_of_mem _ hz)⟩
      · rw [List.length_append, List.length_singleton]; exact hr'
      · rw [← hp]
        simp only [phase1, ← k4]
        simp
  · rintro ρ μ' ⟨x, y, dn, rem, b, rfl, h1, ho, hr, hlr, hp, hlen⟩
    have hrem : rem = [] := List.length_eq_zero_iff.mp hlr
    subst hrem
    simp only [phase1, List.append_nil] at hp h1
    have hps' : μ' ps = some (.lst (sts.map stD)) := by rw [ho ps hpr]; exact hps
    have hshp : shp dn = shp n := by
      have := phase1_shp n false
      rw [← hp] at this
      exact this
    unfold raisedL at q
    rw [← hp] at q
    simp [-Bool.exists_bool, -Prod.exists, hps']
    refine for_map (fun r ρ μ2 => ∃ x y z u v w n2 b2, ρ = [some c, some (.ref ps), some (.ref pn), some (.bl b2), x, y, z, u, v, w] ∧ NumIs μ2 pn rs n2 ∧ OutR rs μ μ2 ∧ r.foldl stepN (n2, b2) = sts.foldl stepN (dn, b) ∧ shp n2 = shp n ∧ ∀ t ∈ r, t ∈ sts) ?_ ?_
      ⟨_, _, _, _, _, _, dn, b, rfl, h1, ho, rfl, hshp, fun t ht => ht⟩
    · rintro ⟨o, a, t, d⟩ r ρ μ2 N ⟨x, y, z, u, v, w, n2, b2, rfl, k1, k2, k3, k4, k5⟩ hN
      obtain ⟨g1, g2, g3, g4⟩ := (hst _ (k5 _ List.mem_cons_self)).of k4
      simp only at g1 g2 g3 g4
      obtain ⟨ra, ea, ma, ra'⟩ := k1.get g1
      obtain ⟨rt, et, mt, rt'⟩ := k1.get g3
      rw [List.foldl_cons] at k3
      have hs : stepN (n2, b2) (o, a, t, d) = if at2 n2 t d < at2 n2 o a then (n2.set t ((n2.getD t []).set d (at2 n2 o a)), true) else (n2, b2) := rfl
      have e1 := getD_at (c := n2.getD o []) (i := a) g2
      have e2 := getD_at (c := n2.getD t []) (i := d) g4
      have hshp2 := stepN_shp (n2, b2) (o, a, t, d)
      have hix : ixN (n2.getD t []).length (d : Int) = some d := by
        unfold ixN; rw [if_pos (by omega), if_pos (by omega)]; rfl
      have hput : ∀ v, NumIs (updM μ2 rt (.lst (((n2.getD t []).set d v).map nD))) pn rs (n2.set t ((n2.getD t []).set d v)) := fun v => k1.put et
      change (n2.getD o [])[a]? = some (at2 n2 o a) at e1
      change (n2.getD t [])[d]? = some (at2 n2 t d) at e2
      rw [hs] at hshp2 k3
      generalize at2 n2 o a = va at *
      generalize at2 n2 t d = vt at *
      generalize n2.getD o [] = rowa at *
      generalize n2.getD t [] = rowt at *
      have hps2 : μ2 ps = some (.lst (sts.map stD)) := by rw [k2 ps hpr]; exact hps
      have hk5 : ∀ t ∈ r, t ∈ sts := fun z hz => k5 z (List.mem_cons_of_mem _ hz)
      have hne : ps ≠ rt := fun e => hpr (by rw [e]; exact mt)
      have hl := k1.l
      by_cases h : vt < va
      · rw [if_pos h] at k3 hshp2
        simp [-Bool.exists_bool, -Prod.exists, stD, hl, et, rt', ea, ra', e1, e2, h, hix]
        have hm : (rowt.map nD).set d (nD va) = (rowt.set d va).map nD := by rw [List.map_set]
        rw [hm]
        exact hN _ _ (by rw [updM_ne hne]; exact hps2) ⟨_, _, _, _, _, _, _, true, rfl, hput va, k2.put mt, k3, hshp2.trans k4, hk5⟩
      · rw [if_neg h] at k3
        simp [-Bool.exists_bool, -Prod.exists, stD, hl, et, rt', ea, ra', e1, e2, h, hix]
        exact hN _ _ hps2 ⟨_, _, _, _, _, _, n2, b2, rfl, k1, k2, k3, k4, hk5⟩
    · rintro ρ μ2 ⟨x, y, z, u, v, w, n2, b2, rfl, k1, k2, k3, k4, k5⟩
      have k3 : (n2, b2) = sts.foldl stepN (dn, b) := k3
      rw [← k3] at q
      simp
      exact Fg.same (q μ2 k1 k2)
end Cs

/-! ## CsR -/
namespace Cs
open PySem PySem.Spec PyProof.Rows L2 Dl
def stepOf (cs : Cho) (t : Tp) : Stp := (t.one, placeL (rowOf cs t.one) (t.snd.getD 0), t.other, placeL (rowOf cs t.other) (t.com.getD 0))
def stepsL (ts : List Tp) (cs : Cho) : List Stp := (ts.filter isWhole).map (stepOf cs)
def zerosL (cs : Cho) : Nums := cs.map fun r => List.replicate r.2.length 0
def ReachN (sts : List Stp) : Nat → Nums → Nums → Prop
  | 0, _, _ => False
  | m + 1, n, r => if (raisedL sts n).2 = true then ReachN sts m (raisedL sts n).1 r else r = (raisedL sts n).1
def nmD (n : Nums) : D := .tup (n.map fun row => .tup (row.map nD))
def NumQ (ts : List Tp) (cs : Cho) (μ : Mu) (Q : D → Mu → Prop) : Prop := match useL ts cs with
  | some u => Q (usD (some u)) μ
  | none => ∃ m res, ReachN (stepsL ts cs) m (zerosL cs) res ∧ Q (.tup [.str "numbers", nmD res]) μ
structure OkN (f : Fm) (s : Sd) (l : List Dd) (ts : List Tp) (cs : Cho) : Prop where
  o : OkT f s l
  it : IsTrips f s l ts
  oc : OkC cs
  t : TsOk cs.length ts
  n : ts.length ≤ 5000
  all : AllW cs
  ft : ∀ r ∈ cs, r.1 = true
def G_numbers_of : DRs := fun ds μ Q => ∃ f s p l ts cs, ds = [fmD f, sdD s, .ref p, choD cs] ∧ μ p = some (.lst (l.map ddD)) ∧ OkN f s l ts cs ∧ NumQ ts cs μ Q
theorem u_numbers_of {f s p l ts cs μ Q} (h : μ p = some (.lst (List.map ddD l))) (o : OkN f s l ts cs) (q : NumQ ts cs μ Q) : G_numbers_of [fmD f, sdD s, .ref p, choD cs] μ Q := ⟨f, s, p, l, ts, cs, rfl, h, o, q⟩
theorem isNon_usD (u : Option (Nat × Nat × Way)) : isNon (usD u) = u.isNone := by cases u <;> rfl
theorem row_ft {cs : Cho} {m : Nat} (h : m < cs.length) (ft : ∀ r ∈ cs, r.1 = true) : cs[m]? = some (true, rowOf cs m) ∧ (true, rowOf cs m) ∈ cs := by
  obtain ⟨r, h1, h2, h3⟩ := row_at h
  have h4 := ft r h2
  rw [h3, ← h4]
  exact ⟨h1, h2⟩
theorem shp_raised (sts : List Stp) (n : Nums) : shp (raisedL sts n).1 = shp n := by
  unfold raisedL
  have key : ∀ (l : List Stp) (s : Nums × Bool), shp (l.foldl stepN s).1 = shp s.1 := by
    intro l
    induction l with
    | nil => intro s; rfl
    | cons t r ih => intro s; rw [List.foldl_cons, ih, stepN_shp]
  rw [key, phase1_shp]
theorem zeros_at {cs : Cho} {m : Nat} (h : m < cs.length) : ((zerosL cs).getD m []).length = (rowOf cs m).length := by
  obtain ⟨r, h1, h2, h3⟩ := row_at h
  unfold zerosL
  rw [List.getD_eq_getElem?_getD, List.getElem?_map, h1, h3]
  simp
theorem d_numbers_of (ds μ Q) (h : G_numbers_of ds μ Q) : Body (t_numbers_of G_trips G_first_useless G_is_whole_trip G_place_in G_raised) 12 ds μ Q := by
  obtain ⟨f, s, p, l, ts, cs, rfl, hp, o, q⟩ := h
  have hz : 200000 ≤ sizeLine := by decide
  have h10 := o.oc.n
  have hn := o.n
  simp [-Bool.exists_bool, -Prod.exists, Body, t_numbers_of]
  refine u_trips hp o.o o.it fun pt hpt => ?_
  refine u_first_useless updM_same o.t o.all ?_
  unfold NumQ at q
  cases hu : useL ts cs with
  | some u =>
    rw [hu] at q
    simp [-Bool.exists_bool, -Prod.exists, usD]
    exact Fg.of q (ext1 hpt ext0)
  | none =>
    rw [hu] at q
    obtain ⟨m0, res, hreach, q⟩ := q
    simp [-Bool.exists_bool, -Prod.exists, usD]
    intro ps hps
    have htps : pt ≠ ps := fun e => by subst e; simp at hps
    have hps0 : μ ps = none := by rw [updM_ne htps.symm] at hps; exact hps
    simp [-Bool.exists_bool, -Prod.exists, updM_ne htps]
    have hst : ∀ t ∈ stepsL ts cs, StOk (zerosL cs) t := by
      intro x hx
      obtain ⟨t, ht, rfl⟩ := List.mem_map.mp hx
      obtain ⟨o1, o2⟩ := o.t t (List.mem_filter.mp ht).1
      obtain ⟨e1, m1⟩ := row_ft o1 o.ft
      obtain ⟨e2, m2⟩ := row_ft o2 o.ft
      have hzl : (zerosL cs).length = cs.length := by unfold zerosL; rw [List.length_map]
      refine ⟨by rw [hzl]; exact o1, ?_, by rw [hzl]; exact o2, ?_⟩
      · show placeL _ _ < ((zerosL cs).getD t.one []).length
        rw [zeros_at o1]; exact placeL_lt (o.oc.z (true, rowOf cs t.one) m1)
      · show placeL _ _ < ((zerosL cs).getD t.other []).length
        rw [zeros_at o2]; exact placeL_lt (o.oc.z (true, rowOf cs t.other) m2)
    refine for_map (fun r ρ μ' => ∃ x y dn, ρ = [some (fmD f), some (sdD s), some (.ref p), some (choD cs), some (.ref pt), some .non, some (.ref ps), x, y, none, none, none] ∧ (∀ a c, μ a = some c → μ' a = some c) ∧ μ' pt = some (.lst (ts.map tpD)) ∧ μ' ps = some (.lst (dn.map stD)) ∧ dn ++ (r.filter isWhole).map (stepOf cs) = stepsL ts cs ∧ dn.length + r.length ≤ 5000 ∧ ∀ t ∈ r, t ∈ ts) ?_ ?_
      ⟨_, _, [], rfl, ext2 hps0 (ext1 hpt ext0), by rw [updM_ne htps]; exact updM_same, updM_same, rfl, by simpa using hn, fun t ht => ht⟩
    · rintro t r ρ μ' N ⟨x, y, dn, rfl, e, h1, h2, h3, h4, h5⟩ hN
      have htm := h5 t List.mem_cons_self
      have h5' : ∀ t ∈ r, t ∈ ts := fun z hz => h5 z (List.mem_cons_of_mem _ hz)
      obtain ⟨o1, o2⟩ := o.t t htm
      obtain ⟨e1, m1⟩ := row_ft o1 o.ft
      obtain ⟨e2, m2⟩ := row_ft o2 o.ft
      rw [List.length_cons] at h4
      simp [-Bool.exists_bool, -Prod.exists]
      refine u_is_whole_trip ?_
      by_cases hw : isWhole t = true
      · obtain ⟨rd, nm, one, snd, other, com⟩ := t
        rw [List.filter_cons_of_pos hw, List.map_cons] at h3
        simp only at e1 m1 e2 m2
        simp [isWhole] at hw
        obtain ⟨i, hi⟩ := Option.isSome_iff_exists.mp hw.1
        obtain ⟨j, hj⟩ := Option.isSome_iff_exists.mp hw.2
        subst hi hj
        simp [-Bool.exists_bool, -Prod.exists, isWhole, tpD, oN]
        refine u_place_in e1 (o.oc.z (true, rowOf cs one) m1) (o.oc.len (true, rowOf cs one) m1) ?_
        simp [-Bool.exists_bool, -Prod.exists, h2]
        refine u_place_in e2 (o.oc.z (true, rowOf cs other) m2) (o.oc.len (true, rowOf cs other) m2) ?_
        simp [-Bool.exists_bool, -Prod.exists, h2]
        refine ⟨by omega, ?_⟩
        refine hN _ _ (by rw [updM_ne htps]; exact h1) ⟨_, _, dn ++ [stepOf cs ⟨rd, nm, one, some i, other, some j⟩], rfl, ext2 hps0 e, by rw [updM_ne htps]; exact h1, by rw [updM_same, List.map_append]; rfl, by rw [← h3]; simp, by rw [List.length_append, List.length_singleton]; omega, h5'⟩
      · rw [List.filter_cons_of_neg hw] at h3
        simp [-Bool.exists_bool, -Prod.exists, hw]
        exact hN _ _ h1 ⟨_, _, dn, rfl, e, h1, h2, h3, by omega, h5'⟩
    · rintro ρ μ' ⟨x, y, dn, rfl, e, h1, h2, h3, h4, h5⟩
      rw [List.filter_nil, List.map_nil, List.append_nil] at h3
      subst h3
      simp [-Bool.exists_bool, -Prod.exists, choD]
      refine lc_gen (fun r acc μ2 => ∃ rs dn, acc = rs.map D.ref ∧ rs.Nodup ∧ (∀ a ∈ rs, μ' a = none) ∧ OutR rs μ' μ2 ∧ dn ++ r = cs ∧ rs.length = dn.length ∧ ∀ (i : Nat) (a : Addr) (row : Bool × List Nat), rs[i]? = some a → dn[i]? = some row → μ2 a = some (.lst ((List.replicate row.2.length 0).map nD))) ?_ ?_
        ⟨[], [], rfl, by simp, by simp, fun _ _ => rfl, rfl, rfl, by simp⟩
      · rintro row r acc μ2 Y N ⟨rs, dn, rfl, nd, hfr, ho, hd, hl, hat⟩ hY hN
        have hrm : row ∈ cs := by rw [← hd]; simp
        have hrl := o.oc.len row hrm
        have key : lcLoop (fun x => True) (aName 11) aYes (aC (.int 0)) [some (fmD f), some (sdD s), some (.ref p), some (choD cs), some (.ref pt), some .non, some (.ref ps), x, y, none, some (rwD row), none] (row.2.map nD) [] μ2 fun ds μ1 => ∀ p, μ1 p = none → Y (.ref p) (updM μ1 p (.lst ds)) := by
          refine lc_all (fun _ => nD 0) trivial (fun z hz Y2 hy => by simp; exact hy) (by omega) ?_
          intro q hq
          have hqr : q ∉ rs := fun hm => by
            obtain ⟨i, hi, rfl⟩ := List.mem_iff_getElem.mp hm
            have hi2 : i < dn.length := by omega
            rw [hat i _ _ (List.getElem?_eq_getElem hi) (List.getElem?_eq_getElem hi2)] at hq
            cases hq
          have hq0 : μ' q = none := by rw [← ho q hqr]; exact hq
          have hrep : row.2.map (fun _ => nD 0) = (List.replicate row.2.length 0).map nD := by rw [List.map_replicate]; exact List.map_const'
          rw [hrep]
          have hdl : dn.length < cs.length := by rw [← hd, List.length_append, List.length_cons]; omega
          refine hY _ _ ⟨rs ++ [q], dn ++ [row], by simp, ?_, ?_, ?_, by rw [← hd]; simp, by simp [hl], ?_⟩ (by rw [List.length_map]; omega) trivial
          · rw [List.nodup_append]
            exact ⟨nd, by simp, fun a ha b hb e => by simp at hb; subst hb; subst e; exact hqr ha⟩
          · intro a ha
            rcases List.mem_append.mp ha with ha | ha
            · exact hfr a ha
            · simp at ha; subst ha; exact hq0
          · intro a ha
            simp at ha
            rw [updM_ne ha.2]; exact ho a ha.1
          · intro i a row' hi hi'
            rcases Nat.lt_or_ge i rs.length with h | h
            · rw [List.getElem?_append_left h] at hi
              rw [List.getElem?_append_left (by omega)] at hi'
              have hm := List.mem_of_getElem? hi
              rw [updM_ne (fun e => hqr (by rw [← e]; exact hm))]
              exact hat i a row' hi hi'
            · rw [List.getElem?_append_right h] at hi
              rw [List.getElem?_append_right (by omega)] at hi'
              have h0 : i - rs.length = 0 := by
                have := (List.getElem?_eq_some_iff.mp hi).1
                simp at this; omega
              rw [h0] at hi
              rw [show i - dn.length = 0 by omega] at hi'
              simp at hi hi'
              subst hi hi'
              exact updM_same
        rcases rwD_cases row with er | er <;> rw [er] at key ⊢ <;> simp [-Bool.exists_bool, -Prod.exists] <;> simpa [-Bool.exists_bool, -Prod.exists, choD] using key
      · rintro acc μ2 ⟨rs, dn, rfl, nd, hfr, ho, hd, hl, hat⟩
        rw [List.append_nil] at hd
        subst hd
        intro pn hpn
        have hcs := o.oc
        have hpnr : pn ∉ rs := fun hm => by
          obtain ⟨i, hi, rfl⟩ := List.mem_iff_getElem.mp hm
          have hi2 : i < dn.length := by omega
          rw [hat i _ _ (List.getElem?_eq_getElem hi) (List.getElem?_eq_getElem hi2)] at hpn
          cases hpn
        have hpsr : ps ∉ rs := fun hm => by rw [hfr ps hm] at h2; cases h2
        have hdom : ∀ a c, μ a = some c → a ∉ rs := fun a c h hm => by have := hfr a hm; rw [e a c h] at this; cases this
        have hpnps : ps ≠ pn := fun he => by subst he; rw [ho ps hpsr, h2] at hpn; cases hpn
        have hpn0 : μ pn = none := by
          refine none_of (μ' := μ') e ?_
          rw [← ho pn hpnr]; exact hpn
        have hnum : NumIs (updM μ2 pn (.lst (rs.map D.ref))) pn rs (zerosL dn) := by
          refine ⟨updM_same, nd, hpnr, by unfold zerosL; rw [List.length_map]; exact hl, fun i a row hi hrow => ?_⟩
          have hm := List.mem_of_getElem? hi
          rw [updM_ne (fun he => hpnr (by rw [← he]; exact hm))]
          unfold zerosL at hrow
          rw [List.getElem?_map] at hrow
          obtain ⟨r, hr, rfl⟩ := Option.map_eq_some_iff.mp hrow
          exact hat i a r hi hr
        refine while_gen (fun m ρ μ3 => ∃ n, ρ = [some (fmD f), some (sdD s), some (.ref p), some (choD dn), some (.ref pt), some .non, some (.ref ps), x, y, some (.ref pn), none, none] ∧ NumIs μ3 pn rs n ∧ (∀ a c, μ a = some c → μ3 a = some c) ∧ μ3 ps = some (.lst ((stepsL ts dn).map stD)) ∧ ReachN (stepsL ts dn) m n res ∧ shp n = shp (zerosL dn)) ?_
          (m := m0) ⟨zerosL dn, rfl, hnum, ext1 hpn (fun a c h => by rw [ho a (hdom a c h)]; exact e a c h), by rw [updM_ne hpnps, ho ps hpsr]; exact h2, hreach, rfl⟩
        rintro m ρ μ3 N ⟨n, rfl, k1, k2, k3, k4, k5⟩ hN
        have hshl : ∀ r ∈ n, r.length ≤ 1000 := by
          intro r hr
          have : r.length ∈ shp n := List.mem_map.mpr ⟨r, hr, rfl⟩
          rw [k5] at this
          obtain ⟨z, hz, hz2⟩ := List.mem_map.mp this
          obtain ⟨w, hw, rfl⟩ := List.mem_map.mp hz
          rw [List.length_replicate] at hz2
          have := hcs.len w hw
          omega
        simp [-Bool.exists_bool, -Prod.exists]
        refine u_raised k3 hpsr k1 (fun t ht => (hst t ht).of k5) hshl fun μ4 j1 j2 => ?_
        have k2' : ∀ a c, μ a = some c → μ4 a = some c := fun a c h => by rw [j2 a (hdom a c h)]; exact k2 a c h
        cases m with
        | zero => exact k4.elim
        | succ m =>
          unfold ReachN at k4
          refine ⟨_, rfl, ?_⟩
          by_cases hb : (raisedL (stepsL ts dn) n).2 = true
          · rw [if_pos hb] at k4 ⊢
            exact hN m _ _ (Nat.lt_succ_self m) ⟨_, rfl, j1, k2', by rw [j2 ps hpsr]; exact k3, k4, (shp_raised _ _).trans k5⟩
          · rw [if_neg hb] at k4 ⊢
            subst k4
            have hlen := j1.len
            simp [-Bool.exists_bool, -Prod.exists, j1.l]
            refine lc_map (fun _ => true) (fun a => match μ4 a with | some (.lst ds) => .tup ds | _ => .non) j1.l (fun a ha Y N2 hy _ => ?_) (by omega) ?_
            · obtain ⟨i, hi, rfl⟩ := List.mem_iff_getElem.mp ha
              have hi2 : i < (raisedL (stepsL ts dn) n).1.length := by omega
              have hv := j1.at_ i _ _ (List.getElem?_eq_getElem hi) (List.getElem?_eq_getElem hi2)
              have hy := hy rfl
              rw [hv] at hy
              simp [-Bool.exists_bool, -Prod.exists, hv]
              exact hy
            · rw [List.filter_eq_self.mpr (fun _ _ => rfl)]
              have hfin : rs.map (fun a => match μ4 a with | some (.lst ds) => D.tup ds | _ => .non) = (raisedL (stepsL ts dn) n).1.map fun row => .tup (row.map nD) := by
                refine List.ext_getElem? fun i => ?_
                rw [List.getElem?_map, List.getElem?_map]
                rcases Nat.lt_or_ge i rs.length with h | h
                · have hi2 : i < (raisedL (stepsL ts dn) n).1.length := by omega
                  have hv := j1.at_ i _ _ (List.getElem?_eq_getElem h) (List.getElem?_eq_getElem hi2)
                  rw [List.getElem?_eq_getElem h, List.getElem?_eq_getElem hi2, Option.map_some, Option.map_some, hv]
                · rw [List.getElem?_eq_none h, List.getElem?_eq_none (by omega)]; rfl
              rw [hfin]
              exact Fg.of q k2'
end Cs

/-! ## CsS -/
namespace Cs
open PySem PySem.Spec PyProof.Rows L2 Dl
theorem zpD_map {α β : Type} (e : α → D) (g : β → D) : ∀ (l : List α) (r : List β), zpD (l.map e) (r.map g) = (l.zip r).map fun p => .tup [e p.1, g p.2]
  | [], r => by cases r <;> rfl
  | a :: l, [] => rfl
  | a :: l, b :: r => by
    rw [List.map_cons, List.map_cons, List.zip_cons_cons, List.map_cons, ← zpD_map e g l r]
    rfl
def rwN (row : List Nat) : D := .tup (row.map nD)
def G_is_form_of : DRs := fun ds μ Q => ∃ (cs : Cho) (n : Nums), ds = [choD cs, nmD n] ∧ shp n = cs.map (fun r => r.2.length) ∧ (∀ r ∈ n, r.length ≤ 1000) ∧ Q (.bl true) μ
theorem u_is_form_of {cs : Cho} {n : Nums} {μ Q} (h : shp n = cs.map (fun r => r.2.length)) (h1 : ∀ r ∈ n, r.length ≤ 1000) (q : Q (.bl true) μ) : G_is_form_of [choD cs, nmD n] μ Q := ⟨cs, n, rfl, h, h1, q⟩
theorem d_is_form_of (ds μ Q) (h : G_is_form_of ds μ Q) : Body (t_is_form_of G_is_number) 5 ds μ Q := by
  obtain ⟨cs, n, rfl, hs, hl, q⟩ := h
  have q := Fg.same q
  have hz : 200000 ≤ sizeLine := by decide
  have hlen : n.length = cs.length := by have := congrArg List.length hs; simpa [shp] using this
  simp [-Bool.exists_bool, -Prod.exists, Body, t_is_form_of, isLC, tyD, nmD, choD, hlen]
  refine ⟨_, _, ⟨rfl, rfl⟩, _, rfl, _, rfl, ?_⟩
  rw [zpD_map]
  refine for_map (fun r ρ μ' => (∃ x y z, ρ = [some (choD cs), some (nmD n), x, y, z]) ∧ μ' = μ ∧ ∀ p ∈ r, p.2.length = p.1.2.length ∧ p.2.length ≤ 1000) ?_ ?_ ⟨⟨_, _, _, rfl⟩, rfl, ?_⟩
  · rintro ⟨row, own⟩ r ρ μ' N ⟨⟨x, y, z, rfl⟩, rfl, hr⟩ hN
    obtain ⟨h1, h2⟩ := hr _ List.mem_cons_self
    simp only at h1 h2
    have fin : ∀ z, N [some (choD cs), some (nmD n), some (rwD row), some (rwN own), z] μ' := fun z => hN _ _ trivial ⟨⟨_, _, z, rfl⟩, rfl, fun p hp => hr p (List.mem_cons_of_mem _ hp)⟩
    have key : ∀ z, lcLoop (fun x => True) (aName 4) aYes (aAndV (aCall G_is_number (aCons (aVar 4) aNil)) (aOp rGe (aVar 4) (aC (.int 0)))) [some (choD cs), some (nmD n), some (rwD row), some (rwN own), none] (own.map nD) [] μ' fun ds μ1 => ∃ bs : List Bool, ds = bs.map .bl ∧ (if false ∈ bs then Fg Q (.bl false) μ1 else N [some (choD cs), some (nmD n), some (rwD row), some (rwN own), z] μ1) := by
      intro z
      refine lc_all (fun _ => .bl true) trivial (fun v hv Y hy => by simp [-Bool.exists_bool, -Prod.exists, G_is_number]; exact hy) (by omega) ?_
      exact ⟨_, map_true own, by rw [if_neg (by simp)]; exact fin z⟩
    have key := key z
    rcases rwD_cases row with er | er <;> rw [er] at key ⊢ <;> simp [-Bool.exists_bool, -Prod.exists, isLC, tyD, h1] <;> simpa [-Bool.exists_bool, -Prod.exists, choD, nmD, rwN] using key
  · rintro ρ μ' ⟨⟨x, y, z, rfl⟩, rfl, hr⟩
    simp
    exact q
  · rintro ⟨row, own⟩ hp
    refine ⟨?_, hl own (List.of_mem_zip hp).2⟩
    obtain ⟨i, hi, he⟩ := List.mem_iff_getElem.mp hp
    rw [List.length_zip] at hi
    rw [List.getElem_zip] at he
    obtain ⟨rfl, rfl⟩ := Prod.mk.inj he
    have : (shp n)[i]? = (cs.map fun r => r.2.length)[i]? := by rw [hs]
    unfold shp at this
    rw [List.getElem?_map, List.getElem?_map, List.getElem?_eq_getElem (by omega), List.getElem?_eq_getElem (by omega)] at this
    simpa using this
/-! ### ask_trip -/
structure TripOk (cs : Cho) (n : Nums) (t : Tp) : Prop where
  snd : isWhole t = true
  last : t.com.getD 0 < lastL (rowOf cs t.other) → t.snd.getD 0 < lastL (rowOf cs t.one)
  le : at2 n t.one (placeL (rowOf cs t.one) (t.snd.getD 0)) ≤ at2 n t.other (placeL (rowOf cs t.other) (t.com.getD 0))
def G_ask_trip : DRs := fun ds μ Q => ∃ (cs : Cho) (n : Nums) (t : Tp), ds = [choD cs, nmD n, tpD t] ∧ OkC cs ∧ (∀ r ∈ cs, r.1 = true) ∧ shp n = cs.map (fun r => r.2.length) ∧ t.one < cs.length ∧ t.other < cs.length ∧ TripOk cs n t ∧ Q .non μ
theorem u_ask_trip {cs : Cho} {n : Nums} {t : Tp} {μ Q} (oc : OkC cs) (ft : ∀ r ∈ cs, r.1 = true) (h : shp n = cs.map (fun r => r.2.length)) (h1 : t.one < cs.length) (h2 : t.other < cs.length) (o : TripOk cs n t) (q : Q .non μ) : G_ask_trip [choD cs, nmD n, tpD t] μ Q := ⟨cs, n, t, rfl, oc, ft, h, h1, h2, o, q⟩
theorem nm_at {cs : Cho} {n : Nums} (h : shp n = cs.map (fun r => r.2.length)) {i : Nat} (hi : i < cs.length) : ∃ row, n[i]? = some row ∧ row.length = (rowOf cs i).length ∧ ∀ p, at2 n i p = row.getD p 0 := by
  have hlen : n.length = cs.length := by have := congrArg List.length h; simpa [shp] using this
  have e := List.getElem?_eq_getElem (show i < n.length by omega)
  refine ⟨_, e, ?_, fun p => ?_⟩
  · have : (shp n)[i]? = (cs.map fun r => r.2.length)[i]? := by rw [h]
    unfold shp at this
    obtain ⟨r, hr, _, hro⟩ := row_at hi
    rw [List.getElem?_map, List.getElem?_map, e, hr] at this
    rw [hro]
    simpa using this
  · unfold at2
    rw [List.getD_eq_getElem?_getD (l := n), e]; rfl
theorem d_ask_trip (ds μ Q) (h : G_ask_trip ds μ Q) : Body (t_ask_trip G_place_in) 9 ds μ Q := by
  obtain ⟨cs, n, ⟨rd, nm, one, snd, other, com⟩, rfl, oc, ft, hs, h1, h2, o, q⟩ := h
  have q := Fg.same q
  simp only at h1 h2
  have hw := o.snd
  simp [isWhole] at hw
  obtain ⟨i, hi⟩ := Option.isSome_iff_exists.mp hw.1
  obtain ⟨j, hj⟩ := Option.isSome_iff_exists.mp hw.2
  subst hi hj
  have ol := o.last
  have le := o.le
  simp only [Option.getD_some] at ol le
  obtain ⟨e1, m1⟩ := row_ft h1 ft
  obtain ⟨e2, m2⟩ := row_ft h2 ft
  have z1 : 0 ∈ rowOf cs one := oc.z (true, rowOf cs one) m1
  have z2 : 0 ∈ rowOf cs other := oc.z (true, rowOf cs other) m2
  have l1 : (rowOf cs one).length ≤ 1000 := oc.len (true, rowOf cs one) m1
  have l2 : (rowOf cs other).length ≤ 1000 := oc.len (true, rowOf cs other) m2
  have p1 := placeL_lt (n := i) z1
  have p2 := placeL_lt (n := j) z2
  obtain ⟨r1, g1, g2, g3⟩ := nm_at hs h1
  obtain ⟨r2, k1, k2, k3⟩ := nm_at hs h2
  rw [g3, k3] at le
  have a1 := getD_at (c := r1) (i := placeL (rowOf cs one) i) (by omega)
  have a2 := getD_at (c := r2) (i := placeL (rowOf cs other) j) (by omega)
  have b1 := last_at (l := rowOf cs one) (fun e => by rw [e] at z1; cases z1)
  have b2 := last_at (l := rowOf cs other) (fun e => by rw [e] at z2; cases z2)
  have uu1 : ∀ μ Q, Q (nD (placeL (rowOf cs one) i)) μ → G_place_in [choD cs, nD one, nD i] μ Q := fun μ Q => u_place_in e1 z1 l1
  have uu2 : ∀ μ Q, Q (nD (placeL (rowOf cs other) j)) μ → G_place_in [choD cs, nD other, nD j] μ Q := fun μ Q => u_place_in e2 z2 l2
  generalize r1.getD (placeL (rowOf cs one) i) 0 = v1 at *
  generalize r2.getD (placeL (rowOf cs other) j) 0 = v2 at *
  generalize placeL (rowOf cs one) i = q1 at *
  generalize placeL (rowOf cs other) j = q2 at *
  generalize lastL (rowOf cs one) = x1 at *
  generalize lastL (rowOf cs other) = x2 at *
  generalize rowOf cs one = ro1 at *
  generalize rowOf cs other = ro2 at *
  have hcut : ∀ a b c d e : D, cutA [a, b, c, d, e] (some 1) none = [b, c, d, e] := fun a b c d e => rfl
  have hrest : ∀ (x y : Option D) , aSeq (aAsg (aCall G_place_in (aCons (aVar 0) (aCons (aVar 3) (aCons (aVar 4) aNil)))) (aName 7)) (aSeq (aAsg (aCall G_place_in (aCons (aVar 0) (aCons (aVar 5) (aCons (aVar 6) aNil)))) (aName 8))
      (aIfS (aTest (aOp (rLt) (aOp rIxD (aOp rIxD (aVar 1) (aVar 5)) (aVar 8)) (aOp rIxD (aOp rIxD (aVar 1) (aVar 3)) (aVar 7)))) aNever aNext)) { nx := fun _ μ' => Fg Q .non μ', rt := fun d μ' => Fg Q d μ' } [some (choD cs), some (nmD n), some (tpD ⟨rd, nm, one, some i, other, some j⟩), some (nD one), some (nD i), some (nD other), some (nD j), x, y] μ := by
    intro x y
    simp [-Bool.exists_bool, -Prod.exists]
    refine uu1 _ _ ?_
    refine uu2 _ _ ?_
    have hlt : ¬ (v2 < v1) := by omega
    simp [-Bool.exists_bool, -Prod.exists, nmD, g1, k1, a1, a2, hlt]
    exact q
  have hrest := hrest none none
  simp [-Bool.exists_bool, -Prod.exists] at hrest
  simp [-Bool.exists_bool, -Prod.exists, Body, t_ask_trip, tpD, oN, hcut]
  have q1' : ∀ (D0 : D), D0 = choD cs → True := fun _ _ => trivial
  rw [show choD cs = .tup (cs.map rwD) from rfl] at hrest ⊢
  simp [-Bool.exists_bool, -Prod.exists, e2, rwD, Dl.atI_last, b2]
  by_cases hlt : j < x2
  · have := ol hlt
    have hge : ¬ (x1 ≤ i) := by omega
    simp [-Bool.exists_bool, -Prod.exists, hlt, e1, rwD, Dl.atI_last, b1, hge]
    simpa [tpD, oN] using hrest
  · simp [-Bool.exists_bool, -Prod.exists, hlt]
    simpa [tpD, oN] using hrest

/-! ### numbers_asked -/
structure NumOk (ts : List Tp) (cs : Cho) (n : Nums) : Prop where
  shp : shp n = cs.map (fun r => r.2.length)
  inc : ∀ row ∈ n, ∀ p, p + 1 < row.length → row.getD p 0 < row.getD (p + 1) 0
  trip : ∀ t ∈ ts, isWhole t = true → TripOk cs n t
def G_numbers_asked : DRs := fun ds μ Q => ∃ f s p l ts cs n, ds = [fmD f, sdD s, .ref p, choD cs, nmD n] ∧ μ p = some (.lst (l.map ddD)) ∧ OkN f s l ts cs ∧ NumOk ts cs n ∧ Q (.bl true) μ
theorem u_numbers_asked {f s p l ts cs n μ Q} (h : μ p = some (.lst (List.map ddD l))) (o : OkN f s l ts cs) (k : NumOk ts cs n) (q : Q (.bl true) μ) : G_numbers_asked [fmD f, sdD s, .ref p, choD cs, nmD n] μ Q := ⟨f, s, p, l, ts, cs, n, rfl, h, o, k, q⟩
theorem d_numbers_asked (ds μ Q) (h : G_numbers_asked ds μ Q) : Body (t_numbers_asked G_is_form_of G_trips G_is_whole_trip G_ask_trip) 9 ds μ Q := by
  obtain ⟨f, s, p, l, ts, cs, n, rfl, hp, o, k, q⟩ := h
  have hz : 200000 ≤ sizeLine := by decide
  have hl : ∀ r ∈ n, r.length ≤ 1000 := by
    intro r hr
    have : r.length ∈ shp n := List.mem_map.mpr ⟨r, hr, rfl⟩
    rw [k.shp] at this
    obtain ⟨w, hw, hw2⟩ := List.mem_map.mp this
    have := o.oc.len w hw
    omega
  simp [-Bool.exists_bool, -Prod.exists, Body, t_numbers_asked]
  refine u_is_form_of k.shp hl ?_
  simp [-Bool.exists_bool, -Prod.exists, nmD]
  rw [enD_ddD]
  refine for_map (fun r ρ μ' => (∃ x y z u, ρ = [some (fmD f), some (sdD s), some (.ref p), some (choD cs), some (nmD n), x, y, z, u]) ∧ μ' = μ ∧ ∀ x ∈ r, x.1 ∈ n) ?_ ?_ ⟨⟨_, _, _, _, rfl⟩, rfl, fun x hx => List.mem_of_getElem? (List.mem_zipIdx_iff_getElem?.mp hx)⟩
  · rintro ⟨row, m⟩ r ρ μ' N ⟨⟨x, y, z, u, rfl⟩, rfl, hr⟩ hN
    have hm := hr _ List.mem_cons_self
    have hrl := hl row hm
    simp [-Bool.exists_bool, -Prod.exists]
    refine ⟨_, _, ⟨rfl, rfl⟩, by omega, ?_⟩
    rw [rgD_map, show ((row.length : Int) - 1).toNat = row.length - 1 by omega]
    refine for_map (fun t ρ μ2 => (∃ z u, ρ = [some (fmD f), some (sdD s), some (.ref p), some (choD cs), some (nmD n), some (nD m), some (rwN row), z, u]) ∧ μ2 = μ' ∧ ∀ j ∈ t, j + 1 < row.length) ?_ ?_ ⟨⟨_, _, rfl⟩, rfl, fun j hj => by have := List.mem_range.mp hj; omega⟩
    · rintro j t ρ μ2 N2 ⟨⟨z, u, rfl⟩, rfl, hj⟩ hN2
      have hj1 := hj j List.mem_cons_self
      have hinc := k.inc row hm j hj1
      have e1 := getD_at (c := row) (i := j) (by omega)
      have e2 := getD_at (c := row) (i := j + 1) hj1
      generalize row.getD j 0 = v1 at *
      generalize row.getD (j + 1) 0 = v2 at *
      have c1 : (1 : Int) + (j : Int) = ((j + 1 : Nat) : Int) := by omega
      have c2 : ((j + 1 : Nat) : Int) - 1 = (j : Int) := by omega
      rw [c1]
      generalize hk : j + 1 = k at *
      have hle : ¬ (v2 ≤ v1) := by omega
      simp [-Bool.exists_bool, -Prod.exists, rwN, c2, e1, e2, hle]
      exact hN2 _ _ trivial ⟨⟨_, _, rfl⟩, rfl, fun i hi => hj i (List.mem_cons_of_mem _ hi)⟩
    · rintro ρ μ2 ⟨⟨z, u, rfl⟩, rfl, hj⟩
      exact hN _ _ trivial ⟨⟨_, _, _, _, rfl⟩, rfl, fun x hx => hr x (List.mem_cons_of_mem _ hx)⟩
  · rintro ρ μ' ⟨⟨x, y, z, u, rfl⟩, rfl, hr⟩
    simp [-Bool.exists_bool, -Prod.exists]
    refine u_trips hp o.o o.it fun pt hpt => ?_
    simp [-Bool.exists_bool, -Prod.exists]
    refine for_map (fun r ρ μ2 => (∃ u, ρ = [some (fmD f), some (sdD s), some (.ref p), some (choD cs), some (nmD n), x, y, z, u]) ∧ μ2 = updM μ' pt (.lst (ts.map tpD)) ∧ ∀ t ∈ r, t ∈ ts) ?_ ?_ ⟨⟨_, rfl⟩, rfl, fun t ht => ht⟩
    · rintro t r ρ μ2 N ⟨⟨u, rfl⟩, rfl, ht⟩ hN
      have htm := ht t List.mem_cons_self
      have fin := hN [some (fmD f), some (sdD s), some (.ref p), some (choD cs), some (nmD n), x, y, z, some (tpD t)] _ updM_same ⟨⟨_, rfl⟩, rfl, fun z hz => ht z (List.mem_cons_of_mem _ hz)⟩
      simp [-Bool.exists_bool, -Prod.exists]
      refine u_is_whole_trip ?_
      by_cases hw : isWhole t = true
      · simp [-Bool.exists_bool, -Prod.exists, hw]
        exact u_ask_trip o.oc o.ft k.shp (o.t t htm).1 (o.t t htm).2 (k.trip t htm hw) fin
      · simp [-Bool.exists_bool, -Prod.exists, hw]
        exact fin
    · rintro ρ μ2 ⟨⟨u, rfl⟩, rfl, _⟩
      simp
      exact Fg.of q (ext1 hpt ext0)
end Cs

/-! ## LwA -/
namespace Cs
open PySem PySem.Spec PyProof.Rows L2 Dl
/-! ### the feed -/
def Fd (pf pc : Addr) (k : Nat) (μ : Mu) : Prop := pc ≠ pf ∧ ∃ (cells : List Int) (i : Nat) (carry : Int) (cnt : Nat), μ pf = some (.lst [.ref pc, nD i, .int carry, nD cnt]) ∧ μ pc = some (.lst (cells.map D.int)) ∧ cells ≠ [] ∧ cnt ≤ k
theorem Fd.mono {pf pc : Addr} {k j : Nat} {μ : Mu} (h : Fd pf pc k μ) (hk : k ≤ j) : Fd pf pc j μ := by
  obtain ⟨h1, cells, i, carry, cnt, h2, h3, h4, h5⟩ := h
  exact ⟨h1, cells, i, carry, cnt, h2, h3, h4, by omega⟩
theorem Fd.keep {pf pc : Addr} {k : Nat} {μ μ' : Mu} (h : Fd pf pc k μ) (h1 : μ' pf = μ pf) (h2 : μ' pc = μ pc) : Fd pf pc k μ' := by
  unfold Fd at h ⊢
  rw [h1, h2]; exact h
def G__law_draw : DRs := fun ds μ Q => ∃ (pf pc : Addr) (k n : Nat), ds = [.ref pf, nD n] ∧ Fd pf pc k μ ∧ k < 1000000000 ∧ 0 < n ∧ n < 1000000 ∧ ∀ v < n, ∀ μ', Fd pf pc (k + 1) μ' → OutR [pf] μ μ' → Q (nD v) μ'
theorem u__law_draw {pf pc : Addr} {k n : Nat} {μ Q} (h : Fd pf pc k μ) (hk : k < 1000000000) (h0 : 0 < n) (h1 : n < 1000000) (q : ∀ v < n, ∀ μ', Fd pf pc (k + 1) μ' → OutR [pf] μ μ' → Q (nD v) μ') : G__law_draw [.ref pf, nD n] μ Q := ⟨pf, pc, k, n, rfl, h, hk, h0, h1, q⟩
theorem outR1 {pf : Addr} {μ : Mu} {c : C} : OutR [pf] μ (updM μ pf c) := fun a h => updM_ne (by simpa using h)
theorem mod_nat {x : Int} {n : Nat} (h : 0 < n) : ∃ v : Nat, v < n ∧ x % (n : Int) = (v : Int) := by
  have h1 : 0 ≤ x % (n : Int) := Int.emod_nonneg _ (by omega)
  have h2 : x % (n : Int) < n := Int.emod_lt_of_pos _ (by omega)
  exact ⟨(x % (n : Int)).toNat, by omega, by omega⟩
theorem ix3 {a b c d : D} : ixN [a, b, c, d].length 3 = some 3 := rfl
theorem d__law_draw (ds μ Q) (h : G__law_draw ds μ Q) : Body t__law_draw 6 ds μ Q := by
  obtain ⟨pf, pc, k, n, rfl, ⟨hne, cells, i, carry, cnt, h1, h2, h3, h4⟩, hk, hn0, hn1, q⟩ := h
  have hz : 200000 ≤ sizeLine := by decide
  have fin : ∀ (v : Nat) (i' : Nat) (carry' : Int) (μ' : Mu), v < n → μ' = updM μ pf (.lst [.ref pc, nD i', .int carry', .int ((cnt : Int) + 1)]) → Fg Q (nD v) μ' := by
    rintro v i' carry' μ' hv rfl
    refine Fg.same (q v hv _ ⟨hne, cells, i', carry', cnt + 1, updM_same, by rw [updM_ne hne]; exact h2, h3, by omega⟩ outR1)
  have x3 : ixN 4 3 = some 3 := rfl
  have x2 : ixN 4 2 = some 2 := rfl
  have x1 : ixN 4 1 = some 1 := rfl
  have hnb : (n : Int) < 1073741824 := by omega
  simp [-Bool.exists_bool, -Prod.exists, Body, t__law_draw, h1, x3]
  by_cases hc : 0 < carry
  · obtain ⟨v, hv, hv2⟩ := mod_nat (x := carry) hn0
    simp [-Bool.exists_bool, -Prod.exists, hc, hn0, x2, CDiv, hnb, hv2]
    exact fin v i _ _ hv rfl
  · simp [-Bool.exists_bool, -Prod.exists, hc, updM_ne hne, h2]
    have hcl : 0 < cells.length := List.length_pos_iff.mpr h3
    obtain ⟨j, hj, hj2⟩ := mod_nat (x := (i : Int)) hcl
    have e1 : cells[j]? = some cells[j] := List.getElem?_eq_getElem hj
    generalize cells[j] = cell at e1
    simp [-Bool.exists_bool, -Prod.exists, hj2, e1, x1, hcl]
    refine ⟨⟨by decide, by decide, by decide⟩, ?_⟩
    by_cases hb : 1000000000000000000 ≤ cell
    · rw [if_pos hb]
      obtain ⟨v, hv, hv2⟩ := mod_nat (x := cell) hn0
      refine ⟨⟨by omega, by omega⟩, 2, x2, hn0, ?_⟩
      rw [hv2]
      exact fin v (i + 1) _ _ hv rfl
    · rw [if_neg hb]
      refine ⟨.inl ⟨by decide, by decide⟩, .inr ⟨by omega, by omega⟩, .inl ⟨by decide, by decide⟩, .inl ⟨by omega, by omega⟩, ?_⟩
      generalize (cell % 2147483629 + 1) * (31 * ((cnt : Int) + 1) * ((cnt : Int) + 1) + 7919 * ((cnt : Int) + 1) + 1) % 2147483647 = X
      refine ⟨.inr ⟨by omega, by omega⟩, ⟨by omega, by omega⟩, hn0, ?_⟩
      generalize (X * (X % 65521 + 48271) + ((cnt : Int) + 1)) % 2147483629 / 7 = Y
      obtain ⟨v, hv, hv2⟩ := mod_nat (x := Y) hn0
      rw [hv2]
      exact fin v (i + 1) _ _ hv rfl
/-! ### the feed's start -/
def G__law_feed : DRs := fun ds μ Q => ∃ (a : Addr) (cells : List Int), ds = [.ref a] ∧ μ a = some (.fL (cells.map D.int)) ∧ cells.length ≤ 63 ∧ ∀ pf pc μ', Fd pf pc 0 μ' → μ pf = none → μ pc = none → (∀ b c, μ b = some c → μ' b = some c) → Q (.ref pf) μ'
theorem u__law_feed {a : Addr} {cells : List Int} {μ Q} (h : μ a = some (.fL (cells.map D.int))) (hl : cells.length ≤ 63) (q : ∀ pf pc μ', Fd pf pc 0 μ' → μ pf = none → μ pc = none → (∀ b c, μ b = some c → μ' b = some c) → Q (.ref pf) μ') : G__law_feed [.ref a] μ Q := ⟨a, cells, rfl, h, hl, q⟩
theorem okDs_ints (n : Nat) (l : List Int) : okDs n (l.map D.int) = true := by
  induction l with
  | nil => cases n <;> rfl
  | cons a r ih => cases n <;> simp_all [okDs, okD]
theorem d__law_feed (ds μ Q) (h : G__law_feed ds μ Q) : Body t__law_feed 1 ds μ Q := by
  obtain ⟨a, cells, rfl, h, hl, q⟩ := h
  have hz : 200000 ≤ sizeLine := by decide
  have hcut : cutA (cells.map D.int) none (some 63) = cells.map D.int := by
    rw [show (some (63 : Int)) = some ((63 : Nat) : Int) from rfl, cutA_take, List.take_of_length_le (by rw [List.length_map]; exact hl)]
  have ok := okDs_ints 20 cells
  simp [-Bool.exists_bool, -Prod.exists, Body, t__law_feed, h, lstOf, hcut]
  intro p1 h1 p2 h2 p3 h3
  have a1 : a ≠ p1 := mu_ne h h1
  have a2 : a ≠ p2 := fun e => by subst e; rw [updM_ne a1, h] at h2; cases h2
  have a3 : a ≠ p3 := fun e => by subst e; rw [updM_ne a2, updM_ne a1, h] at h3; cases h3
  have n12 : p1 ≠ p2 := fun e => by subst e; simp at h2
  have n23 : p2 ≠ p3 := fun e => by subst e; simp at h3
  have n13 : p1 ≠ p3 := fun e => by subst e; rw [updM_ne n12] at h3; simp at h3
  have f1 : μ p1 = none := h1
  have f2 : μ p2 = none := by rw [updM_ne n12.symm] at h2; exact h2
  have f3 : μ p3 = none := by rw [updM_ne n23.symm, updM_ne n13.symm] at h3; exact h3
  simp [-Bool.exists_bool, -Prod.exists, updM_ne, n12, n13, n23, a1, a2, a3, h, lstOf, ok]
  have fin : ∀ (cs : List Int) (μ' : Mu) (p4 : Addr), cs ≠ [] → (∀ b c, μ b = some c → μ' b = some c) → μ' p4 = some (.lst (cs.map D.int)) → μ p4 = none → ∀ p, μ' p = none → Fg Q (.ref p) (updM μ' p (.lst [.ref p4, .int 0, .int 0, .int 0])) := by
    intro cs μ' p4 hcs e h4 f4 p hp
    have hne : p4 ≠ p := mu_ne h4 hp
    exact Fg.same (q p p4 _ ⟨hne, cs, 0, 0, 0, updM_same, by rw [updM_ne hne]; exact h4, hcs, Nat.le_refl _⟩ (none_of e hp) f4 (ext1 hp e))
  cases cells with
  | nil =>
    refine ⟨true, rfl, ?_⟩
    simp [-Bool.exists_bool, -Prod.exists, updM_ne, n12, n13, n23]
    refine ⟨by omega, ?_⟩
    intro p4 h4
    have n14 : p1 ≠ p4 := fun e => by subst e; rw [updM_ne n13, updM_ne n12] at h4; simp at h4
    simp [-Bool.exists_bool, -Prod.exists, updM_ne, n12, n13, n23, n14]
    refine ⟨by omega, ?_⟩
    intro p5 h5
    have f4 := none_of (ext1 (c := .lst []) h3 (ext1 (c := .lst [D.int 0]) h2 (ext1 (c := .lst ([].map D.int)) h1 ext0))) h4
    have e5 := ext1 (c := .lst [D.int 0]) h4 (ext1 (c := .lst []) h3 (ext1 (c := .lst [D.int 0]) h2 (ext1 (c := .lst (([] : List Int).map D.int)) h1 (ext0 (μ := μ)))))
    exact fin [0] _ p5 (by simp) (ext1 h5 e5) updM_same (none_of e5 h5)
  | cons z r =>
    refine ⟨false, rfl, ?_⟩
    simp [-Bool.exists_bool, -Prod.exists, updM_ne, n12, n13, n23]
    intro p4 h4
    have n14 : p1 ≠ p4 := fun e => by subst e; rw [updM_ne n13, updM_ne n12] at h4; simp at h4
    simp [-Bool.exists_bool, -Prod.exists, updM_ne, n12, n13, n23, n14]
    refine ⟨by simp at hl; omega, ?_⟩
    intro p5 h5
    have e5 := ext1 (c := .lst []) h4 (ext1 (c := .lst []) h3 (ext1 (c := .lst [D.int 0]) h2 (ext1 (c := .lst ((z :: r).map D.int)) h1 (ext0 (μ := μ)))))
    exact fin (z :: r) _ p5 (by simp) (ext1 h5 e5) updM_same (none_of e5 h5)
end Cs

/-! ## LwB -/
namespace Cs
open PySem PySem.Spec PyProof.Rows L2 Dl
def ExtF (pf : Addr) (μ μ' : Mu) : Prop := ∀ a c, a ≠ pf → μ a = some c → μ' a = some c
theorem ExtF.refl {pf : Addr} {μ : Mu} : ExtF pf μ μ := fun _ _ _ h => h
theorem ExtF.new {pf : Addr} {μ μ' : Mu} {p : Addr} {c : C} (e : ExtF pf μ μ') (h : μ' p = none) : ExtF pf μ (updM μ' p c) := fun a d n z => by
  rw [updM_ne (mu_ne (e _ _ n z) h)]; exact e _ _ n z
theorem ExtF.put {pf : Addr} {μ μ' : Mu} {p : Addr} {c : C} (e : ExtF pf μ μ') (h : μ p = none) : ExtF pf μ (updM μ' p c) := fun a d n z => by
  rw [updM_ne (mu_ne z h)]; exact e _ _ n z
theorem ExtF.out {pf : Addr} {μ μ' μ'' : Mu} (e : ExtF pf μ μ') (o : OutR [pf] μ' μ'') : ExtF pf μ μ'' := fun a d n z => by
  rw [o a (by simpa using n)]; exact e _ _ n z
theorem ExtF.none {pf : Addr} {μ μ' : Mu} {p : Addr} (e : ExtF pf μ μ') (n : p ≠ pf) (h : μ' p = none) : μ p = none := by
  cases hx : μ p with
  | none => rfl
  | some c => rw [e _ _ n hx] at h; cases h
theorem Fd.at1 {pf pc : Addr} {k : Nat} {μ : Mu} (h : Fd pf pc k μ) : ∃ c, μ pf = some c := by
  obtain ⟨h1, cells, i, carry, cnt, h2, h3, h4, h5⟩ := h
  exact ⟨_, h2⟩
theorem Fd.at2 {pf pc : Addr} {k : Nat} {μ : Mu} (h : Fd pf pc k μ) : ∃ c, μ pc = some c := by
  obtain ⟨h1, cells, i, carry, cnt, h2, h3, h4, h5⟩ := h
  exact ⟨_, h3⟩
theorem Fd.ne1 {pf pc p : Addr} {k : Nat} {μ : Mu} (h : Fd pf pc k μ) (hp : μ p = none) : p ≠ pf := by
  obtain ⟨c, hc⟩ := h.at1
  exact (mu_ne hc hp).symm
theorem Fd.ne2 {pf pc p : Addr} {k : Nat} {μ : Mu} (h : Fd pf pc k μ) (hp : μ p = none) : p ≠ pc := by
  obtain ⟨c, hc⟩ := h.at2
  exact (mu_ne hc hp).symm
theorem Fd.upd {pf pc p : Addr} {k : Nat} {μ : Mu} {c : C} (h : Fd pf pc k μ) (h1 : p ≠ pf) (h2 : p ≠ pc) : Fd pf pc k (updM μ p c) := h.keep (updM_ne h1.symm) (updM_ne h2.symm)
theorem Fd.new {pf pc p : Addr} {k : Nat} {μ : Mu} {c : C} (h : Fd pf pc k μ) (hp : μ p = none) : Fd pf pc k (updM μ p c) := h.upd (h.ne1 hp) (h.ne2 hp)
theorem OutR.at1 {pf p : Addr} {μ μ' : Mu} (o : OutR [pf] μ μ') (h : p ≠ pf) : μ' p = μ p := o p (by simpa using h)
theorem Fd.back {pf pc : Addr} {k j : Nat} {μ μ' : Mu} {d : D} {Q : D → Mu → Prop} (hF : Fd pf pc k μ') (h0 : Fd pf pc j μ) (e : ExtF pf μ μ') (q : ∀ μ'', Fd pf pc k μ'' → OutR [pf] μ μ'' → Q d μ'') : Fg Q d μ' := by
  obtain ⟨c, hc⟩ := hF.at1
  obtain ⟨c2, hc2⟩ := h0.at2
  refine ⟨updM μ pf c, fun a d h => ?_, q _ (hF.keep (by rw [updM_same, hc]) ?_) outR1⟩
  · by_cases ha : a = pf
    · subst ha; rw [updM_same] at h; rw [hc]; exact h
    · rw [updM_ne ha] at h; exact e _ _ ha h
  · rw [updM_ne hF.1, hc2, e _ _ hF.1 hc2]
structure OkMv (mine : List Nat) (v : Mv) : Prop where
  ca : v.ca = "own" ∨ v.ca = "a" ∨ v.ca = "b"
  n : v.se.length ≤ 2
  se : ∀ x ∈ v.se, x.1 ∈ mine ∧ isS x.2
def OkRule (mine : List Nat) (r : Nat × List Mv) : Prop := ∀ v ∈ r.2, OkMv mine v
def G__law_rule : DRs := fun ds μ Q => ∃ (pf pc : Addr) (k : Nat) (pm : Addr) (mine : List Nat), ds = [.ref pf, .ref pm] ∧ Fd pf pc k μ ∧ k < 100000000 ∧ μ pm = some (.lst (mine.map nD)) ∧ pm ≠ pf ∧ mine.length ≤ 100 ∧ ∀ rule μ', OkRule mine rule → Fd pf pc (k + 200) μ' → OutR [pf] μ μ' → Q (rlD rule) μ'
theorem u__law_rule {pf pc : Addr} {k : Nat} {pm : Addr} {mine : List Nat} {μ Q} (h : Fd pf pc k μ) (hk : k < 100000000) (hm : μ pm = some (.lst (mine.map nD))) (hn : pm ≠ pf) (hl : mine.length ≤ 100) (q : ∀ rule μ', OkRule mine rule → Fd pf pc (k + 200) μ' → OutR [pf] μ μ' → Q (rlD rule) μ') : G__law_rule [.ref pf, .ref pm] μ Q := ⟨pf, pc, k, pm, mine, rfl, h, hk, hm, hn, hl, q⟩
theorem abc_at {v : Nat} (h : v < 3) : ∃ c, atI (Str.ofString "abc").cps.toList (v : Int) = some c ∧ isS ⟨#[c]⟩ := by
  have : v = 0 ∨ v = 1 ∨ v = 2 := by omega
  rcases this with rfl | rfl | rfl
  · exact ⟨97, rfl, .inl (by decide)⟩
  · exact ⟨98, rfl, .inr (.inl (by decide))⟩
  · exact ⟨99, rfl, .inr (.inr (by decide))⟩
theorem abc_len : (Str.ofString "abc").length ≤ sizeLine := sl1000 (by decide)
theorem cnt4 {v : Nat} (h : v < 4) : ∃ j : Nat, atI [D.int 1, D.int 2, D.int 0, D.int 1] (v : Int) = some (nD j) ∧ j ≤ 2 := by
  have : v = 0 ∨ v = 1 ∨ v = 2 ∨ v = 3 := by omega
  rcases this with rfl | rfl | rfl | rfl
  · exact ⟨1, rfl, by omega⟩
  · exact ⟨2, rfl, by omega⟩
  · exact ⟨0, rfl, by omega⟩
  · exact ⟨1, rfl, by omega⟩
theorem wd4 {v : Nat} (h : v < 4) : ∃ w : Option Str, atI [D.non, D.non, D.str "w", D.str "ab"] (v : Int) = some (wdD w) := by
  have : v = 0 ∨ v = 1 ∨ v = 2 ∨ v = 3 := by omega
  rcases this with rfl | rfl | rfl | rfl
  · exact ⟨none, rfl⟩
  · exact ⟨none, rfl⟩
  · exact ⟨some "w", rfl⟩
  · exact ⟨some "ab", rfl⟩
theorem d__law_rule (ds μ Q) (h : G__law_rule ds μ Q) : Body (t__law_rule G__law_draw) 8 ds μ Q := by
  obtain ⟨pf, pc, k, pm, mine, rfl, hF, hk, hm, hmf, hl, q⟩ := h
  have hz : 200000 ≤ sizeLine := by decide
  simp [-Bool.exists_bool, -Prod.exists, Body, t__law_rule]
  intro pv hpv
  have hvf := hF.ne1 hpv
  have hvc := hF.ne2 hpv
  have hmv : pm ≠ pv := mu_ne hm hpv
  rw [rgD_map]
  refine for_map (fun r ρ μ' => ∃ x y z u w, ∃ (mvs : List Mv) (k' : Nat), ρ = [some (.ref pf), some (.ref pm), some (.ref pv), x, y, z, u, w] ∧ Fd pf pc k' μ' ∧ ExtF pf μ μ' ∧ μ' pv = some (.lst (mvs.map mvD)) ∧ (∀ v ∈ mvs, OkMv mine v) ∧ k' + 40 * r.length ≤ k + 120 ∧ mvs.length + 3 * r.length ≤ 9) ?_ ?_
    ⟨_, _, _, _, _, [], k, rfl, hF.new hpv, ExtF.refl.new hpv, updM_same, by simp, by simp, by simp⟩
  · rintro st r ρ μ' N ⟨x, y, z, u, w, mvs, k', rfl, f1, e1, m1, ok, hk', hmn⟩ hN
    rw [List.length_cons] at hk' hmn
    simp [-Bool.exists_bool, -Prod.exists]
    rw [show [D.str (Str.ofString "own"), D.str (Str.ofString "a"), D.str (Str.ofString "b")] = (["own", "a", "b"] : List Str).map D.str from rfl]
    refine for_map (l := (["own", "a", "b"] : List Str)) (e := D.str) (fun t ρ μ2 => ∃ y z u w, ∃ (mvs : List Mv) (k2 : Nat), ρ = [some (.ref pf), some (.ref pm), some (.ref pv), some (nD st), y, z, u, w] ∧ Fd pf pc k2 μ2 ∧ ExtF pf μ μ2 ∧ μ2 pv = some (.lst (mvs.map mvD)) ∧ (∀ v ∈ mvs, OkMv mine v) ∧ k2 + 12 * t.length ≤ k' + 36 ∧ mvs.length + t.length + 3 * r.length ≤ 9 ∧ ∀ c ∈ t, c = "own" ∨ c = "a" ∨ c = "b") ?_ ?_
      ⟨_, _, _, _, mvs, k', rfl, f1, e1, m1, ok, by simp, by simp; omega, by simp⟩
    · rintro ca t ρ μ2 N2 ⟨y, z, u, w, mvs, k2, rfl, f2, e2, m2, ok2, hk2, hmn2, hca⟩ hN2
      have hca1 := hca ca List.mem_cons_self
      have hca2 : ∀ c ∈ t, c = "own" ∨ c = "a" ∨ c = "b" := fun c hc => hca c (List.mem_cons_of_mem _ hc)
      rw [List.length_cons] at hk2 hmn2
      simp [-Bool.exists_bool, -Prod.exists]
      refine u__law_draw (n := 6) f2 (by omega) (by omega) (by omega) fun v hv μ3 f3 o3 => ?_
      have e3 := e2.out o3
      have m3 : μ3 pv = some (.lst (mvs.map mvD)) := by rw [o3.at1 hvf]; exact m2
      by_cases h0 : 0 < v
      · simp [-Bool.exists_bool, -Prod.exists, h0]
        intro ps hps
        have hsf := f3.ne1 hps
        have hsc := f3.ne2 hps
        have hvs : pv ≠ ps := mu_ne m3 hps
        refine u__law_draw (n := 4) (f3.new hps) (by omega) (by omega) (by omega) fun v2 hv2 μ4 f4 o4 => ?_
        obtain ⟨j, hj1, hj2⟩ := cnt4 hv2
        have e4 := (e3.new (c := .lst []) hps).out o4
        have s4 : μ4 ps = some (.lst []) := by rw [o4.at1 hsf]; exact updM_same
        have m4 : μ4 pv = some (.lst (mvs.map mvD)) := by rw [o4.at1 hvf, updM_ne hvs]; exact m3
        have mm4 := e4 _ _ hmf hm
        refine ⟨_, rfl, _, hj1, ?_⟩
        intro p5 hp5
        have n5 : pm ≠ p5 := mu_ne mm4 hp5
        have n5s : ps ≠ p5 := mu_ne s4 hp5
        have n5v : pv ≠ p5 := mu_ne m4 hp5
        refine ⟨mine.map nD, by rw [updM_ne n5, mm4]; rfl, [], rfl, okDs_int 20 mine, okDs_nil 20, _, rfl, ?_⟩
        obtain ⟨jj, hjj, hjm, hjv⟩ : ∃ jj : Nat, jj ≤ 2 ∧ (mine = [] → jj = 0) ∧ (j : Int) * (if (!beqDs (mine.map nD) []) = true then 1 else 0) = (jj : Int) := by
          cases mine with
          | nil => exact ⟨0, by omega, fun _ => rfl, by simp⟩
          | cons a r => exact ⟨j, hj2, fun h => (by cases h), by simp [beqDs]⟩
        rw [s_mulI, hjv]
        refine ⟨.inl ⟨by omega, by omega⟩, (jj : Int), rfl, ⟨by omega, by omega⟩, ?_⟩
        rw [rgD_map, Int.toNat_natCast]
        have f5 := f4.new (c := .lst []) hp5
        have e5 := e4.new (c := .lst []) hp5
        have s5 : updM μ4 p5 (.lst []) ps = some (.lst []) := by rw [updM_ne n5s]; exact s4
        have m5 : updM μ4 p5 (.lst []) pv = some (.lst (mvs.map mvD)) := by rw [updM_ne n5v]; exact m4
        have hs0 : μ ps = none := e3.none hsf hps
        refine for_map (fun b ρ μ6 => ∃ g, ∃ (se : List (Nat × Str)) (k6 : Nat), ρ = [some (.ref pf), some (.ref pm), some (.ref pv), some (nD st), some (.str ca), some (.ref ps), g, w] ∧ Fd pf pc k6 μ6 ∧ ExtF pf μ μ6 ∧ μ6 pv = some (.lst (mvs.map mvD)) ∧ μ6 ps = some (.lst (se.map seD)) ∧ k6 + 2 * b.length ≤ k2 + 6 ∧ se.length + b.length ≤ 2 ∧ (∀ x ∈ se, x.1 ∈ mine ∧ isS x.2) ∧ (b ≠ [] → mine ≠ [])) ?_ ?_
          ⟨_, [], k2 + 2, rfl, f5, e5, m5, s5, by simp; omega, by simpa using hjj, by simp, fun hb he => hb (by rw [hjm he]; rfl)⟩
        · rintro i b ρ μ6 N6 ⟨g, se, k6, rfl, f6, e6, m6, s6, hk6, hse, ose, hne⟩ hN6
          have hmne := hne (by simp)
          rw [List.length_cons] at hk6 hse
          have mm6 := e6 _ _ hmf hm
          have hml : 0 < mine.length := List.length_pos_iff.mpr hmne
          simp [-Bool.exists_bool, -Prod.exists, s6, mm6]
          refine u__law_draw f6 (by omega) hml (by omega) fun v3 hv3 μ7 f7 o7 => ?_
          have mm7 : μ7 pm = some (.lst (mine.map nD)) := by rw [o7.at1 hmf]; exact mm6
          have ev3 := List.getElem?_eq_getElem hv3
          have mv3 := List.getElem_mem hv3
          generalize mine[v3] = road at ev3 mv3
          simp [-Bool.exists_bool, -Prod.exists, mm7, ev3]
          refine u__law_draw (n := 3) f7 (by omega) (by omega) (by omega) fun v4 hv4 μ8 f8 o8 => ?_
          obtain ⟨c, hc1, hc2⟩ := abc_at hv4
          have s8 : μ8 ps = some (.lst (se.map seD)) := by rw [o8.at1 hsf, o7.at1 hsf]; exact s6
          have m8 : μ8 pv = some (.lst (mvs.map mvD)) := by rw [o8.at1 hvf, o7.at1 hvf]; exact m6
          simp [-Bool.exists_bool, -Prod.exists, s8]
          refine ⟨abc_len, c, hc1, by omega, ?_⟩
          refine hN6 _ _ trivial ⟨_, se ++ [(road, ⟨#[c]⟩)], k6 + 2, rfl, f8.upd hsf hsc, ((e6.out o7).out o8).put hs0, by rw [updM_ne hvs]; exact m8, by rw [updM_same, List.map_append]; rfl, by omega, by rw [List.length_append, List.length_singleton]; omega, ?_, fun _ => hmne⟩
          intro x hx
          rcases List.mem_append.mp hx with hx | hx
          · exact ose x hx
          · simp at hx; subst hx; exact ⟨mv3, hc2⟩
        · rintro ρ μ6 ⟨g, se, k6, rfl, f6, e6, m6, s6, hk6, hse, ose, hne⟩
          rw [List.length_nil] at hk6 hse
          simp [-Bool.exists_bool, -Prod.exists]
          refine u__law_draw (n := 4) f6 (by omega) (by omega) (by omega) fun v3 hv3 μ7 f7 o7 => ?_
          obtain ⟨wd, hwd⟩ := wd4 hv3
          have m7 : μ7 pv = some (.lst (mvs.map mvD)) := by rw [o7.at1 hvf]; exact m6
          simp [-Bool.exists_bool, -Prod.exists, hwd, m7]
          refine u__law_draw (n := 3) f7 (by omega) (by omega) (by omega) fun v4 hv4 μ8 f8 o8 => ?_
          have s8 : μ8 ps = some (.lst (se.map seD)) := by rw [o8.at1 hsf, o7.at1 hsf]; exact s6
          have m8 : μ8 pv = some (.lst (mvs.map mvD)) := by rw [o8.at1 hvf]; exact m7
          simp [-Bool.exists_bool, -Prod.exists, s8, m8]
          refine ⟨by omega, ?_⟩
          refine hN2 _ _ trivial ⟨_, _, _, _, mvs ++ [⟨st, ca, v4, se, wd⟩], k6 + 2, rfl, f8.upd hvf hvc, ((e6.out o7).out o8).put hpv, by rw [updM_same, List.map_append]; rfl, ?_, by omega, by rw [List.length_append, List.length_singleton]; omega, hca2⟩
          intro x hx
          rcases List.mem_append.mp hx with hx | hx
          · exact ok2 x hx
          · simp at hx; subst hx; exact ⟨hca1, by show se.length ≤ 2; omega, ose⟩
      · simp [-Bool.exists_bool, -Prod.exists, h0]
        exact hN2 _ _ trivial ⟨_, _, _, _, mvs, k2 + 1, rfl, f3, e3, m3, ok2, by omega, by omega, hca2⟩
    · rintro ρ μ2 ⟨y, z, u, w, mvs, k2, rfl, f2, e2, m2, ok2, hk2, hmn2, hca⟩
      exact hN _ _ trivial ⟨_, _, _, _, _, mvs, k2, rfl, f2, e2, m2, ok2, by simp at hk2; omega, by simp at hmn2; omega⟩
  · rintro ρ μ' ⟨x, y, z, u, w, mvs, k', rfl, f1, e1, m1, ok, hk', hmn⟩
    rw [List.length_nil] at hk' hmn
    simp [-Bool.exists_bool, -Prod.exists]
    refine u__law_draw (n := 3) f1 (by omega) (by omega) (by omega) fun v3 hv3 μ7 f7 o7 => ?_
    have m7 : μ7 pv = some (.lst (mvs.map mvD)) := by rw [o7.at1 hvf]; exact m1
    simp [-Bool.exists_bool, -Prod.exists, m7]
    exact (f7.mono (j := k + 200) (by omega)).back hF (e1.out o7) fun μ'' g1 g2 => q (v3, mvs) μ'' ok g1 g2
end Cs

/-! ## LwC -/
namespace Cs
open PySem PySem.Spec PyProof.Rows L2 Dl
def mineOf (roads : List Rt) (m : Nat) : List Nat := (List.range roads.length).filter fun i => (roads[i]?.getD ⟨0, 0, ""⟩).one == m
structure OkForm (f : Fm) : Prop where
  n1 : 1 ≤ f.rules.length
  n4 : f.rules.length ≤ 4
  r8 : f.roads.length ≤ 8
  rd : ∀ t ∈ f.roads, t.one < f.rules.length ∧ t.other < f.rules.length
  rl : ∀ m r, f.rules[m]? = some r → OkRule (mineOf f.roads m) r
def G__law_form : DRs := fun ds μ Q => ∃ (pf pc : Addr) (k : Nat), ds = [.ref pf] ∧ Fd pf pc k μ ∧ k < 10000000 ∧ ∀ f μ', OkForm f → Fd pf pc (k + 3000) μ' → OutR [pf] μ μ' → Q (fmD f) μ'
theorem u__law_form {pf pc : Addr} {k : Nat} {μ Q} (h : Fd pf pc k μ) (hk : k < 10000000) (q : ∀ f μ', OkForm f → Fd pf pc (k + 3000) μ' → OutR [pf] μ μ' → Q (fmD f) μ') : G__law_form [.ref pf] μ Q := ⟨pf, pc, k, rfl, h, hk, q⟩
theorem mc5 {v : Nat} (h : v < 5) : ∃ j : Nat, atI [D.int 2, D.int 3, D.int 3, D.int 4, D.int 1] (v : Int) = some (nD j) ∧ 1 ≤ j ∧ j ≤ 4 := by
  have : v = 0 ∨ v = 1 ∨ v = 2 ∨ v = 3 ∨ v = 4 := by omega
  rcases this with rfl | rfl | rfl | rfl | rfl
  · exact ⟨2, rfl, by omega, by omega⟩
  · exact ⟨3, rfl, by omega, by omega⟩
  · exact ⟨3, rfl, by omega, by omega⟩
  · exact ⟨4, rfl, by omega, by omega⟩
  · exact ⟨1, rfl, by omega, by omega⟩
theorem rc5 {v : Nat} (h : v < 5) : ∃ j : Nat, atI [D.int 2, D.int 4, D.int 3, D.int 6, D.int 8] (v : Int) = some (nD j) ∧ j ≤ 8 := by
  have : v = 0 ∨ v = 1 ∨ v = 2 ∨ v = 3 ∨ v = 4 := by omega
  rcases this with rfl | rfl | rfl | rfl | rfl
  · exact ⟨2, rfl, by omega⟩
  · exact ⟨4, rfl, by omega⟩
  · exact ⟨3, rfl, by omega⟩
  · exact ⟨6, rfl, by omega⟩
  · exact ⟨8, rfl, by omega⟩
theorem rh2 {v : Nat} (h : v < 2) : ∃ o : Str, atI [D.str "row", D.str "heap"] (v : Int) = some (.str o) := by
  have : v = 0 ∨ v = 1 := by omega
  rcases this with rfl | rfl
  · exact ⟨"row", rfl⟩
  · exact ⟨"heap", rfl⟩
theorem rg0 (n : Nat) : rgD 0 n = (List.range n).map nD := by
  rw [rgD_map]
  exact List.map_congr_left fun i _ => by simp
theorem d__law_form (ds μ Q) (h : G__law_form ds μ Q) : Body (t__law_form G__law_draw G__law_rule) 9 ds μ Q := by
  obtain ⟨pf, pc, k, rfl, hF, hk, q⟩ := h
  have hz : 200000 ≤ sizeLine := by decide
  simp [-Bool.exists_bool, -Prod.exists, Body, t__law_form]
  refine u__law_draw (n := 5) hF (by omega) (by omega) (by omega) fun v hv μ1 f1 o1 => ?_
  obtain ⟨n, hn, hn1, hn4⟩ := mc5 hv
  have e1 := ExtF.refl.out o1
  refine ⟨_, rfl, _, hn, ?_⟩
  intro pr hpr
  have hrf := f1.ne1 hpr
  have hrc := f1.ne2 hpr
  have hr0 := e1.none hrf hpr
  refine u__law_draw (n := 5) (f1.new hpr) (by omega) (by omega) (by omega) fun v2 hv2 μ2 f2 o2 => ?_
  obtain ⟨c, hc, hc8⟩ := rc5 hv2
  have e2 := (e1.new (c := .lst []) hpr).out o2
  have m2 : μ2 pr = some (.lst []) := by rw [o2.at1 hrf]; exact updM_same
  refine ⟨_, rfl, _, hc, ?_⟩
  simp [-Bool.exists_bool, -Prod.exists]
  refine ⟨_, rfl, ?_⟩
  obtain ⟨cc, hcc, hcn, hcv⟩ : ∃ cc : Nat, cc ≤ 8 ∧ (n = 1 → cc = 0) ∧ (c : Int) * (if decide ((1 : Int) < (n : Int)) = true then 1 else 0) = (cc : Int) := by
    by_cases h : n = 1
    · subst h; exact ⟨0, by omega, fun _ => rfl, by simp⟩
    · refine ⟨c, hc8, fun h' => absurd h' h, ?_⟩
      rw [decide_eq_true (by omega)]; simp
  rw [s_mulI, hcv]
  refine ⟨.inl ⟨by omega, by omega⟩, (cc : Int), rfl, ⟨by omega, by omega⟩, ?_⟩
  rw [rgD_map, Int.toNat_natCast]
  refine for_map (fun b ρ μ' => ∃ x y z, ∃ (ro : List Rt) (k' : Nat), ρ = [some (.ref pf), some (nD n), some (.ref pr), x, y, z, none, none, none] ∧ Fd pf pc k' μ' ∧ ExtF pf μ μ' ∧ μ' pr = some (.lst (ro.map rtD)) ∧ k' + 5 * b.length ≤ k + 100 ∧ ro.length + b.length ≤ 8 ∧ (∀ t ∈ ro, t.one < n ∧ t.other < n) ∧ (b ≠ [] → n ≠ 1)) ?_ ?_
    ⟨_, _, _, [], k + 2, rfl, f2, e2, m2, by simp; omega, by simpa using hcc, by simp, fun hb he => hb (by rw [hcn he]; rfl)⟩
  · rintro i b ρ μ3 N ⟨x, y, z, ro, k', rfl, f3, e3, m3, hk', hro, okr, hne⟩ hN
    have hn2 : n ≠ 1 := hne (by simp)
    rw [List.length_cons] at hk' hro
    simp [-Bool.exists_bool, -Prod.exists]
    refine u__law_draw f3 (by omega) (by omega) (by omega) fun one h1 μ4 f4 o4 => ?_
    simp [-Bool.exists_bool, -Prod.exists]
    rw [show ((n : Int) - 1) = ((n - 1 : Nat) : Int) by omega]
    refine u__law_draw f4 (by omega) (by omega) (by omega) fun w hw μ5 f5 o5 => ?_
    obtain ⟨oth, ho1, ho2⟩ := mod_nat (x := (one : Int) + 1 + (w : Int)) (show 0 < n by omega)
    have m5 : μ5 pr = some (.lst (ro.map rtD)) := by rw [o5.at1 hrf, o4.at1 hrf]; exact m3
    simp [-Bool.exists_bool, -Prod.exists, ho2, m5]
    refine ⟨by omega, ?_⟩
    refine u__law_draw (n := 2) f5 (by omega) (by omega) (by omega) fun w2 hw2 μ6 f6 o6 => ?_
    obtain ⟨od, hod⟩ := rh2 hw2
    have m6 : μ6 pr = some (.lst (ro.map rtD)) := by rw [o6.at1 hrf]; exact m5
    simp [-Bool.exists_bool, -Prod.exists, hod, m6]
    refine ⟨by omega, ?_⟩
    refine hN _ _ trivial ⟨_, _, _, ro ++ [⟨one, oth, od⟩], k' + 3, rfl, f6.upd hrf hrc, (((e3.out o4).out o5).out o6).put hr0, by rw [updM_same, List.map_append]; rfl, by omega, by rw [List.length_append, List.length_singleton]; omega, ?_, fun _ => hn2⟩
    intro t ht
    rcases List.mem_append.mp ht with ht | ht
    · exact okr t ht
    · simp at ht; subst ht; exact ⟨h1, ho1⟩
  · rintro ρ μ3 ⟨x, y, z, ro, k', rfl, f3, e3, m3, hk', hro, okr, hne⟩
    rw [List.length_nil] at hk' hro
    simp [-Bool.exists_bool, -Prod.exists]
    intro ps hps
    have hsf := f3.ne1 hps
    have hsc := f3.ne2 hps
    have hs0 := e3.none hsf hps
    have hrs : pr ≠ ps := mu_ne m3 hps
    refine ⟨by omega, ?_⟩
    rw [rg0]
    refine for_map (fun b ρ μ' => ∃ w, ∃ (rs : List (Nat × List Mv)) (k2 : Nat), ρ = [some (.ref pf), some (nD n), some (.ref pr), x, y, z, some (.ref ps), w, none] ∧ Fd pf pc k2 μ' ∧ ExtF pf μ μ' ∧ μ' pr = some (.lst (ro.map rtD)) ∧ μ' ps = some (.lst (rs.map rlD)) ∧ k2 + 210 * b.length ≤ k + 2000 ∧ b = (List.range n).drop rs.length ∧ rs.length + b.length = n ∧ (∀ m r, rs[m]? = some r → OkRule (mineOf ro m) r)) ?_ ?_
      ⟨_, [], k', rfl, f3.new hps, e3.new hps, by rw [updM_ne hrs]; exact m3, updM_same, by rw [List.length_range]; omega, rfl, by simp, by simp⟩
    · rintro m b ρ μ4 N ⟨w, rs, k2, rfl, f4, e4, m4, s4, hk2, hb, hbl, okr2⟩ hN
      rw [List.length_cons] at hk2 hbl
      have hlt : rs.length < (List.range n).length := by rw [List.length_range]; omega
      rw [List.drop_eq_getElem_cons hlt] at hb
      obtain ⟨hm, hb'⟩ := List.cons.inj hb
      rw [List.getElem_range] at hm
      subst hm
      simp [-Bool.exists_bool, -Prod.exists, s4, m4]
      refine ⟨by omega, ?_⟩
      rw [rg0]
      refine lc_map (fun i => (ro[i]?.getD ⟨0, 0, ""⟩).one == rs.length) nD trivial (fun i hi Y N2 hy hn => ?_) (by rw [List.length_range]; omega) ?_
      · have hi := List.mem_range.mp hi
        have e := List.getElem?_eq_getElem hi
        generalize ro[i] = t at e
        rw [e, Option.getD_some] at hy hn
        simp [-Bool.exists_bool, -Prod.exists, m4, e, rtD]
        by_cases h : t.one = rs.length
        · simp [h]; exact hy (by simp [h])
        · simp [h]; exact hn (by simp [h])
      · intro pm hpm
        have hmf := f4.ne1 hpm
        have hmine : (List.range ro.length).filter (fun i => (ro[i]?.getD ⟨0, 0, ""⟩).one == rs.length) = mineOf ro rs.length := rfl
        rw [hmine]
        refine u__law_rule (f4.new hpm) (by omega) updM_same hmf ?_ fun rule μ5 okrule f5 o5 => ?_
        · have := List.length_filter_le (fun i => (ro[i]?.getD ⟨0, 0, ""⟩).one == rs.length) (List.range ro.length)
          rw [List.length_range] at this
          show (List.filter _ _).length ≤ 100
          omega
        · have n1 : pr ≠ pm := mu_ne m4 hpm
          have n2 : ps ≠ pm := mu_ne s4 hpm
          have m5 : μ5 pr = some (.lst (ro.map rtD)) := by rw [o5.at1 hrf, updM_ne n1]; exact m4
          have s5 : μ5 ps = some (.lst (rs.map rlD)) := by rw [o5.at1 hsf, updM_ne n2]; exact s4
          refine ⟨_, s5, by rw [List.length_map]; omega, ?_⟩
          refine hN _ _ trivial ⟨_, rs ++ [rule], k2 + 200, rfl, f5.upd hsf hsc, ((e4.new (c := .lst ((mineOf ro rs.length).map nD)) hpm).out o5).put hs0, by rw [updM_ne hrs]; exact m5, by rw [updM_same, List.map_append]; rfl, by omega, by rw [List.length_append, List.length_singleton]; exact hb', by rw [List.length_append, List.length_singleton]; omega, fun m r hmr => ?_⟩
          rcases Nat.lt_or_ge m rs.length with h | h
          · rw [List.getElem?_append_left h] at hmr
            exact okr2 m r hmr
          · rw [List.getElem?_append_right h] at hmr
            have h0 : m - rs.length = 0 := by
              have := (List.getElem?_eq_some_iff.mp hmr).1
              simp at this; omega
            rw [h0] at hmr
            simp at hmr
            subst hmr
            rw [show m = rs.length by omega]
            exact okrule
    · rintro ρ μ4 ⟨w, rs, k2, rfl, f4, e4, m4, s4, hk2, hb, hbl, okr2⟩
      rw [List.length_nil] at hk2 hbl
      simp [-Bool.exists_bool, -Prod.exists, s4, m4]
      have hlen : rs.length = n := by omega
      exact (f4.mono (j := k + 3000) (by omega)).back hF e4 fun μ'' g1 g2 => q ⟨rs, ro⟩ μ'' ⟨by show 1 ≤ rs.length; omega, by show rs.length ≤ 4; omega, by show ro.length ≤ 8; omega, by show ∀ t ∈ ro, t.one < rs.length ∧ t.other < rs.length; rw [hlen]; exact okr, okr2⟩ g1 g2
end Cs

/-! ## LwD -/
namespace Cs
open PySem PySem.Spec PyProof.Rows L2 Dl
structure OkLd (l : Ld) : Prop where
  n : l.2.length ≤ 3
  big : l.1 ≤ 1000000
  inc : (l.2.map (·.1)).Pairwise (· < ·)
  lt : ∀ x ∈ l.2, x.1 < l.1 ∧ isS x.2
structure OkBase (f : Fm) (b : Sd) : Prop where
  st : b.st.length = f.rules.length
  ld : b.ld.length = f.roads.length
  ok : ∀ l ∈ b.ld, OkLd l
def G__law_base : DRs := fun ds μ Q => ∃ (pf pc : Addr) (k : Nat) (f : Fm), ds = [.ref pf, fmD f] ∧ Fd pf pc k μ ∧ k < 10000000 ∧ f.rules.length ≤ 4 ∧ f.roads.length ≤ 8 ∧ ∀ b μ', OkBase f b → Fd pf pc (k + 200) μ' → OutR [pf] μ μ' → Q (sdD b) μ'
theorem u__law_base {pf pc : Addr} {k : Nat} {f : Fm} {μ Q} (h : Fd pf pc k μ) (hk : k < 10000000) (h4 : f.rules.length ≤ 4) (h8 : f.roads.length ≤ 8) (q : ∀ b μ', OkBase f b → Fd pf pc (k + 200) μ' → OutR [pf] μ μ' → Q (sdD b) μ') : G__law_base [.ref pf, fmD f] μ Q := ⟨pf, pc, k, f, rfl, h, hk, h4, h8, q⟩
theorem sb5 {v : Nat} (h : v < 5) : ∃ j : Nat, atI [D.int 0, D.int 0, D.int 2, D.int 5, D.int (10 ^ (6 : Int).toNat)] (v : Int) = some (nD j) ∧ j ≤ 1000000 := by
  have : v = 0 ∨ v = 1 ∨ v = 2 ∨ v = 3 ∨ v = 4 := by omega
  rcases this with rfl | rfl | rfl | rfl | rfl
  · exact ⟨0, rfl, by omega⟩
  · exact ⟨0, rfl, by omega⟩
  · exact ⟨2, rfl, by omega⟩
  · exact ⟨5, rfl, by omega⟩
  · exact ⟨1000000, rfl, by omega⟩
theorem rg_nat (s d : Nat) (h : d ≤ s) : rgD ((s : Int) - (d : Int)) ((s : Int) - ((s : Int) - (d : Int))).toNat = ((List.range d).map (fun i => s - d + i)).map nD := by
  rw [rgD_map, show ((s : Int) - ((s : Int) - (d : Int))).toNat = d by omega, List.map_map]
  refine List.map_congr_left fun i hi => ?_
  show D.int _ = D.int _
  congr 1
  show (s : Int) - (d : Int) + (i : Int) = ((s - d + i : Nat) : Int)
  omega
theorem rg_inc (s d : Nat) : ((List.range d).map (fun i => s - d + i)).Pairwise (· < ·) := by
  rw [List.pairwise_map]
  exact List.pairwise_lt_range.imp fun h => by omega
theorem d__law_base (ds μ Q) (h : G__law_base ds μ Q) : Body (t__law_base G__law_draw) 8 ds μ Q := by
  obtain ⟨pf, pc, k, f, rfl, hF, hk, h4, h8, q⟩ := h
  have hz : 200000 ≤ sizeLine := by decide
  simp [-Bool.exists_bool, -Prod.exists, Body, t__law_base]
  intro pr hpr
  have hrf := hF.ne1 hpr
  have hrc := hF.ne2 hpr
  simp [-Bool.exists_bool, -Prod.exists, fmD]
  refine for_map (fun b ρ μ' => ∃ x y z u, ∃ (ld : List Ld) (k' : Nat), ρ = [some (.ref pf), some (fmD f), some (.ref pr), x, y, z, u, none] ∧ Fd pf pc k' μ' ∧ ExtF pf μ μ' ∧ μ' pr = some (.lst (ld.map ldD)) ∧ k' + 10 * b.length ≤ k + 100 ∧ ld.length + b.length = f.roads.length ∧ (∀ l ∈ ld, OkLd l)) ?_ ?_
    ⟨_, _, _, _, [], k, rfl, hF.new hpr, ExtF.refl.new hpr, updM_same, by omega, by simp, by simp⟩
  · rintro t b ρ μ1 N ⟨x, y, z, u, ld, k', rfl, f1, e1, m1, hk', hlen, okl⟩ hN
    rw [List.length_cons] at hk' hlen
    simp [-Bool.exists_bool, -Prod.exists, rtD]
    refine ⟨⟨by decide, by decide, by decide⟩, ?_⟩
    refine u__law_draw (n := 5) f1 (by omega) (by omega) (by omega) fun v hv μ2 f2 o2 => ?_
    obtain ⟨s, hs, hs1⟩ := sb5 hv
    refine ⟨_, rfl, _, hs, ?_⟩
    simp [-Bool.exists_bool, -Prod.exists]
    have tail : ∀ (nums : List Nat) (μ5 : Mu) (p5 : Addr) (kk : Nat), Fd pf pc kk μ5 → kk ≤ k' + 6 → ExtF pf μ μ5 → μ5 pr = some (.lst (ld.map ldD)) → μ5 p5 = some (.lst (nums.map nD)) → p5 ≠ pf → nums.length ≤ 3 → nums.Pairwise (· < ·) → (∀ n ∈ nums, n < s) →
        lcLoop (fun μ => μ p5 = some (.lst (nums.map nD))) (aName 6) aYes (aTup (aCons (aVar 6) (aCons (aOp rIxD (aC (.str "abc")) (aCall G__law_draw (aCons (aVar 0) (aCons (aC (.int 3)) aNil)))) aNil)))
          [some (.ref pf), some (fmD f), some (.ref pr), some (rtD t), some (nD s), some (.ref p5), none, none] (nums.map nD) [] μ5 fun ds μ1 => ∃ d1, μ1 pr = some (.lst d1) ∧ d1.length < sizeLine ∧ N [some (.ref pf), some (fmD f), some (.ref pr), some (rtD t), some (nD s), some (.ref p5), u, none] (updM μ1 pr (.lst (d1 ++ [.tup [nD s, .tup ds]]))) := by
      intro nums μ5 p5 kk f5 hkk e5 m5 s5 h5f hn3 hinc hlt
      refine lc_gen (fun r acc μ6 => ∃ (dn : List (Nat × Str)) (k6 : Nat), acc = dn.map seD ∧ Fd pf pc k6 μ6 ∧ ExtF pf μ μ6 ∧ μ6 pr = some (.lst (ld.map ldD)) ∧ μ6 p5 = some (.lst (nums.map nD)) ∧ dn.map (·.1) ++ r = nums ∧ (∀ x ∈ dn, isS x.2) ∧ k6 + r.length ≤ k' + 9) ?_ ?_ ⟨[], kk, rfl, f5, e5, m5, s5, rfl, by simp, by omega⟩
      · rintro n r acc μ6 Y N2 ⟨dn, k6, rfl, f6, e6, m6, s6, hd, hs, hk6⟩ hY _
        rw [List.length_cons] at hk6
        have hdl : dn.length ≤ 3 := by have := congrArg List.length hd; rw [List.length_append, List.length_map] at this; omega
        simp [-Bool.exists_bool, -Prod.exists]
        refine u__law_draw (n := 3) f6 (by omega) (by omega) (by omega) fun v hv μ7 f7 o7 => ?_
        obtain ⟨c, hc1, hc2⟩ := abc_at hv
        simp [-Bool.exists_bool, -Prod.exists]
        refine ⟨abc_len, c, hc1, ?_⟩
        have s7 : μ7 p5 = some (.lst (nums.map nD)) := by rw [o7.at1 h5f]; exact s6
        refine hY _ _ ⟨dn ++ [(n, ⟨#[c]⟩)], k6 + 1, by rw [List.map_append]; rfl, f7, e6.out o7, by rw [o7.at1 hrf]; exact m6, s7, by rw [← hd]; simp, ?_, by omega⟩ (by rw [List.length_map]; omega) s7
        intro x hx
        rcases List.mem_append.mp hx with hx | hx
        · exact hs x hx
        · simp at hx; subst hx; exact hc2
      · rintro acc μ6 ⟨dn, k6, rfl, f6, e6, m6, s6, hd, hs, hk6⟩
        rw [List.append_nil] at hd
        rw [List.length_nil] at hk6
        refine ⟨_, m6, by rw [List.length_map]; omega, ?_⟩
        refine hN _ _ trivial ⟨_, _, _, _, ld ++ [(s, dn)], k6, rfl, f6.upd hrf hrc, e6.put hpr, by rw [updM_same, List.map_append]; rfl, by omega, by rw [List.length_append, List.length_singleton]; omega, ?_⟩
        intro l hl
        rcases List.mem_append.mp hl with hl | hl
        · exact okl l hl
        · simp at hl
          subst hl
          refine ⟨?_, hs1, ?_, fun x hx => ⟨hlt x.1 (by rw [← hd]; exact List.mem_map.mpr ⟨x, hx, rfl⟩), hs x hx⟩⟩
          · have := congrArg List.length hd
            rw [List.length_map] at this
            show dn.length ≤ 3
            omega
          · show (dn.map (·.1)).Pairwise (· < ·)
            rw [hd]; exact hinc
    obtain ⟨m, hm3, hms, hmv⟩ : ∃ m : Nat, m ≤ 3 ∧ m ≤ s ∧ (if (3 : Int) < (s : Int) then (3 : Int) else (s : Int)) = (m : Int) := by
      by_cases h : 3 < s
      · exact ⟨3, by omega, by omega, by rw [if_pos (by omega)]; rfl⟩
      · exact ⟨s, by omega, by omega, by rw [if_neg (by omega)]⟩
    have m2 : μ2 pr = some (.lst (ld.map ldD)) := by rw [o2.at1 hrf]; exact m1
    refine ⟨_, _, rfl, ?_⟩
    rw [hmv]
    try dsimp only
    rw [s_addI, show ((m : Int) + 1) = ((m + 1 : Nat) : Int) by omega]
    refine u__law_draw f2 (by omega) (by omega) (by omega) fun d hd μ3 f3 o3 => ?_
    have m3 : μ3 pr = some (.lst (ld.map ldD)) := by rw [o3.at1 hrf]; exact m2
    have e3 := (e1.out o2).out o3
    refine ⟨_, _, rfl, rfl, trivial, ?_⟩
    refine ⟨_, rfl, ⟨by omega, by omega, by omega, by omega, by omega⟩, fun p hp => ?_⟩
    rw [rg_nat s d (by omega)]
    have hpf := f3.ne1 hp
    have hrp : pr ≠ p := mu_ne m3 hp
    have f4 := f3.new (c := .lst (((List.range d).map (fun i => s - d + i)).map nD)) hp
    have e4 := e3.new (c := .lst (((List.range d).map (fun i => s - d + i)).map nD)) hp
    have m4 : updM μ3 p (.lst (((List.range d).map (fun i => s - d + i)).map nD)) pr = some (.lst (ld.map ldD)) := by rw [updM_ne hrp]; exact m3
    have hall : ∀ n ∈ (List.range d).map (fun i => s - d + i), n < s := by
      intro n hn
      obtain ⟨i, hi, rfl⟩ := List.mem_map.mp hn
      have := List.mem_range.mp hi
      omega
    have hinc := rg_inc s d
    have hlen3 : ((List.range d).map (fun i => s - d + i)).length ≤ 3 := by rw [List.length_map, List.length_range]; omega
    generalize (List.range d).map (fun i => s - d + i) = nums at *
    by_cases hh : t.ord = "heap"
    · rw [if_pos hh]
      refine lc_gen (fun r acc μ6 => ∃ (dn : List Nat) (k6 : Nat), acc = dn.map nD ∧ Fd pf pc k6 μ6 ∧ ExtF pf μ μ6 ∧ μ6 pr = some (.lst (ld.map ldD)) ∧ μ6 p = some (.lst (nums.map nD)) ∧ (dn ++ r).Sublist nums ∧ k6 + r.length ≤ k' + 5) ?_ ?_ ⟨[], k' + 2, rfl, f4, e4, m4, updM_same, List.Sublist.refl _, by omega⟩
      · rintro n r acc μ6 Y N2 ⟨dn, k6, rfl, f6, e6, m6, s6, hd, hk6⟩ hY hN2
        rw [List.length_cons] at hk6
        have hdl : dn.length ≤ 3 := by have := hd.length_le; rw [List.length_append] at this; omega
        simp [-Bool.exists_bool, -Prod.exists]
        refine u__law_draw (n := 2) f6 (by omega) (by omega) (by omega) fun v hv μ7 f7 o7 => ?_
        have s7 : μ7 p = some (.lst (nums.map nD)) := by rw [o7.at1 hpf]; exact s6
        have m7 : μ7 pr = some (.lst (ld.map ldD)) := by rw [o7.at1 hrf]; exact m6
        by_cases hv0 : v = 0
        · subst hv0
          simp [-Bool.exists_bool, -Prod.exists]
          exact hY _ _ ⟨dn ++ [n], k6 + 1, by rw [List.map_append]; rfl, f7, e6.out o7, m7, s7, by simpa using hd, by omega⟩ (by rw [List.length_map]; omega) s7
        · simp [-Bool.exists_bool, -Prod.exists, hv0]
          exact hN2 _ ⟨dn, k6 + 1, rfl, f7, e6.out o7, m7, s7, (List.Sublist.append (List.Sublist.refl dn) (List.sublist_cons_self n r)).trans hd, by omega⟩ s7
      · rintro acc μ6 ⟨dn, k6, rfl, f6, e6, m6, s6, hd, hk6⟩
        rw [List.append_nil] at hd
        intro p7 hp7
        have h7f := f6.ne1 hp7
        have hr7 : pr ≠ p7 := mu_ne m6 hp7
        refine ⟨⟨_, by rw [updM_ne hr7]; exact m6⟩, ?_⟩
        exact tail dn _ p7 k6 (f6.new hp7) (by omega) (e6.new hp7) (by rw [updM_ne hr7]; exact m6) updM_same h7f (by have := hd.length_le; omega) (hinc.sublist hd) (fun n hn => hall n (hd.subset hn))
    · rw [if_neg hh]
      refine ⟨⟨_, m4⟩, ?_⟩
      exact tail nums _ p (k' + 2) f4 (by omega) e4 m4 updM_same hpf hlen3 hinc hall
  · rintro ρ μ1 ⟨x, y, z, u, ld, k', rfl, f1, e1, m1, hk', hlen, okl⟩
    rw [List.length_nil] at hk' hlen
    simp [-Bool.exists_bool, -Prod.exists, fmD]
    refine lc_gen (l := f.rules) (e := rlD) (fun r acc μ6 => ∃ (dn : List Nat) (k6 : Nat), acc = dn.map nD ∧ Fd pf pc k6 μ6 ∧ ExtF pf μ μ6 ∧ μ6 pr = some (.lst (ld.map ldD)) ∧ dn.length + r.length = f.rules.length ∧ k6 + r.length ≤ k + 150) ?_ ?_ ⟨[], k', rfl, f1, e1, m1, by simp, by omega⟩
    · rintro n r acc μ6 Y N2 ⟨dn, k6, rfl, f6, e6, m6, hd, hk6⟩ hY hN2
      rw [List.length_cons] at hk6 hd
      simp [-Bool.exists_bool, -Prod.exists]
      refine u__law_draw (n := 3) f6 (by omega) (by omega) (by omega) fun v hv μ7 f7 o7 => ?_
      have m7 : μ7 pr = some (.lst (ld.map ldD)) := by rw [o7.at1 hrf]; exact m6
      exact hY _ _ ⟨dn ++ [v], k6 + 1, by rw [List.map_append]; rfl, f7, e6.out o7, m7, by rw [List.length_append, List.length_singleton]; omega, by omega⟩ (by rw [List.length_map]; omega) trivial
    · rintro acc μ6 ⟨dn, k6, rfl, f6, e6, m6, hd, hk6⟩
      rw [List.length_nil] at hd hk6
      refine ⟨_, m6, ?_⟩
      exact (f6.mono (j := k + 200) (by omega)).back hF e6 fun μ'' g1 g2 => q ⟨dn, ld⟩ μ'' ⟨by show dn.length = _; omega, by show ld.length = _; omega, okl⟩ g1 g2
end Cs

/-! ## LwE -/
namespace Cs
open PySem PySem.Spec PyProof.Rows L2 Dl
/-! ### the world -/
structure WA where
  w : Addr
  d : Addr
  e : Addr
  t : Addr
  s : Addr
  n : Addr
  q : Addr
  qs : List Addr
def WA.core (A : WA) : List Addr := [A.w, A.d, A.e, A.t, A.s, A.n, A.q] ++ A.qs
def wkvs (f : Fm) (b : Sd) (A : WA) : List (Key × D) := [(Sum.inr "form", fmD f), (Sum.inr "base", sdD b), (Sum.inr "deeds", .ref A.d), (Sum.inr "ends", .ref A.e), (Sum.inr "trips", .ref A.t), (Sum.inr "states", .ref A.s), (Sum.inr "sent", .ref A.n), (Sum.inr "waiting", .ref A.q)]
section
variable {f : Fm} {b : Sd} {A : WA}
theorem v_form : valD (wkvs f b A) (Sum.inr "form") = some (fmD f) := rfl
theorem v_base : valD (wkvs f b A) (Sum.inr "base") = some (sdD b) := rfl
theorem v_deeds : valD (wkvs f b A) (Sum.inr "deeds") = some (.ref A.d) := rfl
theorem v_ends : valD (wkvs f b A) (Sum.inr "ends") = some (.ref A.e) := rfl
theorem v_trips : valD (wkvs f b A) (Sum.inr "trips") = some (.ref A.t) := rfl
theorem v_states : valD (wkvs f b A) (Sum.inr "states") = some (.ref A.s) := rfl
theorem v_sent : valD (wkvs f b A) (Sum.inr "sent") = some (.ref A.n) := rfl
theorem v_waiting : valD (wkvs f b A) (Sum.inr "waiting") = some (.ref A.q) := rfl
end
structure TrIs (Pr : Addr → Prop) (μ : Mu) (A : WA) (tk : List (List Key × D)) (s : Sd) : Prop where
  v : ∀ kv ∈ tk, ∃ x l4, kv.2 = .ref x ∧ μ x = some (.lst l4) ∧ l4.length = 4 ∧ x ∉ A.core ∧ ¬ Pr x
  k : ∀ (i : Nat) (l : Ld), s.ld[i]? = some l → ∀ y ∈ l.2, lk (i, y.1) ∈ tk.map (·.1)
structure WIs (Pr : Addr → Prop) (μ : Mu) (f : Fm) (b : Sd) (A : WA) (ds : List Dd) (s : Sd) (en : List Nat) (tb : Nat) : Prop where
  aw : μ A.w = some (.dK (wkvs f b A))
  ad : μ A.d = some (.lst (ds.map ddD))
  ae : μ A.e = some (.lst (en.map nD))
  as_ : μ A.s = some (.lst (s.st.map nD))
  an : μ A.n = some (.lst (s.ld.map fun l => nD l.1))
  aq : μ A.q = some (.lst (A.qs.map D.ref))
  ql : A.qs.length = s.ld.length
  qa : ∀ (i : Nat) (a : Addr) (l : Ld), A.qs[i]? = some a → s.ld[i]? = some l → μ a = some (.lst (l.2.map seD))
  nd : A.core.Nodup
  t : ∃ tk, μ A.t = some (.dT tk) ∧ TrIs Pr μ A tk s ∧ tk.length ≤ tb
  pr : ∀ a, Pr a → a ∉ A.core
  al : ∀ a, Pr a → μ a ≠ none
theorem al_upd {Pr : Addr → Prop} {μ : Mu} {p : Addr} {c : C} (h : ∀ a, Pr a → μ a ≠ none) : ∀ a, Pr a → updM μ p c a ≠ none := fun a ha => by
  by_cases e : a = p
  · subst e; rw [updM_same]; simp
  · rw [updM_ne e]; exact h a ha
/-! ### _law_move -/
def mvL : List Mv → Nat → Str → Option Ans
  | [], _, _ => none
  | v :: l, st, ca => if v.st = st ∧ v.ca = ca then some (v.af, v.se, v.wd) else mvL l st ca
theorem ansL_mv (l : List Mv) (st : Nat) (ca : Str) : ansL l st ca = match mvL l st ca with | some a => some a | none => if ca = "own" then none else some (st, [], none) := by
  induction l with
  | nil => rfl
  | cons v r ih =>
    simp only [ansL, mvL]
    split
    · rfl
    · exact ih
def G__law_move : DRs := fun ds μ Q => ∃ (Pr : Addr → Prop) (f : Fm) (b : Sd) (A : WA) (dds : List Dd) (s : Sd) (en : List Nat) (tb : Nat) (m : Nat) (ca : Str) (r : Nat × List Mv) (st : Nat), ds = [.ref A.w, nD m, .str ca] ∧ WIs Pr μ f b A dds s en tb ∧ f.rules[m]? = some r ∧ s.st[m]? = some st ∧ Q (oaD (mvL r.2 st ca)) μ
theorem u__law_move {Pr : Addr → Prop} {f : Fm} {b : Sd} {A : WA} {dds : List Dd} {s : Sd} {en : List Nat} {tb : Nat} {m : Nat} {ca : Str} {r : Nat × List Mv} {st : Nat} {μ Q} (h : WIs Pr μ f b A dds s en tb) (hr : f.rules[m]? = some r) (hs : s.st[m]? = some st) (q : Q (oaD (mvL r.2 st ca)) μ) : G__law_move [.ref A.w, nD m, .str ca] μ Q := ⟨Pr, f, b, A, dds, s, en, tb, m, ca, r, st, rfl, h, hr, hs, q⟩
theorem d__law_move (ds μ Q) (h : G__law_move ds μ Q) : Body t__law_move 8 ds μ Q := by
  obtain ⟨Pr, f, b, A, dds, s, en, tb, m, ca, r, st, rfl, W, hr, hs, q⟩ := h
  have q := Fg.same q
  have hw := W.aw
  have hss := W.as_
  simp [-Bool.exists_bool, -Prod.exists, Body, t__law_move, hw, v_form]
  simp [-Bool.exists_bool, -Prod.exists, fmD, hr, rlD]
  refine for_map (fun l ρ μ' => (∃ x y z u w, ρ = [some (.ref A.w), some (nD m), some (.str ca), x, y, z, u, w]) ∧ μ' = μ ∧ mvL l st ca = mvL r.2 st ca) ?_ ?_ ⟨⟨_, _, _, _, _, rfl⟩, rfl, rfl⟩
  · rintro v l ρ μ' N ⟨⟨x, y, z, u, w, rfl⟩, rfl, e⟩ hN
    rw [← e] at q
    simp [-Bool.exists_bool, -Prod.exists, mvD, hw, v_states, hss, hs]
    by_cases h : v.st = st ∧ v.ca = ca
    · simp only [mvL, h, and_self, if_true] at q
      simp [-Bool.exists_bool, -Prod.exists, h]
      exact q
    · simp only [mvL, h, if_false] at e
      by_cases h1 : v.st = st
      · have h2 : v.ca ≠ ca := fun z => h ⟨h1, z⟩
        simp [-Bool.exists_bool, -Prod.exists, h1, h2]
        exact hN _ _ trivial ⟨⟨_, _, _, _, _, rfl⟩, rfl, e⟩
      · simp [-Bool.exists_bool, -Prod.exists, h1]
        exact hN _ _ trivial ⟨⟨_, _, _, _, _, rfl⟩, rfl, e⟩
  · rintro ρ μ' ⟨⟨x, y, z, u, w, rfl⟩, rfl, e⟩
    rw [← e] at q
    simp
    exact q
/-! ### _law_machine -/
def G__law_machine : DRs := fun ds μ Q => ∃ (Pr : Addr → Prop) (f : Fm) (b : Sd) (A : WA) (dds : List Dd) (s : Sd) (en : List Nat) (tb : Nat) (d : Dd), ds = [.ref A.w, ddD d] ∧ WIs Pr μ f b A dds s en tb ∧ okDd f d ∧ Q (nD (ofDd f d)) μ
theorem u__law_machine {Pr : Addr → Prop} {f : Fm} {b : Sd} {A : WA} {dds : List Dd} {s : Sd} {en : List Nat} {tb : Nat} {d : Dd} {μ Q} (h : WIs Pr μ f b A dds s en tb) (hd : okDd f d) (q : Q (nD (ofDd f d)) μ) : G__law_machine [.ref A.w, ddD d] μ Q := ⟨Pr, f, b, A, dds, s, en, tb, d, rfl, h, hd, q⟩
theorem d__law_machine (ds μ Q) (h : G__law_machine ds μ Q) : Body t__law_machine 2 ds μ Q := by
  obtain ⟨Pr, f, b, A, dds, s, en, tb, d, rfl, W, ok, q⟩ := h
  have q := Fg.same q
  have hw := W.aw
  cases d with
  | own m => simp [Body, t__law_machine, ddD]; exact q
  | hear m c => simp [Body, t__law_machine, ddD]; exact q
  | come r n =>
    have ok : r < f.roads.length := ok
    have e := List.getElem?_eq_getElem ok
    simp only [ofDd, e] at q
    simp [Body, t__law_machine, ddD, hw, v_form]
    simp [fmD, e, rtD]; exact q
end Cs

/-! ## LwF -/
namespace Cs
open PySem PySem.Spec PyProof.Rows L2 Dl
section
variable {Pr : Addr → Prop} {μ : Mu} {f : Fm} {b : Sd} {A : WA} {ds : List Dd} {s : Sd} {en : List Nat} {tb : Nat}
structure WNe (A : WA) : Prop where
  wd : A.w ≠ A.d
  we : A.w ≠ A.e
  wt : A.w ≠ A.t
  ws : A.w ≠ A.s
  wn : A.w ≠ A.n
  wq : A.w ≠ A.q
  de : A.d ≠ A.e
  dt : A.d ≠ A.t
  ds : A.d ≠ A.s
  dn : A.d ≠ A.n
  dq : A.d ≠ A.q
  et : A.e ≠ A.t
  es : A.e ≠ A.s
  en : A.e ≠ A.n
  eq : A.e ≠ A.q
  ts : A.t ≠ A.s
  tn : A.t ≠ A.n
  tq : A.t ≠ A.q
  sn : A.s ≠ A.n
  sq : A.s ≠ A.q
  nq : A.n ≠ A.q
  qw : ∀ a ∈ A.qs, a ≠ A.w
  qd : ∀ a ∈ A.qs, a ≠ A.d
  qe : ∀ a ∈ A.qs, a ≠ A.e
  qt : ∀ a ∈ A.qs, a ≠ A.t
  qs : ∀ a ∈ A.qs, a ≠ A.s
  qn : ∀ a ∈ A.qs, a ≠ A.n
  qq : ∀ a ∈ A.qs, a ≠ A.q
  qnd : A.qs.Nodup
theorem WIs.ne (W : WIs Pr μ f b A ds s en tb) : WNe A := by
  have nd := W.nd
  simp [WA.core] at nd
  obtain ⟨⟨a1, a2, a3, a4, a5, a6, a7⟩, ⟨b1, b2, b3, b4, b5, b6⟩, ⟨c1, c2, c3, c4, c5⟩, ⟨d1, d2, d3, d4⟩, ⟨e1, e2, e3⟩, ⟨f1, f2⟩, g1, g2⟩ := nd
  exact ⟨a1, a2, a3, a4, a5, a6, b1, b2, b3, b4, b5, c1, c2, c3, c4, d1, d2, d3, e1, e2, f1, fun a h e => a7 (e ▸ h), fun a h e => b6 (e ▸ h), fun a h e => c5 (e ▸ h), fun a h e => d4 (e ▸ h), fun a h e => e3 (e ▸ h), fun a h e => f2 (e ▸ h), fun a h e => g1 (e ▸ h), g2⟩
theorem mem_core {A : WA} {x : Addr} (h : x ∉ A.core) : x ≠ A.w ∧ x ≠ A.d ∧ x ≠ A.e ∧ x ≠ A.t ∧ x ≠ A.s ∧ x ≠ A.n ∧ x ≠ A.q ∧ x ∉ A.qs := by
  simp [WA.core] at h
  exact h
theorem TrIs.upd {tk : List (List Key × D)} {p : Addr} {c : C} (h : TrIs Pr μ A tk s) (hp : p ∈ A.core) : TrIs Pr (updM μ p c) A tk s := by
  refine ⟨fun kv hkv => ?_, h.k⟩
  obtain ⟨x, l4, h1, h2, h3, h4, h5⟩ := h.v kv hkv
  exact ⟨x, l4, h1, by rw [updM_ne (fun e => h4 (by rw [e]; exact hp))]; exact h2, h3, h4, h5⟩
theorem WIs.setS (W : WIs Pr μ f b A ds s en tb) (st' : List Nat) : WIs Pr (updM μ A.s (.lst (st'.map nD))) f b A ds ⟨st', s.ld⟩ en tb := by
  have n := W.ne
  obtain ⟨tk, t1, t2, t3⟩ := W.t
  refine ⟨by rw [updM_ne n.ws]; exact W.aw, by rw [updM_ne n.ds]; exact W.ad, by rw [updM_ne n.es]; exact W.ae, updM_same, by rw [updM_ne n.sn.symm]; exact W.an, by rw [updM_ne n.sq.symm]; exact W.aq, W.ql, fun i a l h1 h2 => ?_, W.nd, ⟨tk, by rw [updM_ne n.ts]; exact t1, ⟨(t2.upd (by simp [WA.core])).v, t2.k⟩, t3⟩, W.pr, al_upd W.al⟩
  rw [updM_ne (n.qs a (List.mem_of_getElem? h1))]
  exact W.qa i a l h1 h2
theorem WIs.setE (W : WIs Pr μ f b A ds s en tb) (en' : List Nat) : WIs Pr (updM μ A.e (.lst (en'.map nD))) f b A ds s en' tb := by
  have n := W.ne
  obtain ⟨tk, t1, t2, t3⟩ := W.t
  refine ⟨by rw [updM_ne n.we]; exact W.aw, by rw [updM_ne n.de]; exact W.ad, updM_same, by rw [updM_ne n.es.symm]; exact W.as_, by rw [updM_ne n.en.symm]; exact W.an, by rw [updM_ne n.eq.symm]; exact W.aq, W.ql, fun i a l h1 h2 => ?_, W.nd, ⟨tk, by rw [updM_ne n.et.symm]; exact t1, t2.upd (by simp [WA.core]), t3⟩, W.pr, al_upd W.al⟩
  rw [updM_ne (n.qe a (List.mem_of_getElem? h1))]
  exact W.qa i a l h1 h2
theorem WIs.setDd (W : WIs Pr μ f b A ds s en tb) (ds' : List Dd) : WIs Pr (updM μ A.d (.lst (ds'.map ddD))) f b A ds' s en tb := by
  have n := W.ne
  obtain ⟨tk, t1, t2, t3⟩ := W.t
  refine ⟨by rw [updM_ne n.wd]; exact W.aw, updM_same, by rw [updM_ne n.de.symm]; exact W.ae, by rw [updM_ne n.ds.symm]; exact W.as_, by rw [updM_ne n.dn.symm]; exact W.an, by rw [updM_ne n.dq.symm]; exact W.aq, W.ql, fun i a l h1 h2 => ?_, W.nd, ⟨tk, by rw [updM_ne n.dt.symm]; exact t1, t2.upd (by simp [WA.core]), t3⟩, W.pr, al_upd W.al⟩
  rw [updM_ne (n.qd a (List.mem_of_getElem? h1))]
  exact W.qa i a l h1 h2
/-- a road's letters get fewer -/
theorem WIs.take (W : WIs Pr μ f b A ds s en tb) {r : Nat} {a : Addr} {l : Ld} {ws : List (Nat × Str)} (ha : A.qs[r]? = some a) (hl : s.ld[r]? = some l) (hs : ∀ y ∈ ws, y ∈ l.2) : WIs Pr (updM μ a (.lst (ws.map seD))) f b A ds ⟨s.st, s.ld.set r (l.1, ws)⟩ en tb := by
  have n := W.ne
  have hm := List.mem_of_getElem? ha
  obtain ⟨tk, t1, t2, t3⟩ := W.t
  have hrl := (List.getElem?_eq_some_iff.mp hl).1
  have hld : (s.ld.set r (l.1, ws)).map (fun l => nD l.1) = s.ld.map fun l => nD l.1 := by
    refine List.ext_getElem? fun i => ?_
    rw [List.getElem?_map, List.getElem?_map]
    by_cases hi : r = i
    · subst hi; rw [List.getElem?_set_self hrl, hl]; rfl
    · rw [List.getElem?_set_ne hi]
  refine ⟨by rw [updM_ne (n.qw a hm).symm]; exact W.aw, by rw [updM_ne (n.qd a hm).symm]; exact W.ad, by rw [updM_ne (n.qe a hm).symm]; exact W.ae, by rw [updM_ne (n.qs a hm).symm]; exact W.as_, by rw [updM_ne (n.qn a hm).symm, W.an, hld], by rw [updM_ne (n.qq a hm).symm]; exact W.aq, by rw [List.length_set]; exact W.ql, fun i a' l' h1 h2 => ?_, W.nd, ⟨tk, by rw [updM_ne (n.qt a hm).symm]; exact t1, ⟨(t2.upd (by simp [WA.core, hm])).v, fun i l' h1 y hy => ?_⟩, t3⟩, W.pr, al_upd W.al⟩
  · by_cases hi : r = i
    · subst hi
      rw [ha] at h1
      cases h1
      rw [List.getElem?_set_self hrl] at h2
      cases h2
      exact updM_same
    · rw [List.getElem?_set_ne hi] at h2
      rw [updM_ne (fun e => hi (nodup_at n.qnd ha (by rw [← e]; exact h1)))]
      exact W.qa i a' l' h1 h2
  · by_cases hi : r = i
    · subst hi
      rw [List.getElem?_set_self hrl] at h1
      cases h1
      exact t2.k r l hl y (hs y hy)
    · rw [List.getElem?_set_ne hi] at h1
      exact t2.k i l' h1 y hy
/-- what is new -/
theorem WIs.new (W : WIs Pr μ f b A ds s en tb) {p : Addr} {c : C} (h : μ p = none) : WIs Pr (updM μ p c) f b A ds s en tb := by
  obtain ⟨tk, t1, t2, t3⟩ := W.t
  have go : ∀ a c', μ a = some c' → updM μ p c a = some c' := ext1 h ext0
  refine ⟨go _ _ W.aw, go _ _ W.ad, go _ _ W.ae, go _ _ W.as_, go _ _ W.an, go _ _ W.aq, W.ql, fun i a l h1 h2 => go _ _ (W.qa i a l h1 h2), W.nd, ⟨tk, go _ _ t1, ⟨fun kv hkv => ?_, t2.k⟩, t3⟩, W.pr, al_upd W.al⟩
  obtain ⟨x, l4, h1, h2, h3, h4, h5⟩ := t2.v kv hkv
  exact ⟨x, l4, h1, go _ _ h2, h3, h4, h5⟩
/-- a trip's list changes -/
theorem WIs.trip (W : WIs Pr μ f b A ds s en tb) {x : Addr} {l4 : List D} (hx : x ∉ A.core) (hl : l4.length = 4) : WIs Pr (updM μ x (.lst l4)) f b A ds s en tb := by
  obtain ⟨tk, t1, t2, t3⟩ := W.t
  obtain ⟨x1, x2, x3, x4, x5, x6, x7, x8⟩ := mem_core hx
  refine ⟨by rw [updM_ne x1.symm]; exact W.aw, by rw [updM_ne x2.symm]; exact W.ad, by rw [updM_ne x3.symm]; exact W.ae, by rw [updM_ne x5.symm]; exact W.as_, by rw [updM_ne x6.symm]; exact W.an, by rw [updM_ne x7.symm]; exact W.aq, W.ql, fun i a l h1 h2 => ?_, W.nd, ⟨tk, by rw [updM_ne x4.symm]; exact t1, ⟨fun kv hkv => ?_, t2.k⟩, t3⟩, W.pr, al_upd W.al⟩
  · rw [updM_ne (fun e => x8 (by rw [← e]; exact List.mem_of_getElem? h1))]
    exact W.qa i a l h1 h2
  · obtain ⟨y, m4, h1, h2, h3, h4, h5⟩ := t2.v kv hkv
    by_cases e : y = x
    · subst e; exact ⟨y, l4, h1, updM_same, hl, h4, h5⟩
    · exact ⟨y, m4, h1, by rw [updM_ne e]; exact h2, h3, h4, h5⟩
theorem putD_keys {kvs : List (List Key × D)} {k : List Key} {v : D} {j : List Key} (h : j ∈ kvs.map (·.1) ∨ j = k) : j ∈ (putD kvs k v).map (·.1) := by
  unfold putD
  split
  · rename_i hh
    rw [List.map_map]
    have hk : k ∈ kvs.map (·.1) := by
      obtain ⟨x, hx, he⟩ := List.any_eq_true.mp hh
      exact List.mem_map.mpr ⟨x, hx, of_decide_eq_true he⟩
    have hj : j ∈ kvs.map (·.1) := by rcases h with h | rfl <;> assumption
    obtain ⟨x, hx, rfl⟩ := List.mem_map.mp hj
    refine List.mem_map.mpr ⟨x, hx, ?_⟩
    simp only [Function.comp]
    split <;> rfl
  · rw [List.map_append]
    rcases h with h | rfl
    · exact List.mem_append_left _ h
    · exact List.mem_append_right _ (by simp)
theorem putD_mem {κ : Type} [DecidableEq κ] {kvs : List (κ × D)} {k : κ} {v : D} {x : κ × D} (h : x ∈ putD kvs k v) : x.2 = v ∨ x ∈ kvs := by
  unfold putD at h
  split at h
  · obtain ⟨y, hy, rfl⟩ := List.mem_map.mp h
    split
    · exact .inl rfl
    · exact .inr hy
  · rcases List.mem_append.mp h with h | h
    · exact .inr h
    · simp at h; subst h; exact .inl rfl
theorem putD_len {κ : Type} [DecidableEq κ] (kvs : List (κ × D)) (k : κ) (v : D) : (putD kvs k v).length ≤ kvs.length + 1 := by
  unfold putD; split <;> simp
/-- a letter is sent: the counter, the letters, a new trip -/
theorem WIs.send (W : WIs Pr μ f b A ds s en tb) {r : Nat} {a px : Addr} {l : Ld} {c : Str} {l4 : List D} {tk : List (List Key × D)} {cs : List D} (ha : A.qs[r]? = some a) (hl : s.ld[r]? = some l) (h4 : l4.length = 4)
    (ht : μ A.t = some (.dT tk)) (hp : updM (updM μ A.n (.lst cs)) a (.lst ((l.2 ++ [(l.1, c)]).map seD)) px = none) (hpr : ¬ Pr px) (hcs : cs = (sendOne s.ld (r, c)).map fun l => nD l.1) :
    WIs Pr (updM (updM (updM (updM μ A.n (.lst cs)) a (.lst ((l.2 ++ [(l.1, c)]).map seD))) px (.lst l4)) A.t (.dT (putD tk (lk (r, l.1)) (.ref px)))) f b A ds ⟨s.st, sendOne s.ld (r, c)⟩ en (tb + 1) := by
  have n := W.ne
  have hm := List.mem_of_getElem? ha
  obtain ⟨tk', t1, t2, t3⟩ := W.t
  rw [ht] at t1
  cases t1
  have hrl := (List.getElem?_eq_some_iff.mp hl).1
  have hso : sendOne s.ld (r, c) = s.ld.set r (l.1 + 1, l.2 ++ [(l.1, c)]) := by unfold sendOne; rw [show s.ld[(r, c).1]? = _ from hl]
  have hpa : px ≠ a := fun e => by subst e; simp at hp
  have hpn : px ≠ A.n := fun e => by subst e; rw [updM_ne (n.qn a hm).symm] at hp; simp at hp
  have hp0 : μ px = none := by rw [updM_ne hpa, updM_ne hpn] at hp; exact hp
  have hpx : ∀ {y c'}, μ y = some c' → y ≠ px := fun h => mu_ne h hp0
  have hxc : px ∉ A.core := by
    intro h
    simp [WA.core] at h
    rcases h with h | h | h | h | h | h | h | h
    · rw [h, W.aw] at hp0; cases hp0
    · rw [h, W.ad] at hp0; cases hp0
    · rw [h, W.ae] at hp0; cases hp0
    · rw [h, ht] at hp0; cases hp0
    · rw [h, W.as_] at hp0; cases hp0
    · rw [h, W.an] at hp0; cases hp0
    · rw [h, W.aq] at hp0; cases hp0
    · obtain ⟨i, hi, he⟩ := List.mem_iff_getElem.mp h
      have hi2 : i < s.ld.length := by rw [← W.ql]; exact hi
      rw [← he, W.qa i _ _ (List.getElem?_eq_getElem hi) (List.getElem?_eq_getElem hi2)] at hp0
      cases hp0
  refine ⟨?_, ?_, ?_, ?_, ?_, ?_, by rw [sendOne_len]; exact W.ql, fun i a' l' h1 h2 => ?_, W.nd, ⟨_, updM_same, ⟨fun kv hkv => ?_, fun i l' h1 y hy => ?_⟩, by have := putD_len tk (lk (r, l.1)) (.ref px); omega⟩, W.pr, al_upd (al_upd (al_upd (al_upd W.al)))⟩
  · rw [updM_ne n.wt, updM_ne (hpx W.aw), updM_ne (n.qw a hm).symm, updM_ne n.wn]; exact W.aw
  · rw [updM_ne n.dt, updM_ne (hpx W.ad), updM_ne (n.qd a hm).symm, updM_ne n.dn]; exact W.ad
  · rw [updM_ne n.et, updM_ne (hpx W.ae), updM_ne (n.qe a hm).symm, updM_ne n.en]; exact W.ae
  · rw [updM_ne n.ts.symm, updM_ne (hpx W.as_), updM_ne (n.qs a hm).symm, updM_ne n.sn]; exact W.as_
  · rw [updM_ne n.tn.symm, updM_ne (hpx W.an), updM_ne (n.qn a hm).symm, updM_same, hcs]
  · rw [updM_ne n.tq.symm, updM_ne (hpx W.aq), updM_ne (n.qq a hm).symm, updM_ne n.nq.symm]; exact W.aq
  · have hm' := List.mem_of_getElem? h1
    have h2' := h2
    rw [hso] at h2
    by_cases hi : r = i
    · subst hi
      rw [ha] at h1
      cases h1
      rw [List.getElem?_set_self hrl] at h2
      cases h2
      rw [updM_ne (n.qt a hm), updM_ne hpa.symm, updM_same]
    · rw [List.getElem?_set_ne hi] at h2
      have hq := W.qa i a' l' h1 h2
      rw [updM_ne (n.qt a' hm'), updM_ne (hpx hq), updM_ne (fun e => hi (nodup_at n.qnd ha (by rw [← e]; exact h1))), updM_ne (n.qn a' hm')]
      exact hq
  · rcases putD_mem hkv with e | e
    · refine ⟨px, l4, e, ?_, h4, hxc, hpr⟩
      rw [updM_ne (mem_core hxc).2.2.2.1, updM_same]
    · obtain ⟨y, m4, g1, g2, g3, g4, g5⟩ := t2.v kv e
      obtain ⟨x1, x2, x3, x4, x5, x6, x7, x8⟩ := mem_core g4
      exact ⟨y, m4, g1, by rw [updM_ne x4, updM_ne (hpx g2), updM_ne (fun e => x8 (by rw [e]; exact hm)), updM_ne x6]; exact g2, g3, g4, g5⟩
  · rw [hso] at h1
    by_cases hi : r = i
    · subst hi
      rw [List.getElem?_set_self hrl] at h1
      cases h1
      rcases List.mem_append.mp hy with hy | hy
      · exact putD_keys (.inl (t2.k r l hl y hy))
      · simp at hy; subst hy; exact putD_keys (.inr rfl)
    · rw [List.getElem?_set_ne hi] at h1
      exact putD_keys (.inl (t2.k i l' h1 y hy))
theorem WIs.tb' (W : WIs Pr μ f b A ds s en tb) {tb' : Nat} (h : tb ≤ tb') : WIs Pr μ f b A ds s en tb' := by
  obtain ⟨tk, t1, t2, t3⟩ := W.t
  exact ⟨W.aw, W.ad, W.ae, W.as_, W.an, W.aq, W.ql, W.qa, W.nd, ⟨tk, t1, t2, by omega⟩, W.pr, W.al⟩
end
end Cs

/-! ## LwG -/
namespace Cs
open PySem PySem.Spec PyProof.Rows L2 Dl
def SgOk (s : Sd) : Prop := ∀ l ∈ s.ld, ∀ y ∈ l.2, isS y.2
theorem lay_sg {c : Str} (h : isS c) : PyData.canLay0 (.str c) = true := by
  rcases h with rfl | rfl | rfl <;> decide +kernel
theorem take1_at (l : List (Nat × Str)) (h : 0 < l.length) : ((l.map (·.1)).take 1 == [l[0].1]) = true := by
  cases l with
  | nil => cases h
  | cons a r => simp
theorem okD_sg {c : Str} (h : isS c) (n : Nat) : okD n (.str c) = true := by
  have e : okD n (.str c) = PyData.canLay0 (.str c) := by cases n <;> simp only [okD]
  rw [e]; exact lay_sg h
theorem okDs_se {n : Nat} : ∀ {l : List (Nat × Str)}, (∀ y ∈ l, isS y.2) → okDs (n + 1) (l.map seD) = true
  | [], _ => rfl
  | a :: r, h => by
    rw [List.map_cons]
    unfold okDs
    rw [okDs_se fun y hy => h y (List.mem_cons_of_mem _ hy)]
    simp [seD, okDs, okD, lay_sg (h a List.mem_cons_self)]
def NumsNd (s : Sd) : Prop := ∀ l ∈ s.ld, (l.2.map (·.1)).Nodup
def enUp (en : List Nat) (m : Nat) : List Nat := en.set m (en.getD m 0 + 1)
def G__law_do : DRs := fun ds μ Q => ∃ (Pr : Addr → Prop) (f : Fm) (b : Sd) (A : WA) (dds : List Dd) (s : Sd) (en : List Nat) (tb : Nat) (d : Dd), ds = [.ref A.w, ddD d] ∧ WIs Pr μ f b A dds s en tb ∧ Good f s d ∧ NumsNd s ∧ SgOk s ∧ en.length = f.rules.length ∧ dds.length ≤ 1000 ∧ tb ≤ 10000 ∧
  ∀ μ', WIs Pr μ' f b A (dds ++ [d]) (doneS f s d).1 (enUp en (ofDd f d)) (tb + 2) → (∀ a, Pr a → μ' a = μ a) → Q .non μ'
theorem u__law_do {Pr : Addr → Prop} {f : Fm} {b : Sd} {A : WA} {dds : List Dd} {s : Sd} {en : List Nat} {tb : Nat} {d : Dd} {μ Q} (W : WIs Pr μ f b A dds s en tb) (g : Good f s d) (hn : NumsNd s) (hsg : SgOk s) (he : en.length = f.rules.length) (hd : dds.length ≤ 1000) (ht : tb ≤ 10000)
  (q : ∀ μ', WIs Pr μ' f b A (dds ++ [d]) (doneS f s d).1 (enUp en (ofDd f d)) (tb + 2) → (∀ a, Pr a → μ' a = μ a) → Q .non μ') : G__law_do [.ref A.w, ddD d] μ Q := ⟨Pr, f, b, A, dds, s, en, tb, d, rfl, W, g, hn, hsg, he, hd, ht, q⟩
theorem find_cause {f : Fm} {s : Sd} {r n : Nat} {c : Str} (h : causeL f s (.come r n) = some c) : ∃ t l, f.roads[r]? = some t ∧ s.ld[r]? = some l ∧ (n, c) ∈ l.2 := by
  simp only [causeL] at h
  cases e1 : f.roads[r]? with
  | none => rw [e1] at h; cases h
  | some t =>
    cases e2 : s.ld[r]? with
    | none => rw [e1, e2] at h; cases h
    | some l =>
      rw [e1, e2] at h
      simp only at h
      obtain ⟨x, hx, rfl⟩ := Option.map_eq_some_iff.mp h
      have h1 := List.find?_some hx
      have h2 := List.mem_of_find?_eq_some hx
      simp at h1
      refine ⟨t, l, rfl, rfl, ?_⟩
      rw [← h1]
      split at h2
      · exact List.mem_of_mem_take h2
      · exact h2
theorem merge_nodup : ∀ (more kvs : List (Key × D)), ((kvs ++ more).map (·.1)).Nodup → mergeD kvs more = kvs ++ more
  | [], kvs, _ => by simp [mergeD]
  | x :: r, kvs, h => by
    have hp : putD kvs x.1 x.2 = kvs ++ [x] := by
      unfold putD
      rw [if_neg]
      intro hh
      obtain ⟨y, hy, he⟩ := List.any_eq_true.mp hh
      have he := of_decide_eq_true he
      rw [List.map_append, List.nodup_append] at h
      exact h.2.2 _ (List.mem_map.mpr ⟨y, hy, rfl⟩) x.1 (by simp) he
    show mergeD (putD kvs x.1 x.2) r = _
    rw [hp, merge_nodup r (kvs ++ [x]) (by simpa using h)]
    simp
def ltI (x : Nat × Str) : Int × Str := ((x.1 : Int), x.2)
theorem lp_se (l : List (Nat × Str)) : (l.map ltI).map lpD = l.map seD := by rw [List.map_map]; rfl
theorem ltI_inj {a b : Nat × Str} : ltI a = ltI b ↔ a = b := by
  obtain ⟨a1, a2⟩ := a
  obtain ⟨b1, b2⟩ := b
  simp [ltI]
  omega
theorem erase_ltI (l : List (Nat × Str)) (x : Nat × Str) : (l.map ltI).erase (ltI x) = (l.erase x).map ltI := by
  induction l with
  | nil => rfl
  | cons a r ih =>
    rw [List.map_cons, List.erase_cons, List.erase_cons]
    by_cases h : a = x
    · subst h; simp
    · have h2 : ¬ (ltI a == ltI x) = true := by simpa [ltI_inj] using h
      have h3 : ¬ (a == x) = true := by simpa using h
      rw [if_neg h2, if_neg h3, List.map_cons, ih]
theorem erase_filter : ∀ {l : List (Nat × Str)} {n : Nat} {c : Str}, (l.map (·.1)).Nodup → (n, c) ∈ l → l.erase (n, c) = l.filter fun x => x.1 != n
  | [], _, _, _, h => by cases h
  | a :: r, n, c, nd, h => by
    rw [List.map_cons, List.nodup_cons] at nd
    by_cases e : a = (n, c)
    · subst e
      rw [List.erase_cons_head, List.filter_cons_of_neg (by simp)]
      refine (List.filter_eq_self.mpr fun x hx => ?_).symm
      have : x.1 ≠ n := fun e => nd.1 (List.mem_map.mpr ⟨x, hx, e⟩)
      simpa using this
    · have hr : (n, c) ∈ r := by
        rcases List.mem_cons.mp h with h | h
        · exact absurd h.symm e
        · exact h
      have hn : a.1 ≠ n := fun h => nd.1 (List.mem_map.mpr ⟨(n, c), hr, h.symm⟩)
      rw [List.erase_cons_tail (by simpa using e), List.filter_cons_of_pos (by simpa using hn), erase_filter nd.2 hr]
theorem dict_val {l : List (Nat × Str)} {n : Nat} {c : Str} (nd : (l.map (·.1)).Nodup) (h : (n, c) ∈ l) : valD (mergeD [] ((l.map ltI).map fun l => ((Sum.inl l.1 : Key), D.str l.2))) (Sum.inl (n : Int)) = some (.str c) := by
  rw [merge_nodup]
  · rw [List.nil_append, List.map_map]
    have e := get_map kN_inj (g := fun c : Str => D.str c) l n
    have e2 : getA l n = some c := getA_of (x := (n, c)) nd h
    rw [e2] at e
    exact e
  · rw [List.nil_append, List.map_map, List.map_map]
    have : (l.map (·.1)).map kN = l.map (((fun x => x.1) ∘ fun l => ((Sum.inl l.1 : Key), D.str l.2)) ∘ ltI) := by rw [List.map_map]; rfl
    rw [← this]
    exact List.pairwise_map.mpr (nd.imp fun h e => h ((kN_inj _ _).mp e))
theorem ix_of {n i : Nat} (h : i < n) : ixN n (i : Int) = some i := by
  unfold ixN; rw [if_pos (by omega), if_pos (by omega)]; rfl
theorem takeOne_at {ld : List Ld} {r n : Nat} {l : Ld} (h : ld[r]? = some l) : takeOne ld r n = ld.set r (l.1, l.2.filter fun x => x.1 != n) := by unfold takeOne; rw [h]
theorem sendOne_at {ld : List Ld} {r : Nat} {c : Str} {l : Ld} (h : ld[r]? = some l) : sendOne ld (r, c) = ld.set r (l.1 + 1, l.2 ++ [(l.1, c)]) := by unfold sendOne; rw [show ld[(r, c).1]? = _ from h]
/-- the second half of the turn -/
abbrev t_dh : DS := (aSeq (aAsg (aCall G__law_move (aCons (aVar 0) (aCons (aVar 2) (aCons (aVar 3) aNil)))) (aName 4)) (aSeq (aIfS (aTest (aOp (rIs true) (aVar 4) (aC .non))) (aSeq (aAsg (aOp rIxD (aVar 4) (aC (.int 0))) (aSubG (aOp rIxD (aVar 0) (aC (.str "states"))) (aVar 2) setD)) (aFor (aSeqI (aOp rIxD (aVar 4) (aC (.int 1)))) (aTupG 2 (gConsD (aName 5) (gConsD (aName 6) gNilD))) (aSeq (aAsg (aOp rIxD (aOp rIxD (aVar 0) (aC (.str "sent"))) (aVar 5)) (aName 7)) (aSeq (aAsg (aOp (rAdd) (aVar 7) (aC (.int 1))) (aSubG (aOp rIxD (aVar 0) (aC (.str "sent"))) (aVar 5) setD)) (aSeq (aDrop (aApp (aOp rIxD (aOp rIxD (aVar 0) (aC (.str "waiting"))) (aVar 5)) (aTup (aCons (aVar 7) (aCons (aVar 6) aNil))))) (aAsg (aNew (aCons (aVar 2) (aCons (aOp rIxD (aOp rIxD (aVar 0) (aC (.str "ends"))) (aVar 2)) (aCons (aOp rIxD (aOp rIxD (aOp rIxD (aOp rIxD (aVar 0) (aC (.str "form"))) (aC (.int 1))) (aVar 5)) (aC (.int 1))) (aCons (aC .non) aNil))))) (aSubG (aOp rIxD (aVar 0) (aC (.str "trips"))) (aTup (aCons (aVar 5) (aCons (aVar 7) aNil))) setD))))))) aNext) (aSeq (aAsg (aOp (rAdd) (aOp rIxD (aOp rIxD (aVar 0) (aC (.str "ends"))) (aVar 2)) (aC (.int 1))) (aSubG (aOp rIxD (aVar 0) (aC (.str "ends"))) (aVar 2) setD)) (aDrop (aApp (aOp rIxD (aVar 0) (aC (.str "deeds"))) (aVar 1))))))
/-- from the cause on -/
theorem do_half {Pr : Addr → Prop} {μ μ1 : Mu} {f : Fm} {b : Sd} {A : WA} {dds : List Dd} {s1 : Sd} {en : List Nat} {tb m st : Nat} {ca : Str} {r : Nat × List Mv} {a : Ans} {d : Dd} {x4 x5 x6 x7 : Option D} {P : DEnds} (W : WIs Pr μ1 f b A dds s1 en tb) (fr : ∀ a, Pr a → μ1 a = μ a)
    (hr : f.rules[m]? = some r) (hs : s1.st[m]? = some st) (ha : ansL r.2 st ca = some a) (hsn : ∀ x ∈ a.2.1, x.1 < f.roads.length) (hs2 : a.2.1.length ≤ 2) (hld : s1.ld.length = f.roads.length) (hfew : ∀ l ∈ s1.ld, l.2.length ≤ 100) (he : m < en.length) (hd : dds.length ≤ 1000) (ht : tb ≤ 10000)
    (q : ∀ μ' x4 x5 x6 x7, WIs Pr μ' f b A (dds ++ [d]) ⟨s1.st.set m a.1, a.2.1.foldl sendOne s1.ld⟩ (enUp en m) (tb + 2) → (∀ a, Pr a → μ' a = μ a) → P.nx [some (.ref A.w), some (ddD d), some (nD m), some (.str ca), x4, x5, x6, x7] μ') :
    t_dh P [some (.ref A.w), some (ddD d), some (nD m), some (.str ca), x4, x5, x6, x7] μ1 := by
  have hz : 200000 ≤ sizeLine := by decide
  have tail : ∀ (μ2 : Mu) (s2 : Sd) (x4 x5 x6 x7 : Option D), WIs Pr μ2 f b A dds s2 en (tb + 2) → (∀ a, Pr a → μ2 a = μ a) → s2 = ⟨s1.st.set m a.1, a.2.1.foldl sendOne s1.ld⟩ →
      aSeq (aAsg (aOp (rAdd) (aOp rIxD (aOp rIxD (aVar 0) (aC (.str "ends"))) (aVar 2)) (aC (.int 1))) (aSubG (aOp rIxD (aVar 0) (aC (.str "ends"))) (aVar 2) setD)) (aDrop (aApp (aOp rIxD (aVar 0) (aC (.str "deeds"))) (aVar 1))) P [some (.ref A.w), some (ddD d), some (nD m), some (.str ca), x4, x5, x6, x7] μ2 := by
    intro μ2 s2 x4 x5 x6 x7 W2 fr2 hs2
    have e0 := getD_at he
    have ix := ix_of he
    have W3 := W2.setE (enUp en m)
    have W4 := W3.setDd (dds ++ [d])
    have hen : (en.map nD).set m (.int ((en.getD m 0 : Nat) + 1 : Int)) = (enUp en m).map nD := by unfold enUp; rw [List.map_set]; rfl
    have n := W.ne
    generalize hv : en.getD m 0 = v at e0 hen
    have hw3 : updM μ2 A.e (.lst ((enUp en m).map nD)) A.w = some (.dK (wkvs f b A)) := W3.aw
    have hd3 : updM μ2 A.e (.lst ((enUp en m).map nD)) A.d = some (.lst (dds.map ddD)) := W3.ad
    simp [-Bool.exists_bool, -Prod.exists, W2.aw, v_ends, W2.ae, e0, ix]
    rw [hen]
    simp [-Bool.exists_bool, -Prod.exists, hw3, v_deeds, hd3]
    refine ⟨by omega, ?_⟩
    refine q _ _ _ _ _ (by rw [← hs2]; have := W4; rw [List.map_append] at this; exact this) fun c hc => ?_
    have hcc := W2.pr c hc
    obtain ⟨x1, x2, x3, _⟩ := mem_core hcc
    rw [updM_ne x2, updM_ne x3]
    exact fr2 c hc
  rw [ansL_mv] at ha
  simp [-Bool.exists_bool, -Prod.exists, t_dh]
  refine u__law_move W hr hs ?_
  cases hmv : mvL r.2 st ca with
  | none =>
    rw [hmv] at ha
    simp only at ha
    split at ha
    · cases ha
    · cases ha
      have hst : s1.st.set m st = s1.st := by
        refine List.ext_getElem? fun i => ?_
        by_cases hi : m = i
        · subst hi; rw [List.getElem?_set_self (List.getElem?_eq_some_iff.mp hs).1, hs]
        · rw [List.getElem?_set_ne hi]
      simp [-Bool.exists_bool, -Prod.exists]
      have := tail μ1 s1 (some .non) x5 x6 x7 (W.tb' (by omega)) fr (by show s1 = ⟨s1.st.set m st, _⟩; rw [hst]; rfl)
      simpa [-Bool.exists_bool, -Prod.exists] using this
  | some a' =>
    rw [hmv] at ha
    cases ha
    have hml : m < s1.st.length := (List.getElem?_eq_some_iff.mp hs).1
    have ixs := ix_of hml
    have hset : (s1.st.map nD).set m (nD a.1) = (s1.st.set m a.1).map nD := by rw [List.map_set]
    have W2 := W.setS (s1.st.set m a.1)
    have e0 := getD_at he
    have hfm := hr
    simp [-Bool.exists_bool, -Prod.exists, asD, W.aw, v_states, W.as_, ixs]
    rw [hset]
    refine for_map (fun l ρ μ' => ∃ x5 x6 x7, ∃ (ld : List Ld) (tb' : Nat), ρ = [some (.ref A.w), some (ddD d), some (nD m), some (.str ca), some (asD a), x5, x6, x7] ∧ WIs Pr μ' f b A dds ⟨s1.st.set m a.1, ld⟩ en tb' ∧ (∀ a, Pr a → μ' a = μ a) ∧ l.foldl sendOne ld = a.2.1.foldl sendOne s1.ld ∧ ld.length = s1.ld.length ∧ (∀ l ∈ ld, l.2.length ≤ 200) ∧ (∀ x ∈ l, x.1 < f.roads.length) ∧ tb' + l.length ≤ tb + 2 ∧ (∀ x ∈ ld, x.2.length + l.length ≤ 110)) ?_ ?_
      ⟨_, _, _, s1.ld, tb, rfl, W2, fun c hc => by obtain ⟨_, _, _, _, x5, _⟩ := mem_core (W.pr c hc); rw [updM_ne x5]; exact fr c hc, rfl, rfl, fun l hl => by have := hfew l hl; omega, hsn, by omega, fun l hl => by have := hfew l hl; omega⟩
    · rintro ⟨road, c⟩ l ρ μ2 N ⟨x5, x6, x7, ld, tb', rfl, W2, fr2, hfold, hll, hl200, hin, htb, h110⟩ hN
      have hro : road < f.roads.length := hin (road, c) List.mem_cons_self
      have hrl : road < ld.length := by omega
      have el := List.getElem?_eq_getElem hrl
      have hl1 := hl200 _ (List.getElem_mem hrl)
      rw [List.foldl_cons] at hfold
      rw [List.length_cons] at htb h110
      have h110' : ∀ x ∈ sendOne ld (road, c), x.2.length + l.length ≤ 110 := by
        have := sendOne_b (ld := ld) (x := (road, c)) (k := 110 - (l.length + 1)) (fun x hx => by have := h110 x hx; omega)
        have h0 := h110 _ (List.getElem_mem hrl)
        intro x hx
        have := this x hx
        omega
      generalize ld[road] = lo at el hl1
      obtain ⟨qa, eq⟩ : ∃ qa, A.qs[road]? = some qa := ⟨_, List.getElem?_eq_getElem (show road < A.qs.length by rw [W2.ql]; exact hrl)⟩
      have hqa := W2.qa road qa lo eq el
      have hqm := List.mem_of_getElem? eq
      have ero := List.getElem?_eq_getElem hro
      generalize f.roads[road] = tro at ero
      have n := W2.ne
      obtain ⟨tk, t1, t2, t3⟩ := W2.t
      have ixr : ixN ld.length (road : Int) = some road := ix_of hrl
      have e0' := e0
      generalize en.getD m 0 = v at e0'
      have hw := W2.aw
      have hnn := W2.an
      have haq := W2.aq
      have hae := W2.ae
      have hcs : (ld.map fun l => nD l.1).set road (.int ((lo.1 : Int) + 1)) = (sendOne ld (road, c)).map fun l => nD l.1 := by rw [sendOne_at el, List.map_set]; rfl
      have hap : lo.2.map seD ++ [D.tup [nD lo.1, .str c]] = (lo.2 ++ [(lo.1, c)]).map seD := by rw [List.map_append]; rfl
      simp only at hnn hqa
      simp [-Bool.exists_bool, -Prod.exists, seD, hw, v_sent, hnn, el, ixr]
      rw [hcs]
      generalize hX : (sendOne ld (road, c)).map (fun l => nD l.1) = X at *
      simp [-Bool.exists_bool, -Prod.exists, updM_ne n.wn, updM_ne n.nq.symm, updM_ne n.en, updM_ne (n.qn qa hqm), updM_ne n.tn, updM_ne n.wn, hw, v_waiting, haq, eq, hqa]
      refine ⟨by omega, ?_⟩
      rw [show (lo.2.map seD ++ [D.tup [nD lo.1, .str c]]) = (lo.2 ++ [(lo.1, c)]).map seD from hap]
      generalize hY : (lo.2 ++ [(lo.1, c)]).map seD = Y at *
      simp [-Bool.exists_bool, -Prod.exists, updM_ne (n.qw qa hqm).symm, updM_ne n.wn, hw, v_ends, v_form, v_trips, updM_ne (n.qe qa hqm).symm, updM_ne n.en, hae, e0']
      simp [-Bool.exists_bool, -Prod.exists, fmD, ero, rtD]
      intro px hpx
      have hwx : updM (updM μ2 A.n (.lst X)) qa (.lst Y) A.w = some (.dK (wkvs f b A)) := by rw [updM_ne (n.qw qa hqm).symm, updM_ne n.wn]; exact hw
      have htx : updM (updM μ2 A.n (.lst X)) qa (.lst Y) A.t = some (.dT tk) := by rw [updM_ne (n.qt qa hqm).symm, updM_ne n.tn]; exact t1
      have hxw : A.w ≠ px := mu_ne hwx hpx
      have hxt : A.t ≠ px := mu_ne htx hpx
      have hprx : ¬ Pr px := fun hp => by
        have := al_upd (p := qa) (c := .lst Y) (al_upd (p := A.n) (c := .lst X) W2.al) px hp
        exact this hpx
      simp [-Bool.exists_bool, -Prod.exists, updM_ne hxw, updM_ne hxt, hwx, htx, v_trips]
      refine ⟨lk (road, lo.1), rfl, by omega, ?_⟩
      subst hX hY
      have W3 := W2.send (c := c) (l4 := [nD m, nD v, nD tro.other, .non]) eq el rfl t1 hpx hprx rfl
      refine hN _ _ trivial ⟨_, _, _, sendOne ld (road, c), tb' + 1, rfl, W3, fun y hy => ?_, hfold, by rw [sendOne_len]; exact hll, fun x hx => by have := h110' x hx; omega, fun x hx => hin x (List.mem_cons_of_mem _ hx), by omega, h110'⟩
      obtain ⟨y1, y2, y3, y4, y5, y6, y7, y8⟩ := mem_core (W2.pr y hy)
      rw [updM_ne y4, updM_ne (fun e => hprx (by rw [← e]; exact hy)), updM_ne (fun e => y8 (by rw [e]; exact hqm)), updM_ne y6]
      exact fr2 y hy
    · rintro ρ μ2 ⟨x5, x6, x7, ld, tb', rfl, W2, fr2, hfold, hll, hl200, hin, htb, h110⟩
      have hfold : ld = a.2.1.foldl sendOne s1.ld := hfold
      subst hfold
      have := tail μ2 _ (some (asD a)) x5 x6 x7 (W2.tb' (by simp at htb; omega)) fr2 rfl
      exact this
end Cs

/-! ## LwH -/
namespace Cs
open PySem PySem.Spec PyProof.Rows L2 Dl
@[simp] theorem s_dictP (p : Addr) (μ : Mu) (Q : D → Mu → Prop) : rDictP [.ref p] μ Q = ∃ ls : List (Int × Str), μ p = some (.lst (ls.map lpD)) ∧ ∀ q, μ q = none → Q (.ref q) (updM μ q (.dK (mergeD [] (ls.map fun l => (Sum.inl l.1, .str l.2))))) := by
  apply propext
  constructor
  · rintro ⟨_, ls, e, h⟩; cases e; exact ⟨ls, h⟩
  · rintro ⟨ls, h⟩; exact ⟨_, ls, rfl, h⟩
theorem d__law_do (ds μ Q) (h : G__law_do ds μ Q) : Body (t__law_do G__law_move) 8 ds μ Q := by
  obtain ⟨Pr, f, b, A, dds, s, en, tb, d, rfl, W, g, hnd, hsg, hen, hdd, htb, q⟩ := h
  have hz : 200000 ≤ sizeLine := by decide
  obtain ⟨a, ha⟩ := Option.isSome_iff_exists.mp g.can
  obtain ⟨se1, se2⟩ := g.sends a ha
  have ha' := ha
  unfold ansdL at ha'
  have hm := of_lt g.o g.ok
  have hms : ofDd f d < s.st.length := by rw [g.o.st]; exact hm
  have e1 := List.getElem?_eq_getElem hm
  have e2 := List.getElem?_eq_getElem hms
  cases hc : causeL f s d with
  | none => rw [hc] at ha'; cases ha'
  | some ca =>
    rw [hc, e1, e2] at ha'
    simp only at ha'
    generalize f.rules[ofDd f d] = r at e1 ha'
    generalize s.st[ofDd f d] = st at e2 ha'
    have hdone : (doneS f s d).1 = ⟨s.st.set (ofDd f d) a.1, a.2.1.foldl sendOne (afterTake s.ld d)⟩ := by simp only [doneS, ha]
    rw [hdone] at q
    have hlde := g.o.ld
    have fin : ∀ (μ1 : Mu) (s1 : Sd), WIs Pr μ1 f b A dds s1 en tb → (∀ a, Pr a → μ1 a = μ a) → s1 = ⟨s.st, afterTake s.ld d⟩ → t_dh { nx := fun _ μ' => Fg Q .non μ', rt := fun d μ' => Fg Q d μ' } [some (.ref A.w), some (ddD d), some (nD (ofDd f d)), some (.str ca), none, none, none, none] μ1 := by
      rintro μ1 s1 W1 fr1 rfl
      refine do_half (d := d) W1 fr1 e1 e2 ha' se1 se2 ?_ ?_ (by omega) hdd htb fun μ' x4 x5 x6 x7 W' fr' => Fg.same (q μ' W' fr')
      · show (afterTake s.ld d).length = _
        cases d with
        | come r n => simp only [afterTake]; rw [takeOne_len]; exact hlde
        | _ => exact hlde
      · intro l hl
        cases d with
        | come r n => exact takeOne_b g.few l hl
        | _ => exact g.few l hl
    cases d with
    | own m =>
      have hca : ca = "own" := by simp only [causeL] at hc; exact (Option.some.inj hc).symm
      subst hca
      simp [-Bool.exists_bool, -Prod.exists, Body, t__law_do, ddD]
      have := fin μ s W (fun _ _ => rfl) rfl
      simpa [-Bool.exists_bool, -Prod.exists, t_dh, ddD, ofDd] using this
    | hear m c =>
      have hca : ca = c := by simp only [causeL] at hc; exact (Option.some.inj hc).symm
      subst hca
      simp [-Bool.exists_bool, -Prod.exists, Body, t__law_do, ddD]
      have := fin μ s W (fun _ _ => rfl) rfl
      simpa [-Bool.exists_bool, -Prod.exists, t_dh, ddD, ofDd] using this
    | come rr n =>
      obtain ⟨t, l, c1, c2, c3⟩ := find_cause hc
      have hlm := List.mem_of_getElem? c2
      have ndl := hnd l hlm
      obtain ⟨qa, eq⟩ : ∃ qa, A.qs[rr]? = some qa := ⟨_, List.getElem?_eq_getElem (show rr < A.qs.length by rw [W.ql]; exact (List.getElem?_eq_some_iff.mp c2).1)⟩
      have hqa := W.qa rr qa l eq c2
      have hqm := List.mem_of_getElem? eq
      have ne := W.ne
      have hof : ofDd f (.come rr n) = t.other := by simp only [ofDd, c1]
      rw [hof] at fin hm
      have e0 := getD_at (c := en) (i := t.other) (by omega)
      generalize en.getD t.other 0 = v at e0
      simp [-Bool.exists_bool, -Prod.exists, Body, t__law_do, ddD, W.aw, v_form]
      simp [-Bool.exists_bool, -Prod.exists, fmD, c1, rtD, W.aw, v_waiting, W.aq, eq, hqa]
      refine ⟨l.2.map ltI, (lp_se l.2).symm, fun p hp => ?_⟩
      have hv := dict_val ndl c3
      have W1 := W.new (c := .dK (mergeD [] ((l.2.map ltI).map fun l => (Sum.inl l.1, .str l.2)))) hp
      have f1 : ∀ a, Pr a → updM μ p (.dK (mergeD [] ((l.2.map ltI).map fun l => (Sum.inl l.1, .str l.2)))) a = μ a := fun a ha => updM_ne (fun e => by subst e; exact W.al a ha hp)
      have hpp : updM μ p (.dK (mergeD [] ((l.2.map ltI).map fun l => (Sum.inl l.1, .str l.2)))) p = some (.dK (mergeD [] ((l.2.map ltI).map fun l => (Sum.inl l.1, .str l.2)))) := updM_same
      generalize updM μ p (.dK (mergeD [] ((l.2.map ltI).map fun l => (Sum.inl l.1, .str l.2)))) = μ1 at W1 f1 hpp ⊢
      have hqa1 := W1.qa rr qa l eq c2
      simp [-Bool.exists_bool, -Prod.exists, hpp, hv]
      simp [-Bool.exists_bool, -Prod.exists, W1.aw, v_waiting, W1.aq, eq, hqa1]
      refine ⟨.str ca, by rw [← List.map_map]; exact hv, l.2.map ltI, (lp_se l.2).symm, ltI (n, ca), rfl, List.mem_map.mpr ⟨_, c3, rfl⟩, (fun za zb hz => by obtain ⟨y, hy, e⟩ := List.mem_map.mp hz; cases e; exact lay_sg (hsg l hlm y hy)), ?_⟩
      rw [erase_ltI, lp_se, erase_filter ndl c3]
      have W2 := W1.take (ws := l.2.filter fun x => x.1 != n) eq c2 (fun y hy => (List.mem_filter.mp hy).1)
      have f2 : ∀ a, Pr a → updM μ1 qa (.lst ((l.2.filter fun x => x.1 != n).map seD)) a = μ a := fun a ha => by
        obtain ⟨y1, y2, y3, y4, y5, y6, y7, y8⟩ := mem_core (W.pr a ha)
        rw [updM_ne (fun e => y8 (by rw [e]; exact hqm))]; exact f1 a ha
      have ht2 : updM μ1 qa (.lst ((l.2.filter fun x => x.1 != n).map seD)) A.t = μ1 A.t := updM_ne (ne.qt qa hqm).symm
      generalize updM μ1 qa (.lst ((l.2.filter fun x => x.1 != n).map seD)) = μ2 at W2 f2 ht2 ⊢
      obtain ⟨tk, t1, t2, t3⟩ := W2.t
      obtain ⟨tk0, s1, s2, s3⟩ := W1.t
      have hkey : lk (rr, n) ∈ tk.map (·.1) := by
        rw [t1, s1] at ht2
        cases ht2
        exact s2.k rr l c2 (n, ca) c3
      obtain ⟨v0, hv0, hm0⟩ : ∃ v0, valD tk (lk (rr, n)) = some v0 ∧ ∃ kv ∈ tk, kv.2 = v0 := by
        obtain ⟨x, hx, he⟩ := List.mem_map.mp hkey
        unfold valD
        cases e : tk.find? (fun kv => decide (kv.1 = lk (rr, n))) with
        | none => have := List.find?_eq_none.mp e x hx; simp [he] at this
        | some y => exact ⟨y.2, rfl, y, List.mem_of_find?_eq_some e, rfl⟩
      obtain ⟨kv, hkv, hkv2⟩ := hm0
      obtain ⟨x, l4, x1, x2, x3, x4, x5⟩ := t2.v kv hkv
      rw [← hkv2, x1] at hv0
      have hcut : cutA [D.str "come", nD rr, nD n] (some 1) none = [nD rr, nD n] := rfl
      have hae2 := W2.ae
      have hix : ixN l4.length 3 = some 3 := by rw [x3]; rfl
      simp [-Bool.exists_bool, -Prod.exists, W2.aw, v_ends, v_trips, hae2, e0, hcut, t1]
      refine ⟨lk (rr, n), rfl, _, hv0, ?_⟩
      simp [-Bool.exists_bool, -Prod.exists, x2, hix]
      have W3 := W2.trip (l4 := l4.set 3 (nD v)) x4 (by rw [List.length_set]; exact x3)
      have := fin _ _ W3 (fun a ha => by rw [updM_ne (fun e => x5 (by rw [← e]; exact ha))]; exact f2 a ha) (by simp only [afterTake, takeOne_at c2])
      simpa [-Bool.exists_bool, -Prod.exists, t_dh, ddD, hof] using this
end Cs

/-! ## LwI -/
namespace Cs
open PySem PySem.Spec PyProof.Rows L2 Dl
def PrOf (μ : Mu) : Addr → Prop := fun a => μ a ≠ none
def en0 (f : Fm) : List Nat := List.replicate f.rules.length 0
def G__law_begun : DRs := fun ds μ Q => ∃ (f : Fm) (b : Sd), ds = [fmD f, sdD b] ∧ f.rules.length ≤ 10 ∧ f.roads.length ≤ 10 ∧ b.ld.length = f.roads.length ∧ b.st.length ≤ 10 ∧ (∀ l ∈ b.ld, l.2.length ≤ 3) ∧ ∀ A μ', WIs (PrOf μ) μ' f b A [] b (en0 f) 100 → (∀ a c, μ a = some c → μ' a = some c) → Q (.ref A.w) μ'
theorem u__law_begun {f : Fm} {b : Sd} {μ Q} (h1 : f.rules.length ≤ 10) (h2 : f.roads.length ≤ 10) (h3 : b.ld.length = f.roads.length) (h4 : b.st.length ≤ 10) (h5 : ∀ l ∈ b.ld, l.2.length ≤ 3) (q : ∀ A μ', WIs (PrOf μ) μ' f b A [] b (en0 f) 100 → (∀ a c, μ a = some c → μ' a = some c) → Q (.ref A.w) μ') : G__law_begun [fmD f, sdD b] μ Q := ⟨f, b, rfl, h1, h2, h3, h4, h5, q⟩
theorem d__law_begun (ds μ Q) (h : G__law_begun ds μ Q) : Body t__law_begun 7 ds μ Q := by
  obtain ⟨f, b, rfl, hr, hro, hld, hst, hl3, q⟩ := h
  have hz : 200000 ≤ sizeLine := by decide
  simp [-Bool.exists_bool, -Prod.exists, Body, t__law_begun, fmD, sdD]
  intro p0 h0 p1 h1
  have n01 : p0 ≠ p1 := fun e => by subst e; simp at h1
  have f1 : μ p1 = none := by rw [updM_ne n01.symm] at h1; exact h1
  have S1a : updM (updM μ p0 (.dK [])) p1 (.lst []) p0 = some (.dK []) := by rw [updM_ne n01]; exact updM_same
  have S1b : updM (updM μ p0 (.dK [])) p1 (.lst []) p1 = some (.lst []) := updM_same
  have E1 := ext1 (c := .lst []) h1 (ext1 (c := .dK []) h0 (ext0 (μ := μ)))
  generalize updM (updM μ p0 (.dK [])) p1 (.lst []) = S1 at *
  refine lc_all (fun _ => nD 0) trivial (fun x hx Y hy => by simp; exact hy) (by omega) ?_
  have hrep : f.rules.map (fun _ => nD 0) = (en0 f).map nD := by unfold en0; rw [List.map_replicate]; exact List.map_const'
  rw [hrep]
  intro p2 h2 p3 h3
  have n02 : p0 ≠ p2 := mu_ne S1a h2
  have n12 : p1 ≠ p2 := mu_ne S1b h2
  have f2 := none_of E1 h2
  have S2a : updM S1 p2 (.lst ((en0 f).map nD)) p0 = some (.dK []) := by rw [updM_ne n02]; exact S1a
  have S2b : updM S1 p2 (.lst ((en0 f).map nD)) p1 = some (.lst []) := by rw [updM_ne n12]; exact S1b
  have S2c : updM S1 p2 (.lst ((en0 f).map nD)) p2 = some (.lst ((en0 f).map nD)) := updM_same
  have E2 := ext1 (c := .lst ((en0 f).map nD)) h2 E1
  generalize updM S1 p2 (.lst ((en0 f).map nD)) = S2 at *
  have n03 : p0 ≠ p3 := mu_ne S2a h3
  have n13 : p1 ≠ p3 := mu_ne S2b h3
  have n23 : p2 ≠ p3 := mu_ne S2c h3
  have f3 := none_of E2 h3
  have E3 := ext1 (c := .dT []) h3 E2
  refine ⟨by rw [updM_ne n03]; exact S2a, fun p4 h4 => ?_⟩
  have hk5 : mergeD [] [((Sum.inr (Str.ofString "form") : Key), D.tup [D.tup (List.map rlD f.rules), D.tup (List.map rtD f.roads)]), (Sum.inr (Str.ofString "base"), D.tup [D.tup (List.map nD b.st), D.tup (List.map ldD b.ld)]), (Sum.inr (Str.ofString "deeds"), D.ref p1), (Sum.inr (Str.ofString "ends"), D.ref p2), (Sum.inr (Str.ofString "trips"), D.ref p3)]
    = [((Sum.inr (Str.ofString "form") : Key), fmD f), (Sum.inr (Str.ofString "base"), sdD b), (Sum.inr (Str.ofString "deeds"), D.ref p1), (Sum.inr (Str.ofString "ends"), D.ref p2), (Sum.inr (Str.ofString "trips"), D.ref p3)] := rfl
  rw [hk5] at h4 ⊢
  have n04 : p0 ≠ p4 := fun e => by subst e; rw [updM_same] at h4; cases h4
  have h4' : updM S2 p3 (.dT []) p4 = none := by rw [updM_ne n04.symm] at h4; exact h4
  have n34 : p3 ≠ p4 := fun e => by subst e; simp at h4'
  have h4'' : S2 p4 = none := by rw [updM_ne n34.symm] at h4'; exact h4'
  have n14 : p1 ≠ p4 := mu_ne S2b h4''
  have n24 : p2 ≠ p4 := mu_ne S2c h4''
  have f4 := none_of E2 h4''
  simp [-Bool.exists_bool, -Prod.exists, updM_ne n04]
  refine ⟨by omega, ?_⟩
  have hk6 : putD [((Sum.inr (Str.ofString "form") : Key), fmD f), (Sum.inr (Str.ofString "base"), sdD b), (Sum.inr (Str.ofString "deeds"), D.ref p1), (Sum.inr (Str.ofString "ends"), D.ref p2), (Sum.inr (Str.ofString "trips"), D.ref p3)] (Sum.inr (Str.ofString "states")) (D.ref p4)
    = [((Sum.inr (Str.ofString "form") : Key), fmD f), (Sum.inr (Str.ofString "base"), sdD b), (Sum.inr (Str.ofString "deeds"), D.ref p1), (Sum.inr (Str.ofString "ends"), D.ref p2), (Sum.inr (Str.ofString "trips"), D.ref p3), (Sum.inr (Str.ofString "states"), D.ref p4)] := rfl
  rw [hk6]
  generalize hK6 : [((Sum.inr (Str.ofString "form") : Key), fmD f), (Sum.inr (Str.ofString "base"), sdD b), (Sum.inr (Str.ofString "deeds"), D.ref p1), (Sum.inr (Str.ofString "ends"), D.ref p2), (Sum.inr (Str.ofString "trips"), D.ref p3), (Sum.inr (Str.ofString "states"), D.ref p4)] = K6
  generalize [((Sum.inr (Str.ofString "form") : Key), fmD f), (Sum.inr (Str.ofString "base"), sdD b), (Sum.inr (Str.ofString "deeds"), D.ref p1), (Sum.inr (Str.ofString "ends"), D.ref p2), (Sum.inr (Str.ofString "trips"), D.ref p3)] = K5 at *
  have S6 : ∃ S6, S6 = updM (updM (updM (updM S2 p3 (.dT [])) p0 (.dK K5)) p4 (.lst (b.st.map nD))) p0 (.dK K6) ∧ S6 p0 = some (.dK K6) ∧ S6 p1 = some (.lst []) ∧ S6 p2 = some (.lst ((en0 f).map nD)) ∧ S6 p3 = some (.dT []) ∧ S6 p4 = some (.lst (b.st.map nD)) ∧ ∀ a c, μ a = some c → S6 a = some c :=
    ⟨_, rfl, updM_same, by rw [updM_ne n01.symm, updM_ne n14, updM_ne n01.symm, updM_ne n13]; exact S2b, by rw [updM_ne n02.symm, updM_ne n24, updM_ne n02.symm, updM_ne n23]; exact S2c, by rw [updM_ne n03.symm, updM_ne n34, updM_ne n03.symm]; exact updM_same, by rw [updM_ne n04.symm]; exact updM_same, ext2 h0 (ext2 f4 (ext2 h0 E3))⟩
  obtain ⟨S6, hS6, S6a, S6b, S6c, S6d, S6e, E6⟩ := S6
  rw [← hS6]
  refine lc_all (fun l => nD l.1) trivial (fun l hl Y hy => by simp [ldD]; exact hy) (by omega) ?_
  intro p5 h5
  have n05 : p0 ≠ p5 := mu_ne S6a h5
  have n15 : p1 ≠ p5 := mu_ne S6b h5
  have n25 : p2 ≠ p5 := mu_ne S6c h5
  have n35 : p3 ≠ p5 := mu_ne S6d h5
  have n45 : p4 ≠ p5 := mu_ne S6e h5
  have f5 := none_of E6 h5
  have l6 : K6.length = 6 := by rw [← hK6]; rfl
  simp only [updM_ne n05, S6a]
  refine ⟨by omega, ?_⟩
  obtain ⟨K7, hK7⟩ : ∃ K7, K7 = putD K6 (Sum.inr (Str.ofString "sent")) (D.ref p5) := ⟨_, rfl⟩
  rw [← hK7]
  have l7 : K7.length ≤ 7 := by rw [hK7]; have := putD_len K6 (Sum.inr (Str.ofString "sent")) (D.ref p5); omega
  have S8 : ∃ S8, S8 = updM (updM S6 p5 (.lst (b.ld.map fun l => nD l.1))) p0 (.dK K7) ∧ S8 p0 = some (.dK K7) ∧ S8 p1 = some (.lst []) ∧ S8 p2 = some (.lst ((en0 f).map nD)) ∧ S8 p3 = some (.dT []) ∧ S8 p4 = some (.lst (b.st.map nD)) ∧ S8 p5 = some (.lst (b.ld.map fun l => nD l.1)) ∧ ∀ a c, μ a = some c → S8 a = some c :=
    ⟨_, rfl, updM_same, by rw [updM_ne n01.symm, updM_ne n15]; exact S6b, by rw [updM_ne n02.symm, updM_ne n25]; exact S6c, by rw [updM_ne n03.symm, updM_ne n35]; exact S6d, by rw [updM_ne n04.symm, updM_ne n45]; exact S6e, by rw [updM_ne n05.symm]; exact updM_same, ext2 h0 (ext2 f5 E6)⟩
  obtain ⟨S8, hS8, S8a, S8b, S8c, S8d, S8e, S8f, E8⟩ := S8
  rw [← hS8]
  refine lc_gen (fun r acc μ2 => ∃ qs dn, acc = qs.map D.ref ∧ qs.Nodup ∧ (∀ a ∈ qs, S8 a = none) ∧ OutR qs S8 μ2 ∧ dn ++ r = b.ld ∧ qs.length = dn.length ∧ ∀ (i : Nat) (a : Addr) (l : Ld), qs[i]? = some a → dn[i]? = some l → μ2 a = some (.lst (l.2.map seD))) ?_ ?_
    ⟨[], [], rfl, by simp, by simp, fun _ _ => rfl, rfl, rfl, by simp⟩
  · rintro lo r acc μ2 Y N ⟨qs, dn, rfl, nd, hfr, ho, hd, hl, hat⟩ hY hN
    simp [-Bool.exists_bool, -Prod.exists, ldD]
    intro q1 hq1
    have hqr : q1 ∉ qs := fun hm => by
      obtain ⟨i, hi, rfl⟩ := List.mem_iff_getElem.mp hm
      have hi2 : i < dn.length := by omega
      rw [hat i _ _ (List.getElem?_eq_getElem hi) (List.getElem?_eq_getElem hi2)] at hq1
      cases hq1
    have hq0 : S8 q1 = none := by rw [← ho q1 hqr]; exact hq1
    have hdl : dn.length < b.ld.length := by rw [← hd, List.length_append, List.length_cons]; omega
    refine hY _ _ ⟨qs ++ [q1], dn ++ [lo], by simp, ?_, ?_, ?_, by rw [← hd]; simp, by simp [hl], ?_⟩ (by rw [List.length_map]; omega) trivial
    · rw [List.nodup_append]
      exact ⟨nd, by simp, fun a ha b hb e => by simp at hb; subst hb; subst e; exact hqr ha⟩
    · intro a ha
      rcases List.mem_append.mp ha with ha | ha
      · exact hfr a ha
      · simp at ha; subst ha; exact hq0
    · intro a ha
      simp at ha
      rw [updM_ne ha.2]; exact ho a ha.1
    · intro i a row' hi hi'
      rcases Nat.lt_or_ge i qs.length with h | h
      · rw [List.getElem?_append_left h] at hi
        rw [List.getElem?_append_left (by omega)] at hi'
        have hm := List.mem_of_getElem? hi
        rw [updM_ne (fun e => hqr (by rw [← e]; exact hm))]
        exact hat i a row' hi hi'
      · rw [List.getElem?_append_right h] at hi
        rw [List.getElem?_append_right (by omega)] at hi'
        have h0 : i - qs.length = 0 := by
          have := (List.getElem?_eq_some_iff.mp hi).1
          simp at this; omega
        rw [h0] at hi
        rw [show i - dn.length = 0 by omega] at hi'
        simp at hi hi'
        subst hi hi'
        exact updM_same
  · rintro acc μ2 ⟨qs, dn, rfl, nd, hfr, ho, hd, hl, hat⟩
    rw [List.append_nil] at hd
    subst hd
    have hout : ∀ {x c}, S8 x = some c → x ∉ qs := fun h hm => by rw [hfr _ hm] at h; cases h
    have T : ∀ {x c}, S8 x = some c → μ2 x = some c := fun h => by rw [ho _ (hout h)]; exact h
    intro p6 h6
    have n06 : p0 ≠ p6 := mu_ne (T S8a) h6
    have n16 : p1 ≠ p6 := mu_ne (T S8b) h6
    have n26 : p2 ≠ p6 := mu_ne (T S8c) h6
    have n36 : p3 ≠ p6 := mu_ne (T S8d) h6
    have n46 : p4 ≠ p6 := mu_ne (T S8e) h6
    have n56 : p5 ≠ p6 := mu_ne (T S8f) h6
    have h6q : p6 ∉ qs := fun hm => by
      obtain ⟨i, hi, he⟩ := List.mem_iff_getElem.mp hm
      have hi2 : i < b.ld.length := by omega
      rw [← he, hat i _ _ (List.getElem?_eq_getElem hi) (List.getElem?_eq_getElem hi2)] at h6
      cases h6
    have E2' : ∀ a c, μ a = some c → μ2 a = some c := fun a c h => T (E8 a c h)
    have f6 := none_of E2' h6
    simp only [updM_ne n06, T S8a]
    refine ⟨by omega, by omega, ?_⟩
    rw [rg0]
    have hK8 : putD K7 (Sum.inr (Str.ofString "waiting")) (D.ref p6) = wkvs f b ⟨p0, p1, p2, p3, p4, p5, p6, qs⟩ := by rw [hK7, ← hK6]; rfl
    rw [hK8]
    obtain ⟨A, hA⟩ : ∃ A : WA, A = ⟨p0, p1, p2, p3, p4, p5, p6, qs⟩ := ⟨_, rfl⟩
    rw [← hA]
    have S10 : ∃ S10, S10 = updM (updM μ2 p6 (.lst (qs.map D.ref))) p0 (.dK (wkvs f b A)) ∧ S10 p0 = some (.dK (wkvs f b A)) ∧ S10 p1 = some (.lst []) ∧ S10 p2 = some (.lst ((en0 f).map nD)) ∧ S10 p3 = some (.dT []) ∧ S10 p4 = some (.lst (b.st.map nD)) ∧ S10 p5 = some (.lst (b.ld.map fun l => nD l.1)) ∧ S10 p6 = some (.lst (qs.map D.ref)) ∧ (∀ a ∈ qs, S10 a = μ2 a) ∧ ∀ a c, μ a = some c → S10 a = some c :=
      ⟨_, rfl, updM_same, by rw [updM_ne n01.symm, updM_ne n16]; exact T S8b, by rw [updM_ne n02.symm, updM_ne n26]; exact T S8c, by rw [updM_ne n03.symm, updM_ne n36]; exact T S8d, by rw [updM_ne n04.symm, updM_ne n46]; exact T S8e, by rw [updM_ne n05.symm, updM_ne n56]; exact T S8f, by rw [updM_ne n06.symm]; exact updM_same,
        fun a ha => by rw [updM_ne (fun e => hout S8a (by rw [← e]; exact ha)), updM_ne (fun e => h6q (by rw [← e]; exact ha))], ext2 h0 (ext2 f6 E2')⟩
    obtain ⟨S10, hS10, a0, a1, a2, a3, a4, a5, a6, a7, E10⟩ := S10
    rw [← hS10]
    have q0 := hout S8a
    have q1 := hout S8b
    have q2 := hout S8c
    have q3 := hout S8d
    have q4 := hout S8e
    have q5 := hout S8f
    have hnd : A.core.Nodup := by
      rw [hA]
      simp [WA.core, n01, n02, n03, n04, n05, n06, n12, n13, n14, n15, n16, n23, n24, n25, n26, n34, n35, n36, n45, n46, n56, q0, q1, q2, q3, q4, q5, h6q]
      exact nd
    have hcore : ∀ x, x ∈ A.core ↔ x = p0 ∨ x = p1 ∨ x = p2 ∨ x = p3 ∨ x = p4 ∨ x = p5 ∨ x = p6 ∨ x ∈ qs := by
      intro x; rw [hA]; simp [WA.core]
    have hqa : ∀ (i : Nat) (a : Addr) (l : Ld), qs[i]? = some a → b.ld[i]? = some l → S10 a = some (.lst (l.2.map seD)) := fun i a l h1 h2 => by
      rw [a7 a (List.mem_of_getElem? h1)]; exact hat i a l h1 h2
    have hcsome : ∀ x ∈ A.core, ∃ c, S10 x = some c := by
      intro x hx
      rcases (hcore x).mp hx with rfl | rfl | rfl | rfl | rfl | rfl | rfl | h
      · exact ⟨_, a0⟩
      · exact ⟨_, a1⟩
      · exact ⟨_, a2⟩
      · exact ⟨_, a3⟩
      · exact ⟨_, a4⟩
      · exact ⟨_, a5⟩
      · exact ⟨_, a6⟩
      · obtain ⟨i, hi, rfl⟩ := List.mem_iff_getElem.mp h
        exact ⟨_, hqa i _ _ (List.getElem?_eq_getElem hi) (List.getElem?_eq_getElem (show i < b.ld.length by omega))⟩
    have hnone : ∀ x ∈ A.core, μ x = none := by
      intro x hx
      rcases (hcore x).mp hx with rfl | rfl | rfl | rfl | rfl | rfl | rfl | h
      · exact h0
      · exact f1
      · exact f2
      · exact f3
      · exact f4
      · exact f5
      · exact f6
      · exact none_of E8 (hfr x h)
    have hAt : A.t = p3 := by rw [hA]
    have n3c : p3 ∈ A.core := (hcore p3).mpr (by simp)
    refine for_map (fun r ρ μ' => ∃ x y z, ∃ (tk : List (List Key × D)), ρ = [some (fmD f), some (sdD b), some (.ref p0), none, x, y, z] ∧ (∀ a ∈ A.core, a ≠ p3 → μ' a = S10 a) ∧ μ' p3 = some (.dT tk) ∧ (∀ a c, μ a = some c → μ' a = some c) ∧
        (∀ kv ∈ tk, ∃ x l4, kv.2 = .ref x ∧ μ' x = some (.lst l4) ∧ l4.length = 4 ∧ x ∉ A.core ∧ ¬ PrOf μ x) ∧ (∀ (i : Nat) (l : Ld), b.ld[i]? = some l → i ∉ r → ∀ y ∈ l.2, lk (i, y.1) ∈ tk.map (·.1)) ∧ tk.length + 4 * r.length ≤ 90 ∧ ∀ a ∈ r, a < f.roads.length) ?_ ?_
      ⟨_, _, _, [], rfl, fun _ _ _ => rfl, a3, E10, by simp, fun i l h1 h2 => absurd (List.mem_range.mpr (by have := (List.getElem?_eq_some_iff.mp h1).1; omega)) h2, by simp; omega, fun a ha => List.mem_range.mp ha⟩
    · rintro a r ρ μ3 N ⟨x, y, z, tk, rfl, c1, c2, c3, c4, c5, c6, c7⟩ hN
      have har := c7 a List.mem_cons_self
      have c7' : ∀ a ∈ r, a < f.roads.length := fun b hb => c7 b (List.mem_cons_of_mem _ hb)
      obtain ⟨w, hw⟩ : ∃ w, b.ld[a]? = some w := ⟨_, List.getElem?_eq_getElem (show a < b.ld.length by omega)⟩
      obtain ⟨tr, htr⟩ : ∃ tr, f.roads[a]? = some tr := ⟨_, List.getElem?_eq_getElem har⟩
      have hw3 := hl3 w (List.mem_of_getElem? hw)
      rw [List.length_cons] at c6
      simp [-Bool.exists_bool, -Prod.exists, sdD, hw, ldD]
      refine for_map (fun t ρ μ' => ∃ y z, ∃ (tk : List (List Key × D)), ρ = [some (fmD f), some (sdD b), some (.ref p0), none, some (nD a), y, z] ∧ (∀ a ∈ A.core, a ≠ p3 → μ' a = S10 a) ∧ μ' p3 = some (.dT tk) ∧ (∀ a c, μ a = some c → μ' a = some c) ∧
          (∀ kv ∈ tk, ∃ x l4, kv.2 = .ref x ∧ μ' x = some (.lst l4) ∧ l4.length = 4 ∧ x ∉ A.core ∧ ¬ PrOf μ x) ∧ (∀ (i : Nat) (l : Ld), b.ld[i]? = some l → i ∉ a :: r → ∀ y ∈ l.2, lk (i, y.1) ∈ tk.map (·.1)) ∧ (∀ y ∈ w.2, y ∈ t ∨ lk (a, y.1) ∈ tk.map (·.1)) ∧ tk.length + t.length + 4 * r.length ≤ 89) ?_ ?_
        ⟨_, _, tk, rfl, c1, c2, c3, c4, c5, fun y hy => .inl hy, by omega⟩
      · rintro ⟨n, sg⟩ t ρ μ4 N2 ⟨y, z, tk, rfl, d1, d2, d3, d4, d5, d6, d7⟩ hN2
        rw [List.length_cons] at d7
        have hw0 : μ4 p0 = some (.dK (wkvs f b A)) := by rw [d1 p0 ((hcore p0).mpr (by simp)) n03]; exact a0
        have hvt : valD (wkvs f b A) (Sum.inr (Str.ofString "trips")) = some (.ref p3) := by rw [← hAt]; exact v_trips
        simp [-Bool.exists_bool, -Prod.exists, seD, fmD, htr, rtD]
        intro px hpx
        have hx0 : p0 ≠ px := mu_ne hw0 hpx
        have hx3 : p3 ≠ px := mu_ne d2 hpx
        have hxc : px ∉ A.core := fun h => by
          by_cases e : px = p3
          · exact hx3 e.symm
          · obtain ⟨c, hc⟩ := hcsome px h
            rw [d1 px h e, hc] at hpx; cases hpx
        have hxm := none_of d3 hpx
        simp [-Bool.exists_bool, -Prod.exists, updM_ne hx0, hw0, hvt, updM_ne hx3, d2]
        refine ⟨lk (a, n), rfl, by omega, ?_⟩
        refine hN2 _ _ trivial ⟨_, _, putD tk (lk (a, n)) (.ref px), rfl, fun u hu hu3 => ?_, updM_same, ext2 (hnone p3 n3c) (ext1 hpx d3), fun kv hkv => ?_, fun i l h1 h2 y hy => putD_keys (.inl (d5 i l h1 h2 y hy)), fun y hy => ?_, by have := putD_len tk (lk (a, n)) (.ref px); omega⟩
        · rw [updM_ne hu3, updM_ne (fun e => hxc (by rw [← e]; exact hu))]; exact d1 u hu hu3
        · rcases putD_mem hkv with e | e
          · exact ⟨px, _, e, by rw [updM_ne hx3.symm]; exact updM_same, rfl, hxc, fun h => h hxm⟩
          · obtain ⟨y, l4, g1, g2, g3, g4, g5⟩ := d4 kv e
            exact ⟨y, l4, g1, by rw [updM_ne (fun e => g4 (by rw [e]; exact n3c)), updM_ne (mu_ne g2 hpx)]; exact g2, g3, g4, g5⟩
        · rcases d6 y hy with h | h
          · rcases List.mem_cons.mp h with rfl | h
            · exact .inr (putD_keys (.inr rfl))
            · exact .inl h
          · exact .inr (putD_keys (.inl h))
      · rintro ρ μ4 ⟨y, z, tk, rfl, d1, d2, d3, d4, d5, d6, d7⟩
        refine hN _ _ trivial ⟨_, _, _, tk, rfl, d1, d2, d3, d4, fun i l h1 h2 y hy => ?_, by simp at d7; omega, c7'⟩
        by_cases e : i = a
        · subst e
          rw [hw] at h1
          cases h1
          rcases d6 y hy with h | h
          · cases h
          · exact h
        · exact d5 i l h1 (by simp [e, h2]) y hy
    · rintro ρ μ3 ⟨x, y, z, tk, rfl, c1, c2, c3, c4, c5, c6, c7⟩
      simp [-Bool.exists_bool, -Prod.exists]
      have hqs : A.qs = qs := by rw [hA]
      have hw' : A.w = p0 := by rw [hA]
      have W : WIs (PrOf μ) μ3 f b A [] b (en0 f) 100 := by
        refine ⟨?_, ?_, ?_, ?_, ?_, ?_, by rw [hqs]; exact hl, fun i a l h1 h2 => ?_, hnd, ⟨tk, by rw [hAt]; exact c2, ⟨c4, fun i l h1 y hy => c5 i l h1 (by simp) y hy⟩, by omega⟩, fun a ha hc => ha (hnone a hc), fun a ha => ?_⟩
        · rw [hw', c1 p0 ((hcore p0).mpr (by simp)) n03]; exact a0
        · rw [show A.d = p1 by rw [hA], c1 p1 ((hcore p1).mpr (by simp)) n13]; exact a1
        · rw [show A.e = p2 by rw [hA], c1 p2 ((hcore p2).mpr (by simp)) n23]; exact a2
        · rw [show A.s = p4 by rw [hA], c1 p4 ((hcore p4).mpr (by simp)) n34.symm]; exact a4
        · rw [show A.n = p5 by rw [hA], c1 p5 ((hcore p5).mpr (by simp)) n35.symm]; exact a5
        · rw [show A.q = p6 by rw [hA], hqs, c1 p6 ((hcore p6).mpr (by simp)) n36.symm]; exact a6
        · rw [hqs] at h1
          have hm := List.mem_of_getElem? h1
          rw [c1 a ((hcore a).mpr (by simp [hm])) (fun e => q3 (by rw [← e]; exact hm))]
          exact hqa i a l h1 h2
        · intro hn
          cases hx : μ a with
          | none => exact ha hx
          | some c => rw [c3 a c hx] at hn; cases hn
      have := q A μ3 W c3
      rw [hw'] at this
      exact Fg.same this
end Cs

/-! ## LwJ -/
namespace Cs
open PySem PySem.Spec PyProof.Rows L2 Dl
theorem WIs.outR {Pr : Addr → Prop} {μ μ' : Mu} {f : Fm} {b : Sd} {A : WA} {ds : List Dd} {s : Sd} {en : List Nat} {tb : Nat} {pf : Addr} (W : WIs Pr μ f b A ds s en tb) (hp : Pr pf) (o : OutR [pf] μ μ') (hs : μ' pf ≠ none) : WIs Pr μ' f b A ds s en tb := by
  obtain ⟨tk, t1, t2, t3⟩ := W.t
  obtain ⟨y1, y2, y3, y4, y5, y6, y7, y8⟩ := mem_core (W.pr pf hp)
  refine ⟨by rw [o.at1 y1.symm]; exact W.aw, by rw [o.at1 y2.symm]; exact W.ad, by rw [o.at1 y3.symm]; exact W.ae, by rw [o.at1 y5.symm]; exact W.as_, by rw [o.at1 y6.symm]; exact W.an, by rw [o.at1 y7.symm]; exact W.aq, W.ql, fun i a l h1 h2 => ?_, W.nd, ⟨tk, by rw [o.at1 y4.symm]; exact t1, ⟨fun kv hkv => ?_, t2.k⟩, t3⟩, W.pr, fun a ha => ?_⟩
  · rw [o.at1 (fun e => y8 (by rw [← e]; exact List.mem_of_getElem? h1))]; exact W.qa i a l h1 h2
  · obtain ⟨y, m4, h1, h2, h3, h4, h5⟩ := t2.v kv hkv
    exact ⟨y, m4, h1, by rw [o.at1 (fun e => h5 (by rw [e]; exact hp))]; exact h2, h3, h4, h5⟩
  · by_cases e : a = pf
    · subst e; exact hs
    · rw [o.at1 e]; exact W.al a ha
theorem WIs.ext {Pr : Addr → Prop} {μ μ' : Mu} {f : Fm} {b : Sd} {A : WA} {ds : List Dd} {s : Sd} {en : List Nat} {tb : Nat} (W : WIs Pr μ f b A ds s en tb) (go : ∀ a c, μ a = some c → μ' a = some c) : WIs Pr μ' f b A ds s en tb := by
  obtain ⟨tk, t1, t2, t3⟩ := W.t
  refine ⟨go _ _ W.aw, go _ _ W.ad, go _ _ W.ae, go _ _ W.as_, go _ _ W.an, go _ _ W.aq, W.ql, fun i a l h1 h2 => go _ _ (W.qa i a l h1 h2), W.nd, ⟨tk, go _ _ t1, ⟨fun kv hkv => ?_, t2.k⟩, t3⟩, W.pr, fun a ha hn => ?_⟩
  · obtain ⟨x, l4, h1, h2, h3, h4, h5⟩ := t2.v kv hkv
    exact ⟨x, l4, h1, go _ _ h2, h3, h4, h5⟩
  · cases hx : μ a with
    | none => exact W.al a ha hx
    | some c => rw [go a c hx] at hn; cases hn
/-! ### _law_can -/
def canW (f : Fm) (s : Sd) : Dd → Bool
  | .come r n => match f.roads[r]?, s.ld[r]? with
    | some t, some l => if t.ord = "row" then (l.2.map (·.1)).take 1 == [n] else decide (n ∈ l.2.map (·.1))
    | _, _ => false
  | _ => true
def G__law_can : DRs := fun ds μ Q => ∃ (Pr : Addr → Prop) (f : Fm) (b : Sd) (A : WA) (dds : List Dd) (s : Sd) (en : List Nat) (tb : Nat) (d : Dd), ds = [.ref A.w, ddD d] ∧ WIs Pr μ f b A dds s en tb ∧ okDd f d ∧ s.ld.length = f.roads.length ∧ (∀ l ∈ s.ld, l.2.length ≤ 200) ∧ Q (.bl (canW f s d)) μ
theorem u__law_can {Pr : Addr → Prop} {f : Fm} {b : Sd} {A : WA} {dds : List Dd} {s : Sd} {en : List Nat} {tb : Nat} {d : Dd} {μ Q} (W : WIs Pr μ f b A dds s en tb) (hd : okDd f d) (hl : s.ld.length = f.roads.length) (h2 : ∀ l ∈ s.ld, l.2.length ≤ 200) (q : Q (.bl (canW f s d)) μ) : G__law_can [.ref A.w, ddD d] μ Q := ⟨Pr, f, b, A, dds, s, en, tb, d, rfl, W, hd, hl, h2, q⟩
theorem beqDs_nat : ∀ (a b : List Nat), beqDs (a.map nD) (b.map nD) = (a == b)
  | [], [] => rfl
  | [], _ :: _ => rfl
  | _ :: _, [] => rfl
  | a :: r, b :: t => by
    rw [List.map_cons, List.map_cons]
    show (((a : Int) == (b : Int)) && beqDs (r.map nD) (t.map nD)) = _
    rw [beqDs_nat r t, beq_nat]
    rfl
theorem d__law_can (ds μ Q) (h : G__law_can ds μ Q) : Body t__law_can 4 ds μ Q := by
  obtain ⟨Pr, f, b, A, dds, s, en, tb, d, rfl, W, ok, hl, h200, q⟩ := h
  have hz : 200000 ≤ sizeLine := by decide
  cases d with
  | own m => have q := Fg.same q; simp [Body, t__law_can, ddD]; exact q
  | hear m c => have q := Fg.same q; simp [Body, t__law_can, ddD]; exact q
  | come r n =>
    have ok : r < f.roads.length := ok
    obtain ⟨t, e1⟩ : ∃ t, f.roads[r]? = some t := ⟨_, List.getElem?_eq_getElem ok⟩
    obtain ⟨l, e2⟩ : ∃ l, s.ld[r]? = some l := ⟨_, List.getElem?_eq_getElem (show r < s.ld.length by omega)⟩
    obtain ⟨qa, eq⟩ : ∃ qa, A.qs[r]? = some qa := ⟨_, List.getElem?_eq_getElem (show r < A.qs.length by rw [W.ql]; omega)⟩
    have hqa := W.qa r qa l eq e2
    have hll := h200 l (List.mem_of_getElem? e2)
    simp only [canW, e1, e2] at q
    simp [-Bool.exists_bool, -Prod.exists, Body, t__law_can, ddD, W.aw, v_waiting, W.aq, eq, hqa]
    refine lc_all (fun x => nD x.1) hqa (fun x hx Y hy => by simp [seD]; exact hy) (by omega) ?_
    rw [show l.2.map (fun x => nD x.1) = (l.2.map (·.1)).map nD by rw [List.map_map]; rfl]
    generalize l.2.map (·.1) = ns at q ⊢
    intro p1 h1
    have hwp : A.w ≠ p1 := mu_ne W.aw h1
    have E1 := ext1 (c := .lst (ns.map nD)) h1 (ext0 (μ := μ))
    simp [-Bool.exists_bool, -Prod.exists, updM_ne hwp, W.aw, v_form]
    simp [-Bool.exists_bool, -Prod.exists, fmD, e1, rtD]
    by_cases hh : t.ord = "row"
    · rw [if_pos hh] at q
      simp [-Bool.exists_bool, -Prod.exists, hh, lstOf]
      intro p2 h2 p3 h3
      rw [show (some (1 : Int)) = some ((1 : Nat) : Int) from rfl, cutA_take, ← List.map_take] at h3 ⊢
      have n23 : p2 ≠ p3 := fun e => by subst e; simp at h3
      have hb := beqDs_nat (ns.take 1) [n]
      have o1 := okDs_int 20 (ns.take 1)
      have o2 := okDs_int 20 [n]
      simp only [List.map_cons, List.map_nil] at hb o2
      simp [-Bool.exists_bool, -Prod.exists, updM_ne n23, lstOf, hb, o2]
      rw [← List.map_take]
      refine ⟨o1, ?_⟩
      rw [hb]
      exact Fg.of q (ext1 h3 (ext1 h2 E1))
    · rw [if_neg hh] at q
      simp [-Bool.exists_bool, -Prod.exists, hh]
      refine ⟨ns.map (fun (n : Nat) => (n : Int)), int_map ns, ?_⟩
      have : decide ((n : Int) ∈ ns.map (fun (n : Nat) => (n : Int))) = decide (n ∈ ns) := by
        congr 1
        apply propext
        constructor
        · intro h
          obtain ⟨x, hx, he⟩ := List.mem_map.mp h
          have : x = n := by omega
          rw [← this]; exact hx
        · intro h; exact List.mem_map.mpr ⟨n, h, rfl⟩
      first | rw [this] | skip
      exact Fg.of q E1
end Cs

/-! ## LwK -/
namespace Cs
open PySem PySem.Spec PyProof.Rows L2 Dl
/-! ### _law_deed -/
def ValD (f : Fm) (s : Sd) : Dd → Prop
  | .own m => ∃ r st, f.rules[m]? = some r ∧ s.st[m]? = some st ∧ (mvL r.2 st "own").isSome = true
  | .hear m c => m < f.rules.length ∧ isS c
  | .come r n => r < f.roads.length ∧ canW f s (.come r n) = true
theorem bqs_nil {α : Type} {e : α → D} (l : List α) : beqDs (l.map e) [] = l.isEmpty := by cases l <;> rfl
def G__law_deed : DRs := fun ds μ Q => ∃ (pf pc : Addr) (k : Nat) (Pr : Addr → Prop) (f : Fm) (b : Sd) (A : WA) (dds : List Dd) (s : Sd) (en : List Nat) (tb : Nat), ds = [.ref pf, .ref A.w] ∧ Fd pf pc k μ ∧ k < 10000000 ∧ Pr pf ∧ WIs Pr μ f b A dds s en tb ∧ OkS f s ∧ 0 < f.rules.length ∧ en.length = f.rules.length ∧ (∀ l ∈ s.ld, l.2.length ≤ 200) ∧ SgOk s ∧
  ∀ d μ', ValD f s d → Fd pf pc (k + 10) μ' → OutR [pf] μ μ' → Q (ddD d) μ'
theorem u__law_deed {pf pc : Addr} {k : Nat} {Pr : Addr → Prop} {f : Fm} {b : Sd} {A : WA} {dds : List Dd} {s : Sd} {en : List Nat} {tb : Nat} {μ Q} (hF : Fd pf pc k μ) (hk : k < 10000000) (hp : Pr pf) (W : WIs Pr μ f b A dds s en tb) (o : OkS f s) (h0 : 0 < f.rules.length) (he : en.length = f.rules.length) (h2 : ∀ l ∈ s.ld, l.2.length ≤ 200) (hs : SgOk s)
  (q : ∀ d μ', ValD f s d → Fd pf pc (k + 10) μ' → OutR [pf] μ μ' → Q (ddD d) μ') : G__law_deed [.ref pf, .ref A.w] μ Q := ⟨pf, pc, k, Pr, f, b, A, dds, s, en, tb, rfl, hF, hk, hp, W, o, h0, he, h2, hs, q⟩
theorem d__law_deed (ds μ Q) (h : G__law_deed ds μ Q) : Body (t__law_deed G__law_draw G__law_move) 6 ds μ Q := by
  obtain ⟨pf, pc, k, Pr, f, b, A, dds, s, en, tb, rfl, hF, hk, hpf, W, o, hr0, hen, h200, hsg, q⟩ := h
  have hz : 200000 ≤ sizeLine := by decide
  have hqn : A.qs.length = f.roads.length := by rw [W.ql]; exact o.ld
  have hr10 := o.r2
  have hru := o.r1
  simp [-Bool.exists_bool, -Prod.exists, Body, t__law_deed, W.aw, v_waiting, W.aq, hqn]
  refine ⟨by omega, ?_⟩
  rw [rg0]
  refine lc_gen (fun r acc μ2 => ∃ dn : List Nat, acc = dn.map nD ∧ (∀ a c, μ a = some c → μ2 a = some c) ∧ dn.length + r.length ≤ 10 ∧ (∀ i ∈ r, i < f.roads.length) ∧ ∀ i ∈ dn, ∃ l, s.ld[i]? = some l ∧ l.2 ≠ []) ?_ ?_ ⟨[], rfl, ext0, by simp; omega, fun i hi => List.mem_range.mp hi, by simp⟩
  · rintro i r acc μ2 Y N ⟨dn, rfl, e, hl, hi, hd⟩ hY hN
    rw [List.length_cons] at hl
    have hil := hi i List.mem_cons_self
    have hi' : ∀ i ∈ r, i < f.roads.length := fun j hj => hi j (List.mem_cons_of_mem _ hj)
    have W2 := W.ext e
    obtain ⟨l, el⟩ : ∃ l, s.ld[i]? = some l := ⟨_, List.getElem?_eq_getElem (show i < s.ld.length by rw [o.ld]; exact hil)⟩
    obtain ⟨qa, eq⟩ : ∃ qa, A.qs[i]? = some qa := ⟨_, List.getElem?_eq_getElem (show i < A.qs.length by omega)⟩
    have hqa := W2.qa i qa l eq el
    have ok1 : okDs 20 (l.2.map seD) = true := okDs_se (hsg l (List.mem_of_getElem? el))
    simp [-Bool.exists_bool, -Prod.exists, W2.aw, v_waiting, W2.aq, eq]
    intro p1 h1
    have n1 : qa ≠ p1 := mu_ne hqa h1
    simp [-Bool.exists_bool, -Prod.exists, updM_ne n1, hqa, lstOf, ok1, bqs_nil]
    by_cases hn : l.2 = []
    · simp [hn]
      exact hN _ ⟨dn, rfl, ext1 h1 e, by omega, hi', hd⟩ trivial
    · have : l.2.isEmpty = false := by simpa using hn
      simp [this, hn]
      refine hY _ _ ⟨dn ++ [i], by rw [List.map_append]; rfl, ext1 h1 e, by rw [List.length_append, List.length_singleton]; omega, hi', fun j hj => ?_⟩ (by rw [List.length_map]; omega) trivial
      rcases List.mem_append.mp hj with hj | hj
      · exact hd j hj
      · simp at hj; subst hj; exact ⟨l, el, hn⟩
  · rintro acc μ2 ⟨dn, rfl, e, hl, hi, hd⟩
    rw [List.length_nil] at hl
    have back : ∀ (d : Dd) (μ' : Mu) (kk : Nat), Fd pf pc kk μ' → kk ≤ k + 10 → ExtF pf μ μ' → ValD f s d → Fg Q (ddD d) μ' := fun d μ' kk f1 hkk e1 v => (f1.mono hkk).back hF e1 fun μ'' g1 g2 => q d μ'' v g1 g2
    -- the deed of one machine
    have rest : ∀ (μ3 : Mu) (kk : Nat) (p : Addr) (x y : Option D), Fd pf pc kk μ3 → kk ≤ k + 4 → ExtF pf μ μ3 →
        aSeq (aAsg (aCall G__law_draw (aCons (aVar 0) (aCons (aCall rLenD (aCons (aOp rIxD (aVar 1) (aC (.str "ends"))) aNil)) aNil))) (aName 5)) (aSeq (aIfS (aAnd (aTest (aOp (rIs true) (aCall G__law_move (aCons (aVar 1) (aCons (aVar 5) (aCons (aC (.str "own")) aNil)))) (aC .non))) (aTest (aOp (rGt) (aCall G__law_draw (aCons (aVar 0) (aCons (aC (.int 3)) aNil))) (aC (.int 0))))) (aRet (aTup (aCons (aC (.str "own")) (aCons (aVar 5) aNil)))) aNext)
          (aRet (aTup (aCons (aC (.str "hear")) (aCons (aVar 5) (aCons (aOp rIxD (aC (.str "abc")) (aCall G__law_draw (aCons (aVar 0) (aCons (aC (.int 3)) aNil)))) aNil)))))) { nx := fun _ μ' => Fg Q .non μ', rt := fun d μ' => Fg Q d μ' } [some (.ref pf), some (.ref A.w), some (.ref p), x, y, none] μ3 := by
      intro μ3 kk p x y f3 hkk e3
      have W3 : ∀ {μ' : Mu} {j : Nat}, Fd pf pc j μ' → ExtF pf μ μ' → μ' A.w = some (.dK (wkvs f b A)) ∧ μ' A.e = some (.lst (en.map nD)) ∧ μ' A.s = some (.lst (s.st.map nD)) := fun {μ' j} f' e' => by
        obtain ⟨y1, y2, y3, y4, y5, y6, y7, y8⟩ := mem_core (W.pr pf hpf)
        exact ⟨e' _ _ y1.symm W.aw, e' _ _ y3.symm W.ae, e' _ _ y5.symm W.as_⟩
      have WF : ∀ {μ' : Mu} {j : Nat}, Fd pf pc j μ' → ExtF pf μ μ' → WIs Pr μ' f b A dds s en tb := fun {μ' j} f' e' => by
        obtain ⟨c, hc⟩ := f'.at1
        have Wa : WIs Pr (updM μ pf c) f b A dds s en tb := W.outR hpf outR1 (by rw [updM_same]; simp)
        refine Wa.ext fun a d h => ?_
        by_cases ha : a = pf
        · subst ha; rw [updM_same] at h; rw [hc]; exact h
        · rw [updM_ne ha] at h; exact e' _ _ ha h
      obtain ⟨w1, w2, w3⟩ := W3 f3 e3
      simp [-Bool.exists_bool, -Prod.exists, w1, v_ends, w2]
      refine u__law_draw f3 (by omega) (by omega) (by omega) fun m hm μ4 f4 o4 => ?_
      have e4 := e3.out o4
      have hmr : m < f.rules.length := by omega
      obtain ⟨r, er⟩ : ∃ r, f.rules[m]? = some r := ⟨_, List.getElem?_eq_getElem hmr⟩
      obtain ⟨st, es⟩ : ∃ st, s.st[m]? = some st := ⟨_, List.getElem?_eq_getElem (show m < s.st.length by rw [o.st]; exact hmr)⟩
      have hear : ∀ (μ5 : Mu) (kk : Nat), Fd pf pc kk μ5 → kk ≤ k + 6 → ExtF pf μ μ5 → G__law_draw [.ref pf, .int 3] μ5 fun x μ1 => rIxD (.str "abc") x μ1 fun d μ1 => Fg Q (.tup [.str "hear", nD m, d]) μ1 := by
        intro μ5 kk f5 hkk e5
        refine u__law_draw (n := 3) f5 (by omega) (by omega) (by omega) fun v hv μ6 f6 o6 => ?_
        obtain ⟨c, hc1, hc2⟩ := abc_at hv
        refine ⟨_, c, rfl, abc_len, hc1, ?_⟩
        exact back (.hear m ⟨#[c]⟩) μ6 _ f6 (by omega) (e5.out o6) ⟨hmr, hc2⟩
      refine u__law_move (WF f4 e4) er es ?_
      cases hmv : mvL r.2 st "own" with
      | none =>
        simp [-Bool.exists_bool, -Prod.exists]
        exact hear μ4 _ f4 (by omega) e4
      | some a =>
        simp [-Bool.exists_bool, -Prod.exists, asD]
        refine u__law_draw (n := 3) f4 (by omega) (by omega) (by omega) fun v hv μ5 f5 o5 => ?_
        by_cases h0 : 0 < v
        · simp [-Bool.exists_bool, -Prod.exists, h0]
          exact back (.own m) μ5 _ f5 (by omega) (e4.out o5) ⟨r, st, er, es, by rw [hmv]; rfl⟩
        · simp [-Bool.exists_bool, -Prod.exists, h0]
          exact hear μ5 _ f5 (by omega) (e4.out o5)
    intro p hp p2 h2
    have f2 := hF.keep (μ' := μ2) (by obtain ⟨c, hc⟩ := hF.at1; rw [hc, e _ _ hc]) (by obtain ⟨c, hc⟩ := hF.at2; rw [hc, e _ _ hc])
    have n2 : p ≠ p2 := fun e => by subst e; simp at h2
    have ok1 := okDs_int 20 dn
    have f4 := (f2.new (c := .lst (dn.map nD)) hp).new (c := .lst []) h2
    have e4 : ExtF pf μ (updM (updM μ2 p (.lst (dn.map nD))) p2 (.lst [])) := fun a c _ h => ext1 h2 (ext1 hp e) a c h
    have pp : updM (updM μ2 p (.lst (dn.map nD))) p2 (.lst []) p = some (.lst (dn.map nD)) := by rw [updM_ne n2]; exact updM_same
    generalize updM (updM μ2 p (.lst (dn.map nD))) p2 (.lst []) = μ4 at f4 e4 pp ⊢
    refine ⟨dn.map nD, by rw [pp]; rfl, [], rfl, ok1, okDs_nil 20, ?_⟩
    rw [bqs_nil]
    by_cases hdn : dn = []
    · subst hdn
      refine ⟨false, rfl, ?_⟩
      rw [if_neg (by simp)]
      have := rest μ4 k p none none f4 (by omega) e4
      simpa [-Bool.exists_bool, -Prod.exists] using this
    · refine ⟨true, by simpa using hdn, ?_⟩
      rw [if_pos rfl]
      refine u__law_draw (n := 5) f4 (by omega) (by omega) (by omega) fun v hv μ5 f5 o5 => ?_
      have hpf2 := f2.ne1 hp
      have e5 := e4.out o5
      have pp5 : μ5 p = some (.lst (dn.map nD)) := by rw [o5.at1 hpf2]; exact pp
      refine ⟨(v : Int), 1, rfl, rfl, trivial, _, rfl, ?_⟩
      by_cases hv1 : (1 : Int) < (v : Int)
      · rw [if_pos (by simpa using hv1)]
        refine ⟨_, pp5, ?_⟩
        rw [List.length_map]
        have hdl : 0 < dn.length := List.length_pos_iff.mpr hdn
        refine u__law_draw f5 (by omega) hdl (by omega) fun v2 hv2 μ6 f6 o6 => ?_
        have e6 := e5.out o6
        have pp6 : μ6 p = some (.lst (dn.map nD)) := by rw [o6.at1 hpf2]; exact pp5
        have ev := List.getElem?_eq_getElem hv2
        have mv := List.getElem_mem hv2
        generalize dn[v2] = road at ev mv
        obtain ⟨l, el, hle⟩ := hd road mv
        have hrl : road < f.roads.length := by rw [← o.ld]; exact (List.getElem?_eq_some_iff.mp el).1
        obtain ⟨tr, etr⟩ : ∃ tr, f.roads[road]? = some tr := ⟨_, List.getElem?_eq_getElem hrl⟩
        obtain ⟨qa, eq⟩ : ∃ qa, A.qs[road]? = some qa := ⟨_, List.getElem?_eq_getElem (show road < A.qs.length by omega)⟩
        have hqa := W.qa road qa l eq el
        obtain ⟨y1, y2, y3, y4, y5, y6, y7, y8⟩ := mem_core (W.pr pf hpf)
        have hqf : qa ≠ pf := fun e => y8 (by rw [← e]; exact List.mem_of_getElem? eq)
        have hll := h200 l (List.mem_of_getElem? el)
        have hl0 : 0 < l.2.length := List.length_pos_iff.mpr hle
        have w6 := e6 _ _ y1.symm W.aw
        have q6 := e6 _ _ y7.symm W.aq
        have a6 := e6 _ _ hqf hqa
        simp [-Bool.exists_bool, -Prod.exists, pp6, ev, w6, v_form]
        simp [-Bool.exists_bool, -Prod.exists, fmD, etr, rtD]
        have fin : ∀ (μ7 : Mu) (kk at_ : Nat), Fd pf pc kk μ7 → kk ≤ k + 9 → ExtF pf μ μ7 → at_ < l.2.length → (tr.ord = "heap" ∨ at_ = 0) → ∃ y, l.2[at_]? = some y ∧ Fg Q (.tup [.str "come", nD road, nD y.1]) μ7 := by
          intro μ7 kk at_ f7 hkk e7 hat hh
          refine ⟨_, List.getElem?_eq_getElem hat, ?_⟩
          refine back (.come road l.2[at_].1) μ7 kk f7 (by omega) e7 ⟨hrl, ?_⟩
          simp only [canW, etr, el]
          rcases hh with hh | rfl
          · rw [if_neg (by rw [hh]; simp)]
            exact decide_eq_true (List.mem_map.mpr ⟨_, List.getElem_mem hat, rfl⟩)
          · split
            · exact take1_at l.2 hat
            · exact decide_eq_true (List.mem_map.mpr ⟨_, List.getElem_mem hat, rfl⟩)
        by_cases hh : tr.ord = "heap"
        · simp [-Bool.exists_bool, -Prod.exists, hh, w6, v_waiting, q6, eq, a6]
          refine u__law_draw f6 (by omega) hl0 (by omega) fun v3 hv3 μ7 f7 o7 => ?_
          have e7 := e6.out o7
          have w7 := e7 _ _ y1.symm W.aw
          have q7 := e7 _ _ y7.symm W.aq
          have a7 := e7 _ _ hqf hqa
          obtain ⟨y, hy, fy⟩ := fin μ7 _ v3 f7 (by omega) e7 hv3 (.inl hh)
          simp [-Bool.exists_bool, -Prod.exists, w7, v_waiting, q7, eq, a7, hy, seD]
          exact fy
        · obtain ⟨y, hy, fy⟩ := fin μ6 _ 0 f6 (by omega) e6 hl0 (.inr rfl)
          simp [-Bool.exists_bool, -Prod.exists, hh, w6, v_waiting, q6, eq, a6, hy, seD]
          exact fy
      · rw [if_neg (by simpa using hv1)]
        have := rest μ5 _ p none none f5 (by omega) e5
        simpa [-Bool.exists_bool, -Prod.exists] using this
end Cs

/-! ## LwL -/
namespace Cs
open PySem PySem.Spec PyProof.Rows L2 Dl
structure OkRow (n : Nat) (r : Bool × List Nat) : Prop where
  ft : r.1 = true
  z : ∃ t, r.2 = 0 :: t
  inc : r.2.Pairwise (· < ·)
  le : ∀ x ∈ r.2, x ≤ n
structure OkCho (en : List Nat) (cs : Cho) : Prop where
  len : cs.length = en.length
  row : ∀ (i : Nat) (r : Bool × List Nat) (n : Nat), cs[i]? = some r → en[i]? = some n → OkRow n r
theorem rg1 (n : Nat) : rgD 1 n = ((List.range n).map (1 + ·)).map nD := by
  rw [rgD_map, List.map_map]
  refine List.map_congr_left fun i _ => ?_
  show D.int _ = D.int _
  congr 1
def G__law_choices : DRs := fun ds μ Q => ∃ (pf pc : Addr) (k : Nat) (Pr : Addr → Prop) (f : Fm) (b : Sd) (A : WA) (dds : List Dd) (s : Sd) (en : List Nat) (tb : Nat), ds = [.ref pf, .ref A.w] ∧ Fd pf pc k μ ∧ k < 10000000 ∧ Pr pf ∧ WIs Pr μ f b A dds s en tb ∧ en.length ≤ 4 ∧ (∀ n ∈ en, n ≤ 100) ∧
  ∀ cs μ', OkCho en cs → Fd pf pc (k + 1000) μ' → OutR [pf] μ μ' → Q (choD cs) μ'
theorem u__law_choices {pf pc : Addr} {k : Nat} {Pr : Addr → Prop} {f : Fm} {b : Sd} {A : WA} {dds : List Dd} {s : Sd} {en : List Nat} {tb : Nat} {μ Q} (hF : Fd pf pc k μ) (hk : k < 10000000) (hp : Pr pf) (W : WIs Pr μ f b A dds s en tb) (h4 : en.length ≤ 4) (h100 : ∀ n ∈ en, n ≤ 100)
  (q : ∀ cs μ', OkCho en cs → Fd pf pc (k + 1000) μ' → OutR [pf] μ μ' → Q (choD cs) μ') : G__law_choices [.ref pf, .ref A.w] μ Q := ⟨pf, pc, k, Pr, f, b, A, dds, s, en, tb, rfl, hF, hk, hp, W, h4, h100, q⟩
theorem d__law_choices (ds μ Q) (h : G__law_choices ds μ Q) : Body (t__law_choices G__law_draw) 6 ds μ Q := by
  obtain ⟨pf, pc, k, Pr, f, b, A, dds, s, en, tb, rfl, hF, hk, hpf, W, h4, h100, q⟩ := h
  have hz : 200000 ≤ sizeLine := by decide
  obtain ⟨y1, y2, y3, y4, y5, y6, y7, y8⟩ := mem_core (W.pr pf hpf)
  simp [-Bool.exists_bool, -Prod.exists, Body, t__law_choices]
  refine u__law_draw (n := 4) hF (by omega) (by omega) (by omega) fun so hso μ1 f1 o1 => ?_
  have e1 := ExtF.refl.out o1
  have w1 := e1 _ _ y1.symm W.aw
  have a1 := e1 _ _ y3.symm W.ae
  simp [-Bool.exists_bool, -Prod.exists]
  intro pr hpr
  have hrf := f1.ne1 hpr
  have hrc := f1.ne2 hpr
  have hr0 := e1.none hrf hpr
  have nwr : A.w ≠ pr := mu_ne w1 hpr
  have ner : A.e ≠ pr := mu_ne a1 hpr
  simp [-Bool.exists_bool, -Prod.exists, updM_ne nwr, w1, v_ends, updM_ne ner, a1]
  rw [show ((2 : Int) + (so : Int)) = ((2 + so : Nat) : Int) by omega]
  refine for_map (fun r ρ μ' => ∃ x, ∃ (cs : Cho) (k' : Nat), ρ = [some (.ref pf), some (.ref A.w), some (nD (2 + so)), some (.ref pr), x, none] ∧ Fd pf pc k' μ' ∧ ExtF pf μ μ' ∧ μ' pr = some (.lst (cs.map rwD)) ∧ k' + 110 * r.length ≤ k + 500 ∧ cs.length + r.length = en.length ∧ r = en.drop cs.length ∧ (∀ (i : Nat) (r : Bool × List Nat) (n : Nat), cs[i]? = some r → en[i]? = some n → OkRow n r)) ?_ ?_
    ⟨_, [], k + 1, rfl, f1.new hpr, e1.new hpr, updM_same, by omega, by simp, rfl, by simp⟩
  · rintro n r ρ μ2 N ⟨x, cs, k', rfl, f2, e2, m2, hk', hlen, hdr, hok⟩ hN
    rw [List.length_cons] at hk' hlen
    have hlt : cs.length < en.length := by omega
    rw [List.drop_eq_getElem_cons hlt] at hdr
    obtain ⟨hn, hdr'⟩ := List.cons.inj hdr
    have hen : en[cs.length]? = some n := by rw [List.getElem?_eq_getElem hlt, ← hn]
    have hn100 := h100 n (List.mem_of_getElem? hen)
    have a2 := e2 _ _ y3.symm W.ae
    simp [-Bool.exists_bool, -Prod.exists, m2]
    refine ⟨_, _, ⟨rfl, rfl⟩, by omega, ?_⟩
    rw [show ((n : Int) + 1 - 1).toNat = n by omega, rg1]
    refine lc_gen (fun t acc μ6 => ∃ (dn : List Nat) (k6 : Nat), acc = dn.map nD ∧ Fd pf pc k6 μ6 ∧ ExtF pf μ μ6 ∧ μ6 pr = some (.lst (cs.map rwD)) ∧ (dn ++ t).Sublist ((List.range n).map (1 + ·)) ∧ k6 + t.length ≤ k' + 105) ?_ ?_ ⟨[], k', rfl, f2, e2, m2, List.Sublist.refl _, by simp; omega⟩
    · rintro p t acc μ6 Y N2 ⟨dn, k6, rfl, f6, e6, m6, hd, hk6⟩ hY hN2
      rw [List.length_cons] at hk6
      have hdl : dn.length ≤ 100 := by have := hd.length_le; rw [List.length_append, List.length_map, List.length_range] at this; omega
      simp [-Bool.exists_bool, -Prod.exists]
      refine u__law_draw (n := 2 + so) f6 (by omega) (by omega) (by omega) fun v hv μ7 f7 o7 => ?_
      have m7 : μ7 pr = some (.lst (cs.map rwD)) := by rw [o7.at1 hrf]; exact m6
      by_cases hv0 : v = 0
      · subst hv0
        simp [-Bool.exists_bool, -Prod.exists]
        exact hY _ _ ⟨dn ++ [p], k6 + 1, by rw [List.map_append]; rfl, f7, e6.out o7, m7, by simpa using hd, by omega⟩ (by rw [List.length_map]; omega) trivial
      · simp [-Bool.exists_bool, -Prod.exists, hv0]
        exact hN2 _ ⟨dn, k6 + 1, rfl, f7, e6.out o7, m7, (List.Sublist.append (List.Sublist.refl dn) (List.sublist_cons_self p t)).trans hd, by omega⟩ trivial
    · rintro acc μ6 ⟨dn, k6, rfl, f6, e6, m6, hd, hk6⟩
      rw [List.append_nil] at hd
      rw [List.length_nil] at hk6
      have hdl : dn.length ≤ 100 := by have := hd.length_le; rw [List.length_map, List.length_range] at this; omega
      refine ⟨[.int 0], dn.map nD, rfl, rfl, by simp, by rw [List.length_map]; simp; omega, ?_⟩
      refine ⟨_, m6, by rw [List.length_map]; omega, ?_⟩
      have hinc : ((List.range n).map (1 + ·)).Pairwise (· < ·) := by
        rw [List.pairwise_map]
        exact List.pairwise_lt_range.imp fun h => by omega
      have hmem : ∀ x ∈ dn, 1 ≤ x ∧ x ≤ n := fun x hx => by
        obtain ⟨i, hi, rfl⟩ := List.mem_map.mp (hd.subset hx)
        have := List.mem_range.mp hi
        omega
      refine hN _ _ (by rw [updM_ne ner]; exact e6 _ _ y3.symm W.ae) ⟨_, cs ++ [(true, 0 :: dn)], k6, rfl, f6.upd hrf hrc, e6.put hr0, by rw [updM_same, List.map_append]; rfl, by omega, by rw [List.length_append, List.length_singleton]; omega, by rw [List.length_append, List.length_singleton]; exact hdr', fun i rr m hr hm => ?_⟩
      rcases Nat.lt_or_ge i cs.length with h | h
      · rw [List.getElem?_append_left h] at hr
        exact hok i rr m hr hm
      · rw [List.getElem?_append_right h] at hr
        have h0 : i - cs.length = 0 := by
          have := (List.getElem?_eq_some_iff.mp hr).1
          simp at this; omega
        rw [h0] at hr
        simp at hr
        subst hr
        rw [show i = cs.length by omega, hen] at hm
        cases hm
        refine ⟨rfl, ⟨dn, rfl⟩, ?_, fun x hx => ?_⟩
        · show (0 :: dn).Pairwise (· < ·)
          rw [List.pairwise_cons]
          exact ⟨fun x hx => by have := hmem x hx; omega, hinc.sublist hd⟩
        · rcases List.mem_cons.mp hx with rfl | hx
          · omega
          · exact (hmem x hx).2
  · rintro ρ μ2 ⟨x, cs, k', rfl, f2, e2, m2, hk', hlen, hdr, hok⟩
    rw [List.length_nil] at hk' hlen
    simp [-Bool.exists_bool, -Prod.exists, m2]
    exact (f2.mono (j := k + 1000) (by omega)).back hF e2 fun μ'' g1 g2 => q cs μ'' ⟨by omega, hok⟩ g1 g2
/-! ### _law_wanted -/
structure OkWtd (cs : Cho) (ws : Wtd) : Prop where
  nd : (ws.map (·.1)).Nodup
  mem : ∀ x ∈ ws, x.1 < cs.length ∧ x.2 ∈ rowOf cs x.1
def G__law_wanted : DRs := fun ds μ Q => ∃ (pf pc : Addr) (k : Nat) (cs : Cho), ds = [.ref pf, choD cs] ∧ Fd pf pc k μ ∧ k < 10000000 ∧ cs.length ≤ 4 ∧ (∀ r ∈ cs, 0 < r.2.length ∧ r.2.length ≤ 1000) ∧
  ∀ pd ws μ', OkWtd cs ws → μ' pd = some (.dK (ws.map wcD)) → Fd pf pc (k + 20) μ' → ExtF pf μ μ' → μ pd = none → Q (.ref pd) μ'
theorem u__law_wanted {pf pc : Addr} {k : Nat} {cs : Cho} {μ Q} (hF : Fd pf pc k μ) (hk : k < 10000000) (h4 : cs.length ≤ 4) (hr : ∀ r ∈ cs, 0 < r.2.length ∧ r.2.length ≤ 1000)
  (q : ∀ pd ws μ', OkWtd cs ws → μ' pd = some (.dK (ws.map wcD)) → Fd pf pc (k + 20) μ' → ExtF pf μ μ' → μ pd = none → Q (.ref pd) μ') : G__law_wanted [.ref pf, choD cs] μ Q := ⟨pf, pc, k, cs, rfl, hF, hk, h4, hr, q⟩
theorem d__law_wanted (ds μ Q) (h : G__law_wanted ds μ Q) : Body (t__law_wanted G__law_draw) 4 ds μ Q := by
  obtain ⟨pf, pc, k, cs, rfl, hF, hk, h4, hr, q⟩ := h
  have hz : 200000 ≤ sizeLine := by decide
  simp [-Bool.exists_bool, -Prod.exists, Body, t__law_wanted]
  intro pd hpd
  have hdf := hF.ne1 hpd
  have hdc := hF.ne2 hpd
  simp [-Bool.exists_bool, -Prod.exists, choD]
  refine ⟨by omega, ?_⟩
  rw [rg0]
  refine for_map (fun r ρ μ' => ∃ x, ∃ (ws : Wtd) (k' : Nat), ρ = [some (.ref pf), some (choD cs), some (.ref pd), x] ∧ Fd pf pc k' μ' ∧ ExtF pf μ μ' ∧ μ' pd = some (.dK (ws.map wcD)) ∧ k' + 3 * r.length ≤ k + 15 ∧ OkWtd cs ws ∧ (∀ m ∈ r, m < cs.length) ∧ ws.length + r.length ≤ 4) ?_ ?_
    ⟨_, [], k, rfl, hF.new hpd, ExtF.refl.new hpd, updM_same, by simp; omega, ⟨by simp, by simp⟩, fun m hm => List.mem_range.mp hm, by simpa using h4⟩
  · rintro m r ρ μ2 N ⟨x, ws, k', rfl, f2, e2, m2, hk', ok, hm, hwl⟩ hN
    rw [List.length_cons] at hk' hwl
    have hml := hm m List.mem_cons_self
    have hm' : ∀ m ∈ r, m < cs.length := fun j hj => hm j (List.mem_cons_of_mem _ hj)
    obtain ⟨row, er, erm, ero⟩ := row_at hml
    obtain ⟨r0, r1⟩ := hr row erm
    simp [-Bool.exists_bool, -Prod.exists]
    refine u__law_draw (n := 2) f2 (by omega) (by omega) (by omega) fun v hv μ3 f3 o3 => ?_
    have m3 : μ3 pd = some (.dK (ws.map wcD)) := by rw [o3.at1 hdf]; exact m2
    have e3 := e2.out o3
    by_cases hv0 : v = 0
    · subst hv0
      have go : ∀ (d : D), d = rwD row → rLenD [d] μ3 fun x μ1 => G__law_draw [.ref pf, x] μ1 fun y μ2 => rIxD d y μ2 fun d2 μ1 => setD (.ref pd) (nD m) d2 μ1 fun μ4 => N [some (.ref pf), some (choD cs), some (.ref pd), some (nD m)] μ4 := by
        intro d hd
        have go2 : G__law_draw [.ref pf, nD row.2.length] μ3 fun y μ2 => rIxD d y μ2 fun d2 μ1 => setD (.ref pd) (nD m) d2 μ1 fun μ4 => N [some (.ref pf), some (choD cs), some (.ref pd), some (nD m)] μ4 := by
          refine u__law_draw f3 (by omega) r0 (by omega) fun w hw μ4 f4 o4 => ?_
          have m4 : μ4 pd = some (.dK (ws.map wcD)) := by rw [o4.at1 hdf]; exact m3
          have ev := List.getElem?_eq_getElem hw
          have mv := List.getElem_mem hw
          generalize row.2[w] = c at ev mv
          have fin : setD (.ref pd) (nD m) (nD c) μ4 fun μ4 => N [some (.ref pf), some (choD cs), some (.ref pd), some (nD m)] μ4 := by
            rw [s_setD, m4]
            refine ⟨kN m, rfl, by rw [List.length_map]; omega, ?_⟩
            have hput := put_map kN_inj (g := nD) ws m c
            have hput : putD (ws.map wcD) (kN m) (nD c) = (putA ws m c).map wcD := hput
            rw [hput]
            have hpl : (putA ws m c).length ≤ ws.length + 1 := by unfold putA; split <;> simp
            refine hN _ _ trivial ⟨_, putA ws m c, k' + 2, rfl, f4.upd hdf hdc, (e3.out o4).put hpd, updM_same, by omega, ⟨putA_nodup ok.nd, fun y hy => ?_⟩, hm', by omega⟩
            have hk2 : y.1 ∈ (putA ws m c).map (·.1) := List.mem_map.mpr ⟨y, hy, rfl⟩
            unfold putA at hy
            split at hy
            · obtain ⟨z, hz, rfl⟩ := List.mem_map.mp hy
              split
              · rename_i hzm
                simp only [hzm]
                exact ⟨hml, by rw [ero]; exact mv⟩
              · exact ok.mem z hz
            · rcases List.mem_append.mp hy with hy | hy
              · exact ok.mem y hy
              · simp at hy; subst hy; exact ⟨hml, by rw [ero]; exact mv⟩
          rcases rwD_cases row with e | e
          · rw [hd, e]; simp [-Bool.exists_bool, -Prod.exists, ev]; simpa [-Bool.exists_bool, -Prod.exists] using fin
          · rw [hd, e]; simp [-Bool.exists_bool, -Prod.exists, ev]; simpa [-Bool.exists_bool, -Prod.exists] using fin
        rcases rwD_cases row with e | e
        · rw [hd, e] at go2 ⊢; rw [s_lenT]; simpa [-Bool.exists_bool, -Prod.exists] using go2
        · rw [hd, e] at go2 ⊢; rw [s_lenF]; simpa [-Bool.exists_bool, -Prod.exists] using go2
      have := go _ rfl
      simp [-Bool.exists_bool, -Prod.exists, choD, er]
      simpa [-Bool.exists_bool, -Prod.exists, choD] using this
    · simp [-Bool.exists_bool, -Prod.exists, hv0]
      exact hN _ _ trivial ⟨_, ws, k' + 1, rfl, f3, e3, m3, by omega, ok, hm', by omega⟩
  · rintro ρ μ2 ⟨x, ws, k', rfl, f2, e2, m2, hk', ok, hm, hwl⟩
    rw [List.length_nil] at hk'
    simp
    exact Fg.same (q pd ws μ2 ok m2 (f2.mono (by omega)) e2 hpd)
end Cs

/-! ## LwM -/
namespace Cs
open PySem PySem.Spec PyProof.Rows L2 Dl
/-! ### what every world keeps -/
def LInv (n b : Nat) (ld : List Ld) : Prop := ∀ l ∈ ld, (l.2.map (·.1)).Nodup ∧ (∀ y ∈ l.2, y.1 < l.1 ∧ isS y.2) ∧ l.2.length ≤ n ∧ l.1 ≤ b
theorem LInv.mono {n b n' b' : Nat} {ld : List Ld} (h : LInv n b ld) (hn : n ≤ n') (hb : b ≤ b') : LInv n' b' ld := fun l hl => by
  obtain ⟨h1, h2, h3, h4⟩ := h l hl
  exact ⟨h1, h2, by omega, by omega⟩
theorem LInv.take {n b : Nat} {ld : List Ld} (h : LInv n b ld) (r m : Nat) : LInv n b (takeOne ld r m) := by
  unfold takeOne
  split
  · rename_i l e
    intro x hx
    rcases mem_set' hx with rfl | hx
    · obtain ⟨h1, h2, h3, h4⟩ := h l (List.mem_of_getElem? e)
      refine ⟨h1.sublist (List.filter_sublist.map _), fun y hy => h2 y (List.mem_filter.mp hy).1, ?_, h4⟩
      have := List.length_filter_le (fun x : Nat × Str => x.1 != m) l.2
      show (l.2.filter _).length ≤ n
      omega
    · exact h x hx
  · exact h
theorem LInv.send {n b : Nat} {ld : List Ld} (h : LInv n b ld) {x : Nat × Str} (hc : isS x.2) : LInv (n + 1) (b + 1) (sendOne ld x) := by
  unfold sendOne
  split
  · rename_i l e
    intro y hy
    rcases mem_set' hy with rfl | hy
    · obtain ⟨h1, h2, h3, h4⟩ := h l (List.mem_of_getElem? e)
      refine ⟨?_, fun y hy => ?_, by simp; exact h3, by simp; exact h4⟩
      · show ((l.2 ++ [(l.1, x.2)]).map (·.1)).Nodup
        rw [List.map_append, List.nodup_append]
        refine ⟨h1, by simp, fun a ha c hc' e => ?_⟩
        simp at hc'
        obtain ⟨z, hz, rfl⟩ := List.mem_map.mp ha
        have := (h2 z hz).1
        omega
      · rcases List.mem_append.mp hy with hy | hy
        · have := h2 y hy
          exact ⟨by show y.1 < l.1 + 1; omega, this.2⟩
        · simp at hy; subst hy; exact ⟨by show l.1 < l.1 + 1; omega, hc⟩
    · obtain ⟨h1, h2, h3, h4⟩ := h y hy
      exact ⟨h1, h2, by omega, by omega⟩
  · exact h.mono (by omega) (by omega)
theorem LInv.sends : ∀ {se : List (Nat × Str)} {n b : Nat} {ld : List Ld}, LInv n b ld → (∀ x ∈ se, isS x.2) → LInv (n + se.length) (b + se.length) (se.foldl sendOne ld)
  | [], n, b, ld, h, _ => h
  | x :: se, n, b, ld, h, hs => by
    have := LInv.sends (h.send (hs x List.mem_cons_self)) (fun y hy => hs y (List.mem_cons_of_mem _ hy))
    rw [List.foldl_cons, List.length_cons]
    exact this.mono (by omega) (by omega)
theorem sends_len : ∀ (se : List (Nat × Str)) (ld : List Ld), (se.foldl sendOne ld).length = ld.length
  | [], _ => rfl
  | x :: se, ld => by rw [List.foldl_cons, sends_len se, sendOne_len]
structure InvS (f : Fm) (s : Sd) (k : Nat) : Prop where
  o : OkS f s
  l : LInv (3 + 2 * k) (1000000 + 2 * k) s.ld
theorem OkForm.okS {f : Fm} {s : Sd} (o : OkForm f) (h1 : s.st.length = f.rules.length) (h2 : s.ld.length = f.roads.length) : OkS f s :=
  ⟨h1, h2, fun t ht => (o.rd t ht).2, by have := o.n4; omega, by have := o.r8; omega⟩
theorem InvS.start {f : Fm} {b : Sd} (o : OkForm f) (ob : OkBase f b) : InvS f b 0 := by
  refine ⟨o.okS ob.st ob.ld, fun l hl => ?_⟩
  have h := ob.ok l hl
  exact ⟨h.inc.imp fun h => by omega, fun y hy => h.lt y hy, by have := h.n; omega, by have := h.big; omega⟩
theorem ansL_cases {l : List Mv} {st : Nat} {ca : Str} {a : Ans} (h : ansL l st ca = some a) : (∃ v ∈ l, a = (v.af, v.se, v.wd)) ∨ a = (st, [], none) := by
  induction l with
  | nil =>
    simp only [ansL] at h
    split at h
    · cases h
    · cases h; exact .inr rfl
  | cons v r ih =>
    simp only [ansL] at h
    split at h
    · cases h; exact .inl ⟨v, List.mem_cons_self, rfl⟩
    · rcases ih h with ⟨w, hw, e⟩ | e
      · exact .inl ⟨w, List.mem_cons_of_mem _ hw, e⟩
      · exact .inr e
theorem mine_mem {roads : List Rt} {m i : Nat} (h : i ∈ mineOf roads m) : ∃ t, roads[i]? = some t ∧ t.one = m := by
  unfold mineOf at h
  obtain ⟨h1, h2⟩ := List.mem_filter.mp h
  have h1 := List.mem_range.mp h1
  refine ⟨_, List.getElem?_eq_getElem h1, ?_⟩
  rw [List.getElem?_eq_getElem h1] at h2
  simpa using h2
theorem sends_ok {f : Fm} (o : OkForm f) {m : Nat} {r : Nat × List Mv} {st : Nat} {ca : Str} {a : Ans} (hr : f.rules[m]? = some r) (h : ansL r.2 st ca = some a) : (∀ x ∈ a.2.1, (∃ t, f.roads[x.1]? = some t ∧ t.one = m) ∧ isS x.2) ∧ a.2.1.length ≤ 2 := by
  rcases ansL_cases h with ⟨v, hv, rfl⟩ | rfl
  · have := o.rl m r hr v hv
    exact ⟨fun x hx => ⟨mine_mem (this.se x hx).1, (this.se x hx).2⟩, this.n⟩
  · simp
theorem isS_own {c : Str} (h : isS c) : c ≠ "own" := by
  rcases h with rfl | rfl | rfl <;> decide
theorem cause_ok {f : Fm} {s : Sd} {k : Nat} {d : Dd} (i : InvS f s k) (v : ValD f s d) : ∃ c, causeL f s d = some c ∧ okDd f d ∧ ((∃ m, d = .own m ∧ c = "own") ∨ isS c) := by
  cases d with
  | own m =>
    obtain ⟨r, st, h1, h2, h3⟩ := v
    exact ⟨"own", rfl, (List.getElem?_eq_some_iff.mp h1).1, .inl ⟨m, rfl, rfl⟩⟩
  | hear m c => exact ⟨c, rfl, v, .inr v.2⟩
  | come r n =>
    obtain ⟨h1, h2⟩ := v
    obtain ⟨t, e1⟩ : ∃ t, f.roads[r]? = some t := ⟨_, List.getElem?_eq_getElem h1⟩
    obtain ⟨l, e2⟩ : ∃ l, s.ld[r]? = some l := ⟨_, List.getElem?_eq_getElem (show r < s.ld.length by rw [i.o.ld]; exact h1)⟩
    simp only [canW, e1, e2] at h2
    have hsome : ((if isRow t = true then l.2.take 1 else l.2).find? fun x => x.1 == n).isSome = true := by
      rw [List.find?_isSome]
      by_cases hh : t.ord = "row"
      · rw [if_pos hh] at h2
        have : isRow t = true := by unfold isRow; rw [hh]; exact beq_self_eq_true _
        rw [if_pos this]
        have h3 := eq_of_beq h2
        rw [← List.map_take] at h3
        cases hl : l.2.take 1 with
        | nil => rw [hl] at h3; cases h3
        | cons a q =>
          rw [hl] at h3
          have := (List.cons.inj h3).1
          exact ⟨a, List.mem_cons_self, by simpa using this⟩
      · rw [if_neg hh] at h2
        have : ¬ isRow t = true := by unfold isRow; intro h; exact hh (eq_of_beq h)
        rw [if_neg this]
        obtain ⟨x, hx, he⟩ := List.mem_map.mp (of_decide_eq_true h2)
        exact ⟨x, hx, by simpa using he⟩
    obtain ⟨x, hx⟩ := Option.isSome_iff_exists.mp hsome
    have hc : causeL f s (.come r n) = some x.2 := by simp only [causeL, e1, e2, hx, Option.map_some]
    obtain ⟨t', l', g1, g2, g3⟩ := find_cause hc
    rw [e2] at g2
    cases g2
    exact ⟨x.2, hc, h1, .inr ((i.l l (List.mem_of_getElem? e2)).2.1 _ g3).2⟩
theorem InvS.good {f : Fm} {s : Sd} {k : Nat} {d : Dd} (o : OkForm f) (i : InvS f s k) (hk : k ≤ 40) (v : ValD f s d) : Good f s d ∧ InvS f (doneS f s d).1 (k + 1) := by
  obtain ⟨c, hc, hok, hcs⟩ := cause_ok i v
  have hm := of_lt i.o hok
  obtain ⟨r, er⟩ : ∃ r, f.rules[ofDd f d]? = some r := ⟨_, List.getElem?_eq_getElem hm⟩
  obtain ⟨st, es⟩ : ∃ st, s.st[ofDd f d]? = some st := ⟨_, List.getElem?_eq_getElem (show ofDd f d < s.st.length by rw [i.o.st]; exact hm)⟩
  obtain ⟨a, ha⟩ : ∃ a, ansL r.2 st c = some a := by
    rw [ansL_mv]
    rcases hcs with ⟨m, rfl, rfl⟩ | hs
    · obtain ⟨r', st', h1, h2, h3⟩ := v
      have er' : f.rules[m]? = some r := er
      have es' : s.st[m]? = some st := es
      rw [er'] at h1
      rw [es'] at h2
      cases h1; cases h2
      obtain ⟨a, ha⟩ := Option.isSome_iff_exists.mp h3
      exact ⟨a, by rw [ha]⟩
    · cases mvL r.2 st c with
      | some a => exact ⟨a, rfl⟩
      | none => exact ⟨_, by rw [if_neg (isS_own hs)]⟩
  have hans : ansdL f s d = some a := by unfold ansdL; rw [hc, er, es]; exact ha
  obtain ⟨s1, s2⟩ := sends_ok o er ha
  refine ⟨⟨i.o, hok, by rw [hans]; rfl, fun a' ha' => ?_, fun l hl => ?_, fun l hl => ?_⟩, ?_⟩
  · rw [hans] at ha'
    cases ha'
    exact ⟨fun x hx => by obtain ⟨⟨t, h1, _⟩, _⟩ := s1 x hx; exact (List.getElem?_eq_some_iff.mp h1).1, s2⟩
  · have := (i.l l hl).2.2.1; omega
  · have := (i.l l hl).2.2.2; omega
  · have hat : LInv (3 + 2 * k) (1000000 + 2 * k) (afterTake s.ld d) := by
      cases d with
      | come r n => exact i.l.take r n
      | _ => exact i.l
    have hal : (afterTake s.ld d).length = s.ld.length := by
      cases d with
      | come r n => exact takeOne_len _ _ _
      | _ => rfl
    simp only [doneS, hans]
    refine ⟨o.okS (by rw [List.length_set]; exact i.o.st) (by rw [sends_len, hal]; exact i.o.ld), ?_⟩
    exact (hat.sends fun x hx => (s1 x hx).2).mono (by omega) (by omega)
theorem InvS.nd {f : Fm} {s : Sd} {k : Nat} (i : InvS f s k) : NumsNd s := fun l hl => (i.l l hl).1
theorem InvS.sg {f : Fm} {s : Sd} {k : Nat} (i : InvS f s k) : SgOk s := fun l hl y hy => ((i.l l hl).2.1 y hy).2
/-- a run -/
def RunV (f : Fm) : Sd → List Dd → Sd → Prop
  | s, [], s' => s = s'
  | s, d :: r, s' => ValD f s d ∧ RunV f (doneS f s d).1 r s'
theorem RunV.snoc {f : Fm} {d : Dd} : ∀ {l : List Dd} {s s' : Sd}, RunV f s l s' → ValD f s' d → RunV f s (l ++ [d]) (doneS f s' d).1
  | [], s, s', h, v => by
    have h : s = s' := h
    subst h
    exact ⟨v, rfl⟩
  | x :: r, s, s', h, v => ⟨h.1, RunV.snoc h.2 v⟩
end Cs

/-! ## LwN -/
namespace Cs
open PySem PySem.Spec PyProof.Rows L2 Dl
def enDs (f : Fm) (l : List Dd) : List Nat := l.foldl (fun en d => enUp en (ofDd f d)) (en0 f)
theorem enUp_len (en : List Nat) (m : Nat) : (enUp en m).length = en.length := by unfold enUp; rw [List.length_set]
theorem enDs_len (f : Fm) (l : List Dd) : (enDs f l).length = f.rules.length := by
  have key : ∀ (l : List Dd) (en : List Nat), (l.foldl (fun en d => enUp en (ofDd f d)) en).length = en.length := by
    intro l
    induction l with
    | nil => intro en; rfl
    | cons d r ih => intro en; rw [List.foldl_cons, ih, enUp_len]
  unfold enDs
  rw [key]
  unfold en0
  rw [List.length_replicate]
theorem enDs_snoc (f : Fm) (l : List Dd) (d : Dd) : enDs f (l ++ [d]) = enUp (enDs f l) (ofDd f d) := by unfold enDs; rw [List.foldl_append]; rfl
theorem invRun {f : Fm} (o : OkForm f) : ∀ {l : List Dd} {s s' : Sd} {k : Nat}, RunV f s l s' → InvS f s k → k + l.length ≤ 40 → InvS f s' (k + l.length)
  | [], s, s', k, h, i, _ => by
    have h : s = s' := h
    subst h
    exact i
  | d :: r, s, s', k, h, i, hk => by
    rw [List.length_cons] at hk
    have := invRun o h.2 (i.good o (by omega) h.1).2 (by omega)
    rw [List.length_cons]
    rw [show k + (r.length + 1) = k + 1 + r.length by omega]
    exact this
structure World (f : Fm) (b : Sd) (dds : List Dd) (s : Sd) : Prop where
  of : OkForm f
  ob : OkBase f b
  run : RunV f b dds s
  few : dds.length ≤ 35
def G__law_run : DRs := fun ds μ Q => ∃ (pf pc : Addr) (k : Nat), ds = [.ref pf, .int 30] ∧ Fd pf pc k μ ∧ k < 1000000 ∧
  ∀ f b A dds s Pr μ', World f b dds s → WIs Pr μ' f b A dds s (enDs f dds) 200 → Pr pf → Fd pf pc (k + 10000) μ' → ExtF pf μ μ' → Q (.ref A.w) μ'
theorem u__law_run {pf pc : Addr} {k : Nat} {μ Q} (hF : Fd pf pc k μ) (hk : k < 1000000)
  (q : ∀ f b A dds s Pr μ', World f b dds s → WIs Pr μ' f b A dds s (enDs f dds) 200 → Pr pf → Fd pf pc (k + 10000) μ' → ExtF pf μ μ' → Q (.ref A.w) μ') : G__law_run [.ref pf, .int 30] μ Q := ⟨pf, pc, k, rfl, hF, hk, q⟩
theorem mo4 {v : Nat} (h : v < 4) : ∃ j : Nat, atI [D.int (30 / 4), D.int (30 / 2), D.int 30, D.int 0] (v : Int) = some (nD j) ∧ j ≤ 30 := by
  have : v = 0 ∨ v = 1 ∨ v = 2 ∨ v = 3 := by omega
  rcases this with rfl | rfl | rfl | rfl
  · exact ⟨7, rfl, by omega⟩
  · exact ⟨15, rfl, by omega⟩
  · exact ⟨30, rfl, by omega⟩
  · exact ⟨0, rfl, by omega⟩
theorem d__law_run (ds μ Q) (h : G__law_run ds μ Q) : Body (t__law_run G__law_form G__law_begun G__law_base G__law_draw G__law_do G__law_deed) 5 ds μ Q := by
  obtain ⟨pf, pc, k, rfl, hF, hk, q⟩ := h
  have hz : 200000 ≤ sizeLine := by decide
  simp [-Bool.exists_bool, -Prod.exists, Body, t__law_run]
  refine u__law_form hF (by omega) fun f μ1 of f1 o1 => ?_
  have e1 := ExtF.refl.out o1
  have hn4 := of.n4
  have hr8 := of.r8
  refine u__law_base f1 (by omega) hn4 hr8 fun b μ2 ob f2 o2 => ?_
  have e2 := e1.out o2
  refine u__law_begun (by omega) (by omega) ob.ld (by rw [ob.st]; omega) (fun l hl => (ob.ok l hl).n) fun A μ3 W x3 => ?_
  have hPf : PrOf μ2 pf := by obtain ⟨c, hc⟩ := f2.at1; unfold PrOf; rw [hc]; simp
  have hPc : PrOf μ2 pc := by obtain ⟨c, hc⟩ := f2.at2; unfold PrOf; rw [hc]; simp
  have f3 : Fd pf pc (k + 3000 + 200) μ3 := f2.keep (by obtain ⟨c, hc⟩ := f2.at1; rw [hc, x3 _ _ hc]) (by obtain ⟨c, hc⟩ := f2.at2; rw [hc, x3 _ _ hc])
  have e3 : ExtF pf μ μ3 := fun a c n h => x3 _ _ (e2 a c n h)
  have hPm : ∀ a c, μ a = some c → PrOf μ2 a := fun a c h => by
    by_cases ha : a = pf
    · subst ha; exact hPf
    · unfold PrOf; rw [e2 a c ha h]; simp
  generalize hPr : PrOf μ2 = Pr at W hPf hPc hPm
  refine ⟨⟨by omega, by omega⟩, ⟨by omega, by omega⟩, ?_⟩
  refine u__law_draw (n := 4) f3 (by omega) (by omega) (by omega) fun v hv μ4 f4 o4 => ?_
  obtain ⟨j, hj, hj30⟩ := mo4 hv
  refine ⟨_, rfl, _, hj, ?_⟩
  refine u__law_draw (n := 6) f4 (by omega) (by omega) (by omega) fun w hw μ5 f5 o5 => ?_
  have W5 := (W.outR hPf o4 (by obtain ⟨c, hc⟩ := f4.at1; rw [hc]; simp)).outR hPf o5 (by obtain ⟨c, hc⟩ := f5.at1; rw [hc]; simp)
  have e5 := (e3.out o4).out o5
  simp only [s_addI]
  refine ⟨_, rfl, ⟨by omega, by omega⟩, ?_⟩
  rw [show ((j : Int) + (w : Int)).toNat = j + w by omega, rg0]
  refine for_map (fun r ρ μ' => ∃ x dds s, ∃ (k' : Nat), ρ = [some (.ref pf), some (.int 30), some (fmD f), some (.ref A.w), x] ∧ Fd pf pc k' μ' ∧ ExtF pf μ μ' ∧ WIs Pr μ' f b A dds s (enDs f dds) (100 + 2 * dds.length) ∧ RunV f b dds s ∧ dds.length + r.length = j + w ∧ k' + 10 * r.length ≤ k + 5000) ?_ ?_
    ⟨_, [], b, k + 3202, rfl, f5, e5, W5, rfl, by simp, by simp; omega⟩
  · rintro i r ρ μ6 N ⟨x, dds, s, k', rfl, f6, e6, W6, hrun, hlen, hk'⟩ hN
    rw [List.length_cons] at hlen hk'
    have inv := invRun of hrun (InvS.start of ob) (by omega)
    rw [Nat.zero_add] at inv
    simp [-Bool.exists_bool, -Prod.exists]
    refine u__law_deed f6 (by omega) hPf W6 inv.o of.n1 (enDs_len f dds) (fun l hl => by have := (inv.l l hl).2.2.1; omega) inv.sg fun d μ7 v f7 o7 => ?_
    have W7 := W6.outR hPf o7 (by obtain ⟨c, hc⟩ := f7.at1; rw [hc]; simp)
    obtain ⟨g, inv2⟩ := inv.good of (by omega) v
    refine u__law_do W7 g inv.nd inv.sg (enDs_len f dds) (by omega) (by omega) fun μ8 W8 fr8 => ?_
    rw [← enDs_snoc] at W8
    have f8 := f7.keep (fr8 pf hPf) (fr8 pc hPc)
    refine hN _ _ trivial ⟨_, dds ++ [d], _, k' + 10, rfl, f8, fun a c n h => ?_, W8.tb' (by rw [List.length_append, List.length_singleton]; omega), hrun.snoc v, by rw [List.length_append, List.length_singleton]; omega, by omega⟩
    rw [fr8 a (hPm a c h)]
    exact (e6.out o7) a c n h
  · rintro ρ μ6 ⟨x, dds, s, k', rfl, f6, e6, W6, hrun, hlen, hk'⟩
    rw [List.length_nil] at hlen hk'
    simp
    exact Fg.same (q f b A dds s Pr μ6 ⟨of, ob, hrun, by omega⟩ (W6.tb' (by omega)) hPf (f6.mono (by omega)) e6)
end Cs

/-! ## PlO -/
namespace Cs
open PySem PySem.Spec PyProof.Rows L2 Dl
/-! ### orders -/
def ofM (f : Fm) (m : Nat) (l : List Dd) : List Dd := l.filter fun d => ofDd f d == m
def rmFirst (f : Fm) (m : Nat) : List Dd → List Dd
  | [] => []
  | d :: r => if ofDd f d = m then r else d :: rmFirst f m r
inductive Ord (f : Fm) : Sd → List Dd → List Dd → Prop
  | nil (s : Sd) : Ord f s [] []
  | step {s : Sd} {L M : List Dd} {d : Dd} {q : List Dd} : ValD f s d → ofM f (ofDd f d) L = d :: q → Ord f (doneS f s d).1 (rmFirst f (ofDd f d) L) M → Ord f s L (d :: M)
theorem ofM_cons (f : Fm) (m : Nat) (d : Dd) (l : List Dd) : ofM f m (d :: l) = if ofDd f d = m then d :: ofM f m l else ofM f m l := by
  unfold ofM
  rw [List.filter_cons]
  by_cases h : ofDd f d = m
  · rw [if_pos (by simpa using h), if_pos h]
  · rw [if_neg (by simpa using h), if_neg h]
theorem ofM_rm (f : Fm) (m j : Nat) : ∀ (L : List Dd) (d : Dd) (q : List Dd), ofM f m L = d :: q → ofM f j (rmFirst f m L) = if j = m then q else ofM f j L
  | [], d, q, h => by cases h
  | x :: r, d, q, h => by
    rw [ofM_cons] at h
    unfold rmFirst
    by_cases hx : ofDd f x = m
    · rw [if_pos hx] at h
      rw [if_pos hx]
      obtain ⟨e1, e2⟩ := List.cons.inj h
      by_cases hj : j = m
      · rw [if_pos hj, hj]; exact e2
      · rw [if_neg hj, ofM_cons, if_neg (fun e => hj (e.symm.trans hx))]
    · rw [if_neg hx] at h
      rw [if_neg hx, ofM_cons, ofM_rm f m j r d q h, ofM_cons]
      by_cases hj : j = m
      · rw [if_pos hj, if_pos hj, hj, if_neg hx]
      · rw [if_neg hj, if_neg hj]
theorem rm_len (f : Fm) (m : Nat) : ∀ (L : List Dd) (d : Dd) (q : List Dd), ofM f m L = d :: q → (rmFirst f m L).length + 1 = L.length
  | [], d, q, h => by cases h
  | x :: r, d, q, h => by
    rw [ofM_cons] at h
    unfold rmFirst
    by_cases hx : ofDd f x = m
    · rw [if_pos hx]; rfl
    · rw [if_neg hx] at h ⊢
      have := rm_len f m r d q h
      rw [List.length_cons, List.length_cons]
      omega
theorem ValD.can {f : Fm} {s : Sd} {d : Dd} (v : ValD f s d) : canW f s d = true := by
  cases d with
  | come r n => exact v.2
  | _ => rfl
theorem ValD.ok {f : Fm} {s : Sd} {d : Dd} (v : ValD f s d) : okDd f d := by
  cases d with
  | own m => obtain ⟨r, st, h1, _⟩ := v; exact (List.getElem?_eq_some_iff.mp h1).1
  | hear m c => exact v
  | come r n => exact v.1
end Cs

/-! ## PlD -/
namespace Cs
open PySem PySem.Spec PyProof.Rows L2 Dl
/-! ### deeds of two machines commute -/
def appS (i : Nat) (se : List (Nat × Str)) (l : Ld) : Ld := se.foldl (fun l x => if x.1 = i then (l.1 + 1, l.2 ++ [(l.1, x.2)]) else l) l
def takS (i : Nat) (d : Dd) (l : Ld) : Ld := match d with
  | .come r n => if r = i then (l.1, l.2.filter fun x => x.1 != n) else l
  | _ => l
theorem send_at (i : Nat) : ∀ (se : List (Nat × Str)) (ld : List Ld), (se.foldl sendOne ld)[i]? = (ld[i]?).map (appS i se)
  | [], ld => by
    rw [List.foldl_nil]
    cases ld[i]? <;> rfl
  | x :: se, ld => by
    rw [List.foldl_cons, send_at i se]
    have : (sendOne ld x)[i]? = (ld[i]?).map fun l => if x.1 = i then (l.1 + 1, l.2 ++ [(l.1, x.2)]) else l := by
      unfold sendOne
      split
      · rename_i l e
        by_cases h : x.1 = i
        · subst h
          rw [List.getElem?_set_self (List.getElem?_eq_some_iff.mp e).1, e]; simp
        · rw [List.getElem?_set_ne h]
          cases ld[i]? <;> simp [h]
      · rename_i e
        by_cases h : x.1 = i
        · subst h; rw [e]; rfl
        · cases ld[i]? <;> simp [h]
    rw [this]
    cases ld[i]? with
    | none => rfl
    | some l => rfl
theorem take_at (i : Nat) (ld : List Ld) (d : Dd) : (afterTake ld d)[i]? = (ld[i]?).map (takS i d) := by
  cases d with
  | come r n =>
    simp only [afterTake, takeOne]
    split
    · rename_i l e
      by_cases h : r = i
      · subst h
        rw [List.getElem?_set_self (List.getElem?_eq_some_iff.mp e).1, e]; simp [takS]
      · rw [List.getElem?_set_ne h]
        cases ld[i]? <;> simp [takS, h]
    · rename_i e
      by_cases h : r = i
      · subst h; rw [e]; rfl
      · cases ld[i]? <;> simp [takS, h]
  | own m => cases h : ld[i]? <;> simp [afterTake, takS, h]
  | hear m c => cases h : ld[i]? <;> simp [afterTake, takS, h]
theorem appS_id {i : Nat} : ∀ {se : List (Nat × Str)} {l : Ld}, (∀ x ∈ se, x.1 ≠ i) → appS i se l = l
  | [], l, _ => rfl
  | x :: se, l, h => by
    show appS i se (if x.1 = i then _ else l) = l
    rw [if_neg (h x List.mem_cons_self)]
    exact appS_id fun y hy => h y (List.mem_cons_of_mem _ hy)
theorem appS_mono {i : Nat} : ∀ (se : List (Nat × Str)) (l : Ld), l.1 ≤ (appS i se l).1 ∧ ∃ e, (appS i se l).2 = l.2 ++ e
  | [], l => ⟨Nat.le_refl _, [], by simp [appS]⟩
  | x :: se, l => by
    show l.1 ≤ (appS i se (if x.1 = i then _ else l)).1 ∧ ∃ e, (appS i se (if x.1 = i then _ else l)).2 = l.2 ++ e
    by_cases h : x.1 = i
    · rw [if_pos h]
      obtain ⟨h1, e, h2⟩ := appS_mono (i := i) se (l.1 + 1, l.2 ++ [(l.1, x.2)])
      refine ⟨by simp only at h1; omega, [(l.1, x.2)] ++ e, ?_⟩
      rw [h2]; simp
    · rw [if_neg h]; exact appS_mono se l
theorem appS_filter {i n : Nat} : ∀ (se : List (Nat × Str)) (l : Ld), n < l.1 → appS i se (l.1, l.2.filter fun x => x.1 != n) = ((appS i se l).1, (appS i se l).2.filter fun x => x.1 != n)
  | [], l, _ => rfl
  | x :: se, l, h => by
    by_cases hx : x.1 = i
    · have e1 : appS i (x :: se) l = appS i se (l.1 + 1, l.2 ++ [(l.1, x.2)]) := by show appS i se (if x.1 = i then _ else l) = _; rw [if_pos hx]
      have e2 : appS i (x :: se) (l.1, l.2.filter fun x => x.1 != n) = appS i se (l.1 + 1, (l.2.filter fun x => x.1 != n) ++ [(l.1, x.2)]) := by show appS i se (if x.1 = i then _ else _) = _; rw [if_pos hx]
      rw [e1, e2]
      have := appS_filter (i := i) (n := n) se (l.1 + 1, l.2 ++ [(l.1, x.2)]) (by show n < l.1 + 1; omega)
      rw [← this]
      congr 2
      rw [List.filter_append]
      congr 1
      have hne : ¬ l.1 = n := by omega
      simp [List.filter_cons, hne]
    · have e1 : ∀ l, appS i (x :: se) l = appS i se l := fun l => by show appS i se (if x.1 = i then _ else l) = _; rw [if_neg hx]
      rw [e1, e1]
      exact appS_filter se l h
/-- what a valid deed does -/
theorem deed_facts {f : Fm} {s : Sd} {k : Nat} {d : Dd} (o : OkForm f) (i : InvS f s k) (hk : k ≤ 40) (v : ValD f s d) : ∃ a, ansdL f s d = some a ∧ (∀ x ∈ a.2.1, ∃ t, f.roads[x.1]? = some t ∧ t.one = ofDd f d) ∧ (doneS f s d).1.st = s.st.set (ofDd f d) a.1 ∧ ∀ j, (doneS f s d).1.ld[j]? = (s.ld[j]?).map fun l => appS j a.2.1 (takS j d l) := by
  obtain ⟨g, _⟩ := i.good o hk v
  obtain ⟨a, ha⟩ := Option.isSome_iff_exists.mp g.can
  refine ⟨a, ha, fun x hx => ?_, by simp only [doneS, ha], fun j => ?_⟩
  · have ha' := ha
    unfold ansdL at ha'
    cases hc : causeL f s d with
    | none => rw [hc] at ha'; cases ha'
    | some c =>
      rw [hc] at ha'
      cases e1 : f.rules[ofDd f d]? with
      | none => rw [e1] at ha'; cases ha'
      | some r =>
        cases e2 : s.st[ofDd f d]? with
        | none => rw [e1, e2] at ha'; cases ha'
        | some st =>
          rw [e1, e2] at ha'
          exact ((sends_ok o e1 ha').1 x hx).1
  · simp only [doneS, ha]
    rw [send_at, take_at, Option.map_map]
    rfl
theorem tak_id {f : Fm} {j : Nat} {d : Dd} {l : Ld} {t : Rt} (hj : f.roads[j]? = some t) (h : t.other ≠ ofDd f d) : takS j d l = l := by
  cases d with
  | come r n =>
    simp only [takS]
    by_cases e : r = j
    · subst e
      exact absurd (by simp only [ofDd, hj]) h
    · rw [if_neg e]
  | _ => rfl
section
variable {f : Fm} {s : Sd} {k : Nat} {x d : Dd} (o : OkForm f) (i : InvS f s k) (hk : k ≤ 40) (vx : ValD f s x) (hne : ofDd f x ≠ ofDd f d)
include o i hk vx hne
/-- the other machine's road: letters are only added -/
theorem other_road {r : Nat} {t : Rt} (hr : f.roads[r]? = some t) (ht : t.other = ofDd f d) : ∃ e n', ∀ l, s.ld[r]? = some l → (doneS f s x).1.ld[r]? = some (n' , l.2 ++ e) := by
  obtain ⟨a, ha, h1, h2, h3⟩ := deed_facts o i hk vx
  cases hl : s.ld[r]? with
  | none => exact ⟨[], 0, fun l h => by cases h⟩
  | some l0 =>
    obtain ⟨g1, e, g2⟩ := appS_mono (i := r) a.2.1 l0
    refine ⟨e, (appS r a.2.1 l0).1, fun l h => ?_⟩
    cases h
    rw [h3, hl, Option.map_some, tak_id hr (by rw [ht]; exact hne.symm)]
    rw [← g2]
theorem can_keep (hd : canW f s d = true) : canW f (doneS f s x).1 d = true := by
  cases d with
  | own m => rfl
  | hear m c => rfl
  | come r n =>
    simp only [canW] at hd ⊢
    cases hr : f.roads[r]? with
    | none => rw [hr] at hd; cases hd
    | some t =>
      cases hl : s.ld[r]? with
      | none => rw [hr, hl] at hd; cases hd
      | some l =>
        rw [hr, hl] at hd
        obtain ⟨e, n', h⟩ := other_road o i hk vx hne hr (by simp only [ofDd, hr])
        rw [h l hl]
        simp only at hd ⊢
        split
        · rename_i hh
          rw [if_pos hh] at hd
          rw [List.map_append]
          cases hm : l.2.map (·.1) with
          | nil => rw [hm] at hd; simp at hd
          | cons a q => rw [hm] at hd; simpa using hd
        · rename_i hh
          rw [if_neg hh] at hd
          have := of_decide_eq_true hd
          refine decide_eq_true ?_
          rw [List.map_append]
          exact List.mem_append_left _ this
theorem st_keep : (doneS f s x).1.st[ofDd f d]? = s.st[ofDd f d]? := by
  obtain ⟨a, ha, h1, h2, h3⟩ := deed_facts o i hk vx
  rw [h2, List.getElem?_set_ne hne]
theorem cause_keep (vd : ValD f s d) : causeL f (doneS f s x).1 d = causeL f s d := by
  cases d with
  | own m => rfl
  | hear m c => rfl
  | come r n =>
    obtain ⟨c, hc, _⟩ := cause_ok i vd
    rw [hc]
    obtain ⟨t, l, hr, hl, _⟩ := find_cause hc
    obtain ⟨e, n', h⟩ := other_road o i hk vx hne hr (by simp only [ofDd, hr])
    simp only [causeL, hr, hl, h l hl] at hc ⊢
    by_cases hh : isRow t = true
    · rw [if_pos hh] at hc ⊢
      cases hm : l.2 with
      | nil => rw [hm] at hc; cases hc
      | cons y q => rw [hm] at hc; simpa using hc
    · rw [if_neg hh] at hc ⊢
      obtain ⟨z, hz, hz2⟩ := Option.map_eq_some_iff.mp hc
      rw [List.find?_append, hz]
      simpa using hz2
theorem ans_keep (vd : ValD f s d) : ansdL f (doneS f s x).1 d = ansdL f s d := by
  unfold ansdL
  rw [cause_keep o i hk vx hne vd, st_keep o i hk vx hne]
theorem val_keep (vd : ValD f s d) : ValD f (doneS f s x).1 d := by
  cases d with
  | own m =>
    obtain ⟨r, st, h1, h2, h3⟩ := vd
    exact ⟨r, st, h1, by have := st_keep o i hk vx hne; rw [show ofDd f (.own m) = m from rfl] at this; rw [this]; exact h2, h3⟩
  | hear m c => exact vd
  | come r n => exact ⟨vd.1, can_keep o i hk vx hne vd.2⟩
end
theorem sd_ext {a b : Sd} (h1 : a.st = b.st) (h2 : ∀ j : Nat, a.ld[j]? = b.ld[j]?) : a = b := by
  obtain ⟨s1, l1⟩ := a
  obtain ⟨s2, l2⟩ := b
  simp only at h1 h2
  rw [h1, List.ext_getElem? h2]
theorem val_num {f : Fm} {s : Sd} {k : Nat} {r n : Nat} (i : InvS f s k) (v : ValD f s (.come r n)) {l : Ld} (hl : s.ld[r]? = some l) : n < l.1 := by
  obtain ⟨c, hc, _⟩ := cause_ok i v
  obtain ⟨t, l', h1, h2, h3⟩ := find_cause hc
  rw [hl] at h2
  cases h2
  exact ((i.l l (List.mem_of_getElem? hl)).2.1 _ h3).1
theorem comm_ld {f : Fm} {s : Sd} {k : Nat} {x d : Dd} {a b : Ans} (i : InvS f s k) (vx : ValD f s x) (vd : ValD f s d) (hne : ofDd f x ≠ ofDd f d) (ha : ∀ y ∈ a.2.1, ∃ t, f.roads[y.1]? = some t ∧ t.one = ofDd f x) (hb : ∀ y ∈ b.2.1, ∃ t, f.roads[y.1]? = some t ∧ t.one = ofDd f d) {j : Nat} {l : Ld} (hl : s.ld[j]? = some l) :
    appS j b.2.1 (takS j d (appS j a.2.1 (takS j x l))) = appS j a.2.1 (takS j x (appS j b.2.1 (takS j d l))) := by
  obtain ⟨t, ht⟩ : ∃ t, f.roads[j]? = some t := ⟨_, List.getElem?_eq_getElem (by rw [← i.o.ld]; exact (List.getElem?_eq_some_iff.mp hl).1)⟩
  have na : t.one ≠ ofDd f x → ∀ l, appS j a.2.1 l = l := fun h l => appS_id fun y hy e => by
    obtain ⟨t', h1, h2⟩ := ha y hy
    rw [e, ht] at h1
    cases h1
    exact h h2
  have nb : t.one ≠ ofDd f d → ∀ l, appS j b.2.1 l = l := fun h l => appS_id fun y hy e => by
    obtain ⟨t', h1, h2⟩ := hb y hy
    rw [e, ht] at h1
    cases h1
    exact h h2
  have tx : t.other ≠ ofDd f x → ∀ l, takS j x l = l := fun h l => tak_id ht h
  have td : t.other ≠ ofDd f d → ∀ l, takS j d l = l := fun h l => tak_id ht h
  by_cases h1 : t.one = ofDd f x
  · have hb' := nb (fun e => hne (h1.symm.trans e))
    rw [hb', hb']
    by_cases h2 : t.other = ofDd f d
    · have hx' := tx (fun e => hne (e.symm.trans h2))
      rw [hx', hx']
      cases d with
      | come r n =>
        simp only [takS]
        by_cases e : r = j
        · subst e
          rw [if_pos rfl, if_pos rfl]
          exact (appS_filter a.2.1 l (val_num i vd hl)).symm
        · rw [if_neg e, if_neg e]
      | _ => rfl
    · rw [td h2, td h2]
  · rw [na h1, na h1]
    by_cases h2 : t.one = ofDd f d
    · by_cases h3 : t.other = ofDd f x
      · have hd' := td (fun e => hne (h3.symm.trans e))
        rw [hd', hd']
        cases x with
        | come r n =>
          simp only [takS]
          by_cases e : r = j
          · subst e
            rw [if_pos rfl, if_pos rfl]
            exact appS_filter b.2.1 l (val_num i vx hl)
          · rw [if_neg e, if_neg e]
        | _ => rfl
      · rw [tx h3, tx h3]
    · rw [nb h2, nb h2]
      by_cases h3 : t.other = ofDd f x
      · have hd' := td (fun e => hne (h3.symm.trans e))
        rw [hd', hd']
      · rw [tx h3, tx h3]
theorem done_comm {f : Fm} {s : Sd} {k : Nat} {x d : Dd} (o : OkForm f) (i : InvS f s k) (hk : k + 1 ≤ 40) (vx : ValD f s x) (vd : ValD f s d) (hne : ofDd f x ≠ ofDd f d) : (doneS f (doneS f s x).1 d).1 = (doneS f (doneS f s d).1 x).1 := by
  obtain ⟨a, ha, a1, a2, a3⟩ := deed_facts o i (by omega) vx
  obtain ⟨b, hb, b1, b2, b3⟩ := deed_facts o i (by omega) vd
  have ix := (i.good o (by omega) vx).2
  have id := (i.good o (by omega) vd).2
  have vd' := val_keep o i (by omega) vx hne vd
  have vx' := val_keep o i (by omega) vd hne.symm vx
  obtain ⟨b', hb', c1, c2, c3⟩ := deed_facts o ix hk vd'
  obtain ⟨a', ha', d1, d2, d3⟩ := deed_facts o id hk vx'
  rw [ans_keep o i (by omega) vx hne vd, hb] at hb'
  rw [ans_keep o i (by omega) vd hne.symm vx, ha] at ha'
  cases hb'
  cases ha'
  refine sd_ext ?_ fun j => ?_
  · rw [c2, d2, a2, b2, List.set_comm _ _ hne]
  · rw [c3, d3, a3, b3]
    cases hl : s.ld[j]? with
    | none => rfl
    | some l =>
      simp only [Option.map_some]
      rw [comm_ld i vx vd hne a1 b1 hl]
theorem first_ok {f : Fm} {sA : Sd} {d : Dd} {q : List Dd} (o : OkForm f) : ∀ {L : List Dd} {s : Sd} {k : Nat}, InvS f s k → k + L.length ≤ 40 → RunV f s L sA → ofM f (ofDd f d) L = d :: q → canW f s d = true → ValD f s d ∧ RunV f (doneS f s d).1 (rmFirst f (ofDd f d) L) sA
  | [], s, k, i, hk, h, hd, hc => by cases hd
  | x :: r, s, k, i, hk, h, hd, hc => by
    rw [List.length_cons] at hk
    rw [ofM_cons] at hd
    unfold rmFirst
    by_cases e : ofDd f x = ofDd f d
    · rw [if_pos e] at hd
      have := (List.cons.inj hd).1
      subst this
      rw [if_pos rfl]
      exact h
    · rw [if_neg e] at hd ⊢
      have vx := h.1
      have ix := (i.good o (by omega) vx).2
      obtain ⟨g1, g2⟩ := first_ok o ix (by omega) h.2 hd (can_keep o i (by omega) vx e hc)
      have vd : ValD f s d := by
        cases d with
        | own m =>
          obtain ⟨r, st, h1, h2, h3⟩ := g1
          have := st_keep o i (by omega) vx e
          rw [show ofDd f (.own m) = m from rfl] at this
          exact ⟨r, st, h1, by rw [← this]; exact h2, h3⟩
        | hear m c => exact g1
        | come r n => exact ⟨g1.1, hc⟩
      refine ⟨vd, val_keep o i (by omega) vd (fun z => e z.symm) vx, ?_⟩
      rw [← done_comm o i (by omega) vx vd e]
      exact g2
end Cs

/-! ## PlE -/
namespace Cs
open PySem PySem.Spec PyProof.Rows L2 Dl
/-! ### the letters' table, by events -/
abbrev Tbl := Nat → Nat → Option Lv
def comeT (e : Nat) (d : Dd) (T : Tbl) : Tbl := fun r n => match d with
  | .come r' n' => if r = r' ∧ n = n' then (T r n).map fun v => (v.1, some e) else T r n
  | _ => T r n
def newT (s s' : Sd) (e : Nat) (T : Tbl) : Tbl := fun r n => if sentOf s r ≤ n ∧ n < sentOf s' r then some (some e, none) else T r n
def histT (f : Fm) : Sd → List Nat → Tbl → List Dd → Tbl
  | _, _, T, [] => T
  | s, en, T, d :: l => histT f (doneS f s d).1 (enUp en (ofDd f d)) (newT s (doneS f s d).1 (en.getD (ofDd f d) 0) (comeT (en.getD (ofDd f d) 0) d T)) l
theorem enUp_comm {en : List Nat} {m n : Nat} (h : m ≠ n) : enUp (enUp en m) n = enUp (enUp en n) m := by
  have g : ∀ {i j v : Nat}, i ≠ j → (en.set i v).getD j 0 = en.getD j 0 := fun h => by
    rw [List.getD_eq_getElem?_getD, List.getD_eq_getElem?_getD, List.getElem?_set_ne h]
  unfold enUp
  rw [g h, g h.symm, List.set_comm _ _ h]
theorem enUp_ne {en : List Nat} {m n : Nat} (h : m ≠ n) : (enUp en m).getD n 0 = en.getD n 0 := by
  unfold enUp
  rw [List.getD_eq_getElem?_getD, List.getElem?_set_ne h]
  rfl
theorem appS_id1 {i : Nat} {se : List (Nat × Str)} {l : Ld} (h : ∀ x ∈ se, x.1 ≠ i) : (appS i se l).1 = l.1 := by rw [appS_id h]
theorem takS_1 {i : Nat} {d : Dd} {l : Ld} : (takS i d l).1 = l.1 := by
  cases d with
  | come r n => simp only [takS]; split <;> rfl
  | _ => rfl
theorem sent_keep {f : Fm} {s : Sd} {k : Nat} {x : Dd} (o : OkForm f) (i : InvS f s k) (hk : k ≤ 40) (vx : ValD f s x) {r : Nat} (h : ∀ t, f.roads[r]? = some t → t.one ≠ ofDd f x) : sentOf (doneS f s x).1 r = sentOf s r := by
  obtain ⟨a, ha, h1, h2, h3⟩ := deed_facts o i hk vx
  unfold sentOf
  rw [h3]
  cases s.ld[r]? with
  | none => rfl
  | some l =>
    simp only [Option.map_some, Option.getD_some]
    rw [appS_id1, takS_1]
    intro y hy e
    obtain ⟨t, g1, g2⟩ := h1 y hy
    rw [e] at g1
    exact h t g1 g2
theorem come_lt {f : Fm} {s : Sd} {k : Nat} {r n : Nat} (i : InvS f s k) (v : ValD f s (.come r n)) : n < sentOf s r := by
  obtain ⟨c, hc, _⟩ := cause_ok i v
  obtain ⟨t, l, h1, h2, h3⟩ := find_cause hc
  rw [sentOf_at h2]
  exact ((i.l l (List.mem_of_getElem? h2)).2.1 _ h3).1
theorem come_road {f : Fm} {r n : Nat} {t : Rt} (h : f.roads[r]? = some t) : ofDd f (.come r n) = t.other := by simp only [ofDd, h]
theorem tbl_comm {f : Fm} {s : Sd} {k : Nat} {x d : Dd} (o : OkForm f) (i : InvS f s k) (hk : k + 1 ≤ 40) (vx : ValD f s x) (vd : ValD f s d) (hne : ofDd f x ≠ ofDd f d) (ex ed : Nat) (T : Tbl) :
    newT (doneS f s x).1 (doneS f (doneS f s x).1 d).1 ed (comeT ed d (newT s (doneS f s x).1 ex (comeT ex x T))) = newT (doneS f s d).1 (doneS f (doneS f s d).1 x).1 ex (comeT ex x (newT s (doneS f s d).1 ed (comeT ed d T))) := by
  have ix := (i.good o (by omega) vx).2
  have id := (i.good o (by omega) vd).2
  have vd' := val_keep o i (by omega) vx hne vd
  have vx' := val_keep o i (by omega) vd hne.symm vx
  have hcm := done_comm o i hk vx vd hne
  -- comes commute
  have cc : ∀ r n (T : Tbl), comeT ed d (comeT ex x T) r n = comeT ex x (comeT ed d T) r n := fun r n T => by
    cases x with
    | come r1 n1 =>
      cases d with
      | come r2 n2 =>
        simp only [comeT]
        by_cases h1 : r = r1 ∧ n = n1
        · by_cases h2 : r = r2 ∧ n = n2
          · exfalso
            obtain ⟨rfl, rfl⟩ := h1
            obtain ⟨rfl, rfl⟩ := h2
            exact hne rfl
          · simp only [h1, h2, and_self, if_true, if_false]
            rw [if_neg (by rw [← h1.1, ← h1.2]; exact h2), if_neg (by rw [← h1.1, ← h1.2]; exact h2)]
        · simp only [h1, if_false]
      | _ => rfl
    | _ => rfl
  -- a come is before what is new
  have cn : ∀ {s0 : Sd} {y : Dd} {kk : Nat} (e : Nat) (T : Tbl) (r n : Nat), InvS f s0 kk → ValD f s0 y → sentOf s0 r ≤ n → comeT e y T r n = T r n := fun {s0 y kk} e T r n i0 v0 h => by
    cases y with
    | come r1 n1 =>
      simp only [comeT]
      rw [if_neg]
      rintro ⟨rfl, rfl⟩
      have := come_lt i0 v0
      omega
    | _ => rfl
  funext r n
  by_cases hx : ∃ t, f.roads[r]? = some t ∧ t.one = ofDd f x
  · obtain ⟨t, ht, h1⟩ := hx
    have hd0 : ∀ t', f.roads[r]? = some t' → t'.one ≠ ofDd f d := fun t' h' e => by rw [ht] at h'; cases h'; exact hne (h1.symm.trans e)
    have s1 := sent_keep o ix (by omega) vd' (r := r) hd0
    have s2 := sent_keep o i (by omega) vd (r := r) hd0
    have s3 : sentOf (doneS f (doneS f s d).1 x).1 r = sentOf (doneS f s x).1 r := by rw [← hcm, s1]
    unfold newT
    rw [s1, s2, s3]
    rw [if_neg (by omega)]
    by_cases hN : sentOf s r ≤ n ∧ n < sentOf (doneS f s x).1 r
    · rw [if_pos hN]
      rw [cn ed _ r n i vd hN.1, if_pos hN]
    · rw [if_neg hN]
      have : ∀ (A B : Tbl), A r n = B r n → comeT ed d A r n = comeT ed d B r n := fun A B h => by
        cases d with
        | come r1 n1 => simp only [comeT]; rw [h]
        | _ => exact h
      have hx2 : ∀ (A B : Tbl), A r n = B r n → comeT ex x A r n = comeT ex x B r n := fun A B h => by
        cases x with
        | come r1 n1 => simp only [comeT]; rw [h]
        | _ => exact h
      rw [this _ (comeT ex x T) (if_neg hN), cc]
      exact (hx2 _ (comeT ed d T) (if_neg (by omega))).symm
  · have hx0 : ∀ t', f.roads[r]? = some t' → t'.one ≠ ofDd f x := fun t' h' e => hx ⟨t', h', e⟩
    have s1 := sent_keep o id (by omega) vx' (r := r) hx0
    have s2 := sent_keep o i (by omega) vx (r := r) hx0
    have s3 : sentOf (doneS f (doneS f s x).1 d).1 r = sentOf (doneS f s d).1 r := by rw [hcm, s1]
    unfold newT
    rw [s1, s2, s3]
    have hdc : ∀ (A B : Tbl), A r n = B r n → comeT ed d A r n = comeT ed d B r n := fun A B h => by
      cases d with
      | come r1 n1 => simp only [comeT]; rw [h]
      | _ => exact h
    have hxc : ∀ (A B : Tbl), A r n = B r n → comeT ex x A r n = comeT ex x B r n := fun A B h => by
      cases x with
      | come r1 n1 => simp only [comeT]; rw [h]
      | _ => exact h
    rw [if_neg (show ¬ (sentOf (doneS f s d).1 r ≤ n ∧ n < sentOf (doneS f s d).1 r) by omega)]
    by_cases hN : sentOf s r ≤ n ∧ n < sentOf (doneS f s d).1 r
    · rw [if_pos hN, cn ex _ r n i vx hN.1, if_pos hN]
    · rw [if_neg hN, hdc _ (comeT ex x T) (if_neg (by omega)), cc]
      exact (hxc _ (comeT ed d T) (if_neg hN)).symm
theorem hist_move {f : Fm} {sA : Sd} {d : Dd} {q : List Dd} (o : OkForm f) : ∀ {L : List Dd} {s : Sd} {k : Nat} (en : List Nat) (T : Tbl), InvS f s k → k + L.length ≤ 40 → RunV f s L sA → ofM f (ofDd f d) L = d :: q → ValD f s d → histT f s en T L = histT f s en T (d :: rmFirst f (ofDd f d) L)
  | [], s, k, en, T, i, hk, h, hd, vd => by cases hd
  | x :: r, s, k, en, T, i, hk, h, hd, vd => by
    rw [List.length_cons] at hk
    rw [ofM_cons] at hd
    unfold rmFirst
    by_cases e : ofDd f x = ofDd f d
    · rw [if_pos e] at hd
      have := (List.cons.inj hd).1
      subst this
      rw [if_pos rfl]
    · rw [if_neg e] at hd ⊢
      have vx := h.1
      have ix := (i.good o (by omega) vx).2
      have vd' := val_keep o i (by omega) vx e vd
      have := hist_move o (enUp en (ofDd f x)) (newT s (doneS f s x).1 (en.getD (ofDd f x) 0) (comeT (en.getD (ofDd f x) 0) x T)) ix (by omega) h.2 hd vd'
      show histT f (doneS f s x).1 (enUp en (ofDd f x)) _ r = _
      rw [this]
      simp only [histT]
      rw [enUp_ne e, enUp_ne (fun z => e z.symm), tbl_comm o i (by omega) vx vd e, done_comm o i (by omega) vx vd e, enUp_comm e]
theorem hist_ord {f : Fm} {sA : Sd} (o : OkForm f) {s : Sd} {L M : List Dd} (h : Ord f s L M) : ∀ (k : Nat) (en : List Nat) (T : Tbl), InvS f s k → k + L.length ≤ 40 → RunV f s L sA → histT f s en T L = histT f s en T M ∧ RunV f s M sA ∧ M.length = L.length := by
  induction h with
  | nil s => intro k en T i hk hr; exact ⟨rfl, hr, rfl⟩
  | @step s L M d q vd hd _ ih =>
    intro k en T i hk hr
    have hlen := rm_len f _ L d q hd
    obtain ⟨_, hr2⟩ := first_ok o i hk hr hd vd.can
    obtain ⟨_, i2⟩ := i.good o (by omega) vd
    obtain ⟨h1, h2, h3⟩ := ih (k + 1) (enUp en (ofDd f d)) (newT s (doneS f s d).1 (en.getD (ofDd f d) 0) (comeT (en.getD (ofDd f d) 0) d T)) i2 (by omega) hr2
    refine ⟨?_, ⟨vd, h2⟩, by rw [List.length_cons]; omega⟩
    rw [hist_move o en T i hk hr hd vd]
    simp only [histT]
    exact h1
end Cs

/-! ## LwO -/
namespace Cs
open PySem PySem.Spec PyProof.Rows L2 Dl
def DdOk (d : Dd) : Prop := match d with
  | .hear _ c => isS c
  | _ => True
theorem ValD.dd {f : Fm} {s : Sd} {d : Dd} (v : ValD f s d) : DdOk d := by
  cases d with
  | hear m c => exact v.2
  | _ => trivial
theorem RunV.dd {f : Fm} : ∀ {L : List Dd} {s sA : Sd}, RunV f s L sA → ∀ d ∈ L, DdOk d
  | [], _, _, _, d, h => by cases h
  | x :: r, s, sA, h, d, hd => by
    rcases List.mem_cons.mp hd with rfl | hd
    · exact h.1.dd
    · exact RunV.dd h.2 d hd
theorem RunV.ok {f : Fm} : ∀ {L : List Dd} {s sA : Sd}, RunV f s L sA → ∀ d ∈ L, okDd f d
  | [], _, _, _, d, h => by cases h
  | x :: r, s, sA, h, d, hd => by
    rcases List.mem_cons.mp hd with rfl | hd
    · exact h.1.ok
    · exact RunV.ok h.2 d hd
theorem okDs_dd : ∀ {L : List Dd}, (∀ d ∈ L, DdOk d) → okDs 20 (L.map ddD) = true
  | [], _ => rfl
  | d :: r, h => by
    rw [List.map_cons]
    unfold okDs
    rw [okDs_dd fun x hx => h x (List.mem_cons_of_mem _ hx)]
    have hd := h d List.mem_cons_self
    have l1 : PyData.canLay0 (.str "own") = true := by decide +kernel
    have l2 : PyData.canLay0 (.str "hear") = true := by decide +kernel
    have l3 : PyData.canLay0 (.str "come") = true := by decide +kernel
    cases d with
    | own m => simp [ddD, okD, okDs, l1]
    | hear m c => simp [ddD, okD, okDs, l2, lay_sg hd]
    | come a b => simp [ddD, okD, okDs, l3]
def G__law_other_order : DRs := fun ds μ Q => ∃ (pf pc : Addr) (k : Nat) (Pr : Addr → Prop) (f : Fm) (b : Sd) (A : WA) (dds : List Dd) (s : Sd) (tb : Nat), ds = [.ref pf, .ref A.w] ∧ Fd pf pc k μ ∧ k < 10000000 ∧ Pr pf ∧ WIs Pr μ f b A dds s (enDs f dds) tb ∧ World f b dds s ∧
  ∀ po dds2 μ', Ord f b dds dds2 → μ' po = some (.lst (dds2.map ddD)) → Fd pf pc (k + 100) μ' → ExtF pf μ μ' → Q (.ref po) μ'
theorem u__law_other_order {pf pc : Addr} {k : Nat} {Pr : Addr → Prop} {f : Fm} {b : Sd} {A : WA} {dds : List Dd} {s : Sd} {tb : Nat} {μ Q} (hF : Fd pf pc k μ) (hk : k < 10000000) (hp : Pr pf) (W : WIs Pr μ f b A dds s (enDs f dds) tb) (w : World f b dds s)
  (q : ∀ po dds2 μ', Ord f b dds dds2 → μ' po = some (.lst (dds2.map ddD)) → Fd pf pc (k + 100) μ' → ExtF pf μ μ' → Q (.ref po) μ') : G__law_other_order [.ref pf, .ref A.w] μ Q := ⟨pf, pc, k, Pr, f, b, A, dds, s, tb, rfl, hF, hk, hp, W, w, q⟩
theorem d__law_other_order (ds μ Q) (h : G__law_other_order ds μ Q) : Body (t__law_other_order G__law_machine G__law_begun G__law_can G__law_do G__law_draw) 8 ds μ Q := by
  obtain ⟨pf, pc, k, Pr, f, b, A, dds, s, tb, rfl, hF, hk, hpf, W, wd, q⟩ := h
  have hz : 200000 ≤ sizeLine := by decide
  have of := wd.of
  have ob := wd.ob
  have hn4 := of.n4
  have hr8 := of.r8
  have h35 := wd.few
  have hen := enDs_len f dds
  have hokd := wd.run.ok
  simp [-Bool.exists_bool, -Prod.exists, Body, t__law_other_order, W.aw, v_ends, W.ae, hen]
  refine ⟨by omega, ?_⟩
  rw [rg0]
  refine lc_gen (fun r acc μ2 => ∃ rs, acc = rs.map D.ref ∧ rs.Nodup ∧ (∀ a ∈ rs, μ a = none) ∧ (∀ a c, μ a = some c → μ2 a = some c) ∧ rs.length + r.length = f.rules.length ∧ r = (List.range f.rules.length).drop rs.length ∧ ∀ (i : Nat) (a : Addr), rs[i]? = some a → μ2 a = some (.lst ((ofM f i dds).map ddD))) ?_ ?_
    ⟨[], rfl, by simp, by simp, ext0, by simp, rfl, by simp⟩
  · rintro m r acc μ2 Y N ⟨rs, rfl, nd, hfr, e, hl, hdr, hat⟩ hY hN
    rw [List.length_cons] at hl
    have hlt : rs.length < (List.range f.rules.length).length := by rw [List.length_range]; omega
    rw [List.drop_eq_getElem_cons hlt] at hdr
    obtain ⟨hm, hdr'⟩ := List.cons.inj hdr
    rw [List.getElem_range] at hm
    subst hm
    have W2 := W.ext e
    simp [-Bool.exists_bool, -Prod.exists, W2.aw, v_deeds, W2.ad]
    refine lc_map (fun d => ofDd f d == rs.length) ddD W2.ad (fun d hd Y2 N2 hy hn => ?_) (by omega) ?_
    · simp [-Bool.exists_bool, -Prod.exists]
      refine u__law_machine W2 (hokd d hd) ?_
      by_cases h : ofDd f d = rs.length
      · simp [h]; exact hy (by simp [h])
      · simp [h]; exact hn (by simp [h])
    · intro p hp
      have hpr : p ∉ rs := fun hm => by
        obtain ⟨i, hi, rfl⟩ := List.mem_iff_getElem.mp hm
        rw [hat i _ (List.getElem?_eq_getElem hi)] at hp; cases hp
      refine hY _ _ ⟨rs ++ [p], by simp, ?_, fun a ha => ?_, ext1 hp e, by rw [List.length_append, List.length_singleton]; omega, by rw [List.length_append, List.length_singleton]; exact hdr', fun i a hi => ?_⟩ (by rw [List.length_map]; omega) trivial
      · rw [List.nodup_append]
        exact ⟨nd, by simp, fun a ha b hb e => by simp at hb; subst hb; subst e; exact hpr ha⟩
      · rcases List.mem_append.mp ha with ha | ha
        · exact hfr a ha
        · simp at ha; subst ha; exact none_of e hp
      · rcases Nat.lt_or_ge i rs.length with h | h
        · rw [List.getElem?_append_left h] at hi
          have hm := List.mem_of_getElem? hi
          rw [updM_ne (fun e => hpr (by rw [← e]; exact hm))]
          exact hat i a hi
        · rw [List.getElem?_append_right h] at hi
          have h0 : i - rs.length = 0 := by
            have := (List.getElem?_eq_some_iff.mp hi).1
            simp at this; omega
          rw [h0] at hi
          simp at hi
          subst hi
          rw [show i = rs.length by omega]
          exact updM_same
  · rintro acc μ2 ⟨rs, rfl, nd, hfr, e, hl, hdr, hat⟩
    rw [List.length_nil] at hl
    intro pr hpr
    have hprr : pr ∉ rs := fun hm => by
      obtain ⟨i, hi, rfl⟩ := List.mem_iff_getElem.mp hm
      rw [hat i _ (List.getElem?_eq_getElem hi)] at hpr; cases hpr
    have E3 := ext1 (c := .lst (rs.map D.ref)) hpr e
    have W3 := W.ext E3
    have S3p : updM μ2 pr (.lst (rs.map D.ref)) pr = some (.lst (rs.map D.ref)) := updM_same
    have S3r : ∀ (i : Nat) (a : Addr), rs[i]? = some a → updM μ2 pr (.lst (rs.map D.ref)) a = some (.lst ((ofM f i dds).map ddD)) := fun i a hi => by
      rw [updM_ne (fun e => hprr (by rw [← e]; exact List.mem_of_getElem? hi))]; exact hat i a hi
    generalize updM μ2 pr (.lst (rs.map D.ref)) = μ3 at *
    simp [-Bool.exists_bool, -Prod.exists, W3.aw, v_form, v_base]
    refine u__law_begun (by omega) (by omega) ob.ld (by rw [ob.st]; omega) (fun l hl => (ob.ok l hl).n) fun A2 μ4 V x4 => ?_
    have f3 : Fd pf pc k μ3 := hF.keep (by obtain ⟨c, hc⟩ := hF.at1; rw [hc, E3 _ _ hc]) (by obtain ⟨c, hc⟩ := hF.at2; rw [hc, E3 _ _ hc])
    have f4 : Fd pf pc k μ4 := f3.keep (by obtain ⟨c, hc⟩ := f3.at1; rw [hc, x4 _ _ hc]) (by obtain ⟨c, hc⟩ := f3.at2; rw [hc, x4 _ _ hc])
    have W4 := W3.ext x4
    have P3 : ∀ {a c}, μ3 a = some c → PrOf μ3 a := fun h => by unfold PrOf; rw [h]; simp
    have hPf : PrOf μ3 pf := by obtain ⟨c, hc⟩ := f3.at1; exact P3 hc
    have hPc : PrOf μ3 pc := by obtain ⟨c, hc⟩ := f3.at2; exact P3 hc
    have hrf : pr ≠ pf := fun h => by obtain ⟨c, hc⟩ := hF.at1; subst h; rw [e _ _ hc] at hpr; cases hpr
    have hrsf : ∀ a ∈ rs, a ≠ pf := fun a ha h => by obtain ⟨c, hc⟩ := hF.at1; subst h; rw [hfr _ ha] at hc; cases hc
    have hrsc : ∀ a ∈ rs, a ≠ pc := fun a ha h => by obtain ⟨c, hc⟩ := hF.at2; subst h; rw [hfr _ ha] at hc; cases hc
    simp [-Bool.exists_bool, -Prod.exists, W4.aw, v_deeds, W4.ad]
    refine ⟨by omega, ?_⟩
    rw [rg0]
    refine for_map (fun r ρ μ' => ∃ x y L dds2 s2, ∃ (k' : Nat), ρ = [some (.ref pf), some (.ref A.w), some (.ref pr), none, none, some (.ref A2.w), x, y] ∧ Fd pf pc k' μ' ∧ ExtF pf μ μ' ∧ WIs (PrOf μ3) μ' f b A2 dds2 s2 (enDs f dds2) (100 + 2 * dds2.length) ∧ μ' pr = some (.lst (rs.map D.ref)) ∧ (∀ (i : Nat) (a : Addr), rs[i]? = some a → μ' a = some (.lst ((ofM f i L).map ddD))) ∧
        InvS f s2 dds2.length ∧ RunV f s2 L s ∧ L.length = r.length ∧ dds2.length + L.length = dds.length ∧ (∀ M, Ord f s2 L M → Ord f b dds (dds2 ++ M)) ∧ k' + 2 * r.length ≤ k + 90) ?_ ?_
      ⟨_, _, dds, [], b, k, rfl, f4, fun a c _ h => x4 _ _ (E3 a c h), V, x4 _ _ S3p, fun i a hi => x4 _ _ (S3r i a hi), InvS.start of ob, wd.run, by simp, by simp, fun M h => h, by simp; omega⟩
    · rintro j r ρ μ5 N ⟨x, y, L, dds2, s2, k', rfl, f5, e5, V5, r5, a5, inv, hrun, hLr, hlen, hord, hk'⟩ hN
      rw [List.length_cons] at hLr hk'
      have hdok := hrun.dd
      have hLok := hrun.ok
      obtain ⟨d0, L0, rfl⟩ : ∃ d0 L0, L = d0 :: L0 := by
        cases L with
        | nil => cases hLr
        | cons a t => exact ⟨a, t, rfl⟩
      have hm0 : ofDd f d0 < f.rules.length := of_lt inv.o (hLok d0 List.mem_cons_self)
      have hd0 : ofM f (ofDd f d0) (d0 :: L0) = d0 :: ofM f (ofDd f d0) L0 := by rw [ofM_cons, if_pos rfl]
      have hc0 := hrun.1.can
      have hfew : ∀ l ∈ s2.ld, l.2.length ≤ 200 := fun l hl => by have := (inv.l l hl).2.2.1; omega
      generalize d0 :: L0 = L at *
      simp [-Bool.exists_bool, -Prod.exists, r5]
      refine ⟨by omega, ?_⟩
      rw [rg0]
      refine lc_gen (fun t acc μ6 => ∃ dn : List Nat, acc = dn.map nD ∧ (∀ a c, μ5 a = some c → μ6 a = some c) ∧ dn.length + t.length ≤ 4 ∧ (∀ m ∈ t, m < rs.length) ∧ (∀ m ∈ dn, m < rs.length ∧ ∃ d q, ofM f m L = d :: q ∧ canW f s2 d = true) ∧ ∀ m, m < rs.length → m ∉ t → (∃ d q, ofM f m L = d :: q ∧ canW f s2 d = true) → m ∈ dn) ?_ ?_
        ⟨[], rfl, ext0, by simp; omega, fun m hm => List.mem_range.mp hm, by simp, fun m h1 h2 => absurd (List.mem_range.mpr h1) h2⟩
      · rintro m t acc μ6 Y N2 ⟨dn, rfl, e6, hl6, hmt, hdn, hcom⟩ hY hN2
        rw [List.length_cons] at hl6
        have hmr := hmt m List.mem_cons_self
        have hmt' : ∀ m ∈ t, m < rs.length := fun z hz => hmt z (List.mem_cons_of_mem _ hz)
        obtain ⟨ra, era⟩ : ∃ ra, rs[m]? = some ra := ⟨_, List.getElem?_eq_getElem hmr⟩
        have a6 := e6 _ _ (a5 m ra era)
        have V6 := V5.ext e6
        have ok1 : okDs 20 ((ofM f m L).map ddD) = true := okDs_dd fun d hd => hdok d (List.mem_filter.mp hd).1
        have skip : (¬ ∃ d q, ofM f m L = d :: q ∧ canW f s2 d = true) → ∀ μ7, (∀ a c, μ5 a = some c → μ7 a = some c) → N2 μ7 := fun hno μ7 e7 => hN2 _ ⟨dn, rfl, e7, by omega, hmt', hdn, fun z hz hzt hex => by
          by_cases hzm : z = m
          · subst hzm; exact absurd hex hno
          · exact hcom z hz (by simp [hzm, hzt]) hex⟩ trivial
        simp [-Bool.exists_bool, -Prod.exists, e6 _ _ r5, era]
        intro p1 h1
        have n1 : ra ≠ p1 := mu_ne a6 h1
        have e7 := ext1 (c := .lst []) h1 e6
        have V7 := V6.new (c := .lst []) h1
        simp [-Bool.exists_bool, -Prod.exists, updM_ne n1, a6, lstOf, ok1, bqs_nil]
        cases hof : ofM f m L with
        | nil =>
          simp
          exact skip (fun ⟨d, q, h, _⟩ => by rw [hof] at h; cases h) _ e7
        | cons d qq =>
          have hdL : d ∈ L := by
            have : d ∈ ofM f m L := by rw [hof]; exact List.mem_cons_self
            exact (List.mem_filter.mp this).1
          have nr : pr ≠ p1 := mu_ne (e6 _ _ r5) h1
          simp [-Bool.exists_bool, -Prod.exists, updM_ne nr, e6 _ _ r5, era, updM_ne n1, a6, hof]
          refine u__law_can V7 (hLok d hdL) inv.o.ld hfew ?_
          by_cases hcan : canW f s2 d = true
          · simp [hcan]
            refine hY _ _ ⟨dn ++ [m], by rw [List.map_append]; rfl, e7, by rw [List.length_append, List.length_singleton]; omega, hmt', fun z hz => ?_, fun z hz hzt hex => ?_⟩ (by rw [List.length_map]; omega) trivial
            · rcases List.mem_append.mp hz with hz | hz
              · exact hdn z hz
              · simp at hz; subst hz; exact ⟨hmr, d, qq, hof, hcan⟩
            · by_cases hzm : z = m
              · subst hzm; simp
              · exact List.mem_append_left _ (hcom z hz (by simp [hzm, hzt]) hex)
          · simp [hcan]
            exact skip (fun ⟨d', q', h, h'⟩ => by rw [hof] at h; cases h; exact hcan h') _ e7
      · rintro acc μ6 ⟨dn, rfl, e6, hl6, hmt, hdn, hcom⟩
        rw [List.length_nil] at hl6
        have hne : dn ≠ [] := fun h => by
          have := hcom (ofDd f d0) (by omega) (by simp) ⟨d0, _, hd0, hc0⟩
          rw [h] at this; cases this
        have hdl : 0 < dn.length := List.length_pos_iff.mpr hne
        intro p7 h7
        have e7 := ext1 (c := .lst (dn.map nD)) h7 e6
        have f6 : Fd pf pc k' μ6 := f5.keep (by obtain ⟨c, hc⟩ := f5.at1; rw [hc, e6 _ _ hc]) (by obtain ⟨c, hc⟩ := f5.at2; rw [hc, e6 _ _ hc])
        have f7 := f6.new (c := .lst (dn.map nD)) h7
        have n7f := f6.ne1 h7
        have V7 := (V5.ext e6).new (c := .lst (dn.map nD)) h7
        have p77 : updM μ6 p7 (.lst (dn.map nD)) p7 = some (.lst (dn.map nD)) := updM_same
        generalize updM μ6 p7 (.lst (dn.map nD)) = μ7 at e7 f7 V7 p77 ⊢
        simp [-Bool.exists_bool, -Prod.exists, p77]
        refine u__law_draw f7 (by omega) hdl (by omega) fun v hv μ8 f8 o8 => ?_
        have ev := List.getElem?_eq_getElem hv
        have mv := List.getElem_mem hv
        generalize dn[v] = m at ev mv
        obtain ⟨hmr, d, qq, hof, hcan⟩ := hdn m mv
        obtain ⟨ra, era⟩ : ∃ ra, rs[m]? = some ra := ⟨_, List.getElem?_eq_getElem hmr⟩
        have hram := List.mem_of_getElem? era
        have p78 : μ8 p7 = some (.lst (dn.map nD)) := by rw [o8.at1 n7f]; exact p77
        have r8 : μ8 pr = some (.lst (rs.map D.ref)) := by rw [o8.at1 hrf]; exact e7 _ _ r5
        have a8 : ∀ (i : Nat) (a : Addr), rs[i]? = some a → μ8 a = some (.lst ((ofM f i L).map ddD)) := fun i a hi => by rw [o8.at1 (hrsf a (List.mem_of_getElem? hi))]; exact e7 _ _ (a5 i a hi)
        have V8 := V7.outR hPf o8 (by obtain ⟨c, hc⟩ := f8.at1; rw [hc]; simp)
        have ara := a8 m ra era
        rw [hof, List.map_cons] at ara
        have hPra : PrOf μ3 ra := P3 (S3r m ra era)
        have hdm : ofDd f d = m := by
          have : d ∈ ofM f m L := by rw [hof]; exact List.mem_cons_self
          have := (List.mem_filter.mp this).2
          simpa using this
        subst hdm
        simp [-Bool.exists_bool, -Prod.exists, p78, ev, r8, era, ara]
        have V9 : WIs (PrOf μ3) (updM μ8 ra (.lst (qq.map ddD))) f b A2 dds2 s2 (enDs f dds2) (100 + 2 * dds2.length) := V8.outR hPra outR1 (by rw [updM_same]; simp)
        obtain ⟨vd, hrun2⟩ := first_ok of inv (by omega) hrun hof hcan
        obtain ⟨g, inv2⟩ := inv.good of (by omega) vd
        refine ⟨_, _, ⟨rfl, rfl⟩, ?_⟩
        refine u__law_do V9 g inv.nd inv.sg (enDs_len f dds2) (by omega) (by omega) fun μ10 V10 fr10 => ?_
        rw [← enDs_snoc] at V10
        have hrra : pr ≠ ra := fun h => by subst h; exact hprr hram
        have f9 := (f8.upd (c := .lst (qq.map ddD)) (hrsf ra hram) (hrsc ra hram)).keep (fr10 pf hPf) (fr10 pc hPc)
        refine hN _ _ trivial ⟨_, _, rmFirst f (ofDd f d) L, dds2 ++ [d], _, k' + 1, rfl, f9, fun a c n h => ?_, V10.tb' (by rw [List.length_append, List.length_singleton]; omega), ?_, fun i a hi => ?_, by rw [List.length_append, List.length_singleton]; exact inv2, hrun2, by have := rm_len f _ L d qq hof; omega, by have := rm_len f _ L d qq hof; rw [List.length_append, List.length_singleton]; omega, fun M hM => ?_, by omega⟩
        · have hP : PrOf μ3 a := P3 (E3 a c h)
          rw [fr10 a hP, updM_ne (fun e => by subst e; rw [hfr _ hram] at h; cases h), o8.at1 n]
          exact e7 _ _ (e5 a c n h)
        · rw [fr10 pr (P3 S3p), updM_ne hrra]; exact r8
        · rw [fr10 a (P3 (S3r i a hi)), ofM_rm f (ofDd f d) i L d qq hof]
          by_cases hi2 : i = ofDd f d
          · subst hi2
            rw [era] at hi
            cases hi
            rw [if_pos rfl]; exact updM_same
          · rw [if_neg hi2, updM_ne (fun e => hi2 (nodup_at nd (by rw [e] at hi; exact hi) era))]
            exact a8 i a hi
        · have := hord (d :: M) (.step vd hof hM)
          simpa using this
    · rintro ρ μ5 ⟨x, y, L, dds2, s2, k', rfl, f5, e5, V5, r5, a5, inv, hrun, hLr, hlen, hord, hk'⟩
      have hL : L = [] := List.length_eq_zero_iff.mp hLr
      subst hL
      rw [List.length_nil] at hk'
      have := hord [] (.nil s2)
      rw [List.append_nil] at this
      simp [-Bool.exists_bool, -Prod.exists, V5.aw, v_deeds]
      exact Fg.same (q A2.d dds2 μ5 this V5.ad (f5.mono (by omega)) e5)
end Cs

/-! ## PlA -/
namespace Cs
open PySem PySem.Spec PyProof.Rows L2 Dl
/-! ### the plain law of the lowering -/
theorem lastL_mem {l : List Nat} (h : l ≠ []) : lastL l ∈ l := List.mem_of_getElem? (last_at h)
theorem trip_self {ts : List Tp} {t : Tp} (nd : (ts.map fun t => (t.rd, t.nm)).Nodup) (h : t ∈ ts) : tripOf ts (t.rd, t.nm) = some t := by
  unfold tripOf
  cases e : ts.find? (fun u => decide ((u.rd, u.nm) = (t.rd, t.nm))) with
  | none => have := List.find?_eq_none.mp e t h; simp at this
  | some u =>
    have h1 := List.find?_some e
    have h2 := List.mem_of_find?_eq_some e
    simp only [decide_eq_true_eq] at h1
    obtain ⟨i, hi, rfl⟩ := List.mem_iff_getElem.mp h
    obtain ⟨j, hj, rfl⟩ := List.mem_iff_getElem.mp h2
    have := nodup_at (l := ts.map fun t => (t.rd, t.nm)) nd (i := i) (j := j) (by rw [List.getElem?_map, List.getElem?_eq_getElem hi]; rfl) (by rw [List.getElem?_map, List.getElem?_eq_getElem hj]; exact congrArg some h1)
    subst this
    rfl
/-- the trip that a way ends with -/
def endT (ts : List Tp) (ah : Option Tp) (w : Way) : Option Tp := match w.getLast? with
  | none => ah
  | some k => tripOf ts k
theorem WayOk.snoc {ts : List Tp} {cs : Cho} {t : Tp} {i j : Nat} {k : Lk} (ht : tripOf ts k = some t) (h1 : t.snd = some i) (h2 : t.com = some j) (h3 : t.one < cs.length) : ∀ (w : Way) (ah : Option Tp), WayOk ts cs ah w → (match endT ts ah w with
    | none => lastL (rowOf cs t.one) ≤ i
    | some a => t.one = a.other ∧ a.com.isSome = true ∧ floorL (rowOf cs t.one) (a.com.getD 0) ≤ i) → WayOk ts cs ah (w ++ [k])
  | [], ah, _, he => ⟨t, i, j, ht, h1, h2, h3, he, trivial⟩
  | x :: w, ah, hw, he => by
    obtain ⟨t0, i0, j0, g1, g2, g3, g4, g5, g6⟩ := hw
    refine ⟨t0, i0, j0, g1, g2, g3, g4, g5, WayOk.snoc ht h1 h2 h3 w (some t0) g6 ?_⟩
    have : endT ts ah (x :: w) = endT ts (some t0) w := by
      unfold endT
      cases w with
      | nil => exact g1
      | cons y w =>
        rw [List.getLast?_cons_cons]
        cases hz : (y :: w).getLast? with
        | none => simp at hz
        | some z => rfl
    rw [this] at he
    exact he
structure Inv2 (ts : List Tp) (cs : Cho) (s : LS) : Prop where
  i : InvL ts cs s
  mem : ∀ m, m < cs.length → s.1.getD m 0 ∈ rowOf cs m ∧ s.1.getD m 0 ≤ lastL (rowOf cs m)
  no : ∀ m, m < cs.length → getA s.2 m = none → s.1.getD m 0 = lastL (rowOf cs m)
  yes : ∀ m w, getA s.2 m = some w → WayOk ts cs none w ∧ ∃ k t j, w.getLast? = some k ∧ tripOf ts k = some t ∧ t.com = some j ∧ t.other = m ∧ s.1.getD m 0 = floorL (rowOf cs m) j ∧ j < lastL (rowOf cs m)
theorem getD_set {l : List Nat} {i j v : Nat} (h : i < l.length) : (l.set i v).getD j 0 = if i = j then v else l.getD j 0 := by
  rw [List.getD_eq_getElem?_getD, List.getD_eq_getElem?_getD]
  by_cases e : i = j
  · subst e; rw [List.getElem?_set_self h, if_pos rfl]; rfl
  · rw [List.getElem?_set_ne e, if_neg e]
theorem Inv2.start {ts : List Tp} {cs : Cho} (o : OkC cs) : Inv2 ts cs (line0 cs, []) := by
  have h0 : ∀ m, m < cs.length → (line0 cs).getD m 0 = lastL (rowOf cs m) := fun m hm => by
    obtain ⟨r, h1, h2, h3⟩ := row_at hm
    unfold line0
    rw [List.getD_eq_getElem?_getD, List.getElem?_map, h1, h3]; rfl
  refine ⟨⟨by unfold line0; rw [List.length_map], by simp, by simp, by simp, o.big⟩, fun m hm => ?_, fun m hm _ => h0 m hm, fun m w h => by simp [getA] at h⟩
  have h0 := h0 m hm
  obtain ⟨r, h1, h2, h3⟩ := row_at hm
  have hne : rowOf cs m ≠ [] := fun e => by have := o.z r h2; rw [← h3, e] at this; cases this
  show (line0 cs).getD m 0 ∈ _ ∧ (line0 cs).getD m 0 ≤ _
  rw [h0]
  exact ⟨lastL_mem hne, Nat.le_refl _⟩
theorem Inv2.step {ts : List Tp} {cs : Cho} {s : LS} {t : Tp} (o : OkC cs) (hts : TsOk cs.length ts) (nd : (ts.map fun t => (t.rd, t.nm)).Nodup) (v : Inv2 ts cs s) (h : crossL ts s.1 = some t) : Inv2 ts cs (stepL cs s t) := by
  obtain ⟨iv, lt⟩ := v.i.step o hts h
  obtain ⟨hm, i, j, e1, e2, h1, h2⟩ := cross_some h
  obtain ⟨o1, o2⟩ := hts t hm
  obtain ⟨r, g1, g2, g3⟩ := row_at o2
  obtain ⟨f1, f2⟩ := floorL_mem (n := j) (show 0 ∈ rowOf cs t.other by rw [g3]; exact o.z r g2)
  obtain ⟨m1, m2⟩ := v.mem t.other o2
  have hl : t.other < s.1.length := by rw [v.i.len]; exact o2
  have hline : ∀ m, (stepL cs s t).1.getD m 0 = if t.other = m then floorL (rowOf cs t.other) j else s.1.getD m 0 := fun m => by
    unfold stepL; rw [e2]; exact getD_set hl
  have hway : ∀ m, getA (stepL cs s t).2 m = if m = t.other then some ((getA s.2 t.one).getD [] ++ [(t.rd, t.nm)]) else getA s.2 m := fun m => getA_put
  have htr := trip_self nd hm
  refine ⟨iv, fun m hm' => ?_, fun m hm' hn => ?_, fun m w hw => ?_⟩
  · rw [hline]
    by_cases e : t.other = m
    · subst e; rw [if_pos rfl]; exact ⟨f1, by omega⟩
    · rw [if_neg e]; exact v.mem m hm'
  · rw [hway] at hn
    by_cases e : m = t.other
    · rw [if_pos e] at hn; cases hn
    · rw [if_neg e] at hn
      rw [hline, if_neg (fun z => e z.symm)]
      exact v.no m hm' hn
  · rw [hway] at hw
    rw [hline]
    by_cases e : m = t.other
    · rw [if_pos e] at hw
      cases hw
      rw [if_pos e.symm]
      subst e
      refine ⟨?_, (t.rd, t.nm), t, j, by simp, htr, e2, rfl, rfl, by omega⟩
      cases hg : getA s.2 t.one with
      | none =>
        refine WayOk.snoc htr e1 e2 o1 [] none trivial ?_
        have := v.no t.one o1 hg
        show lastL _ ≤ i
        rw [← this]; exact h2
      | some w0 =>
        obtain ⟨k1, k, t0, j0, k2, k3, k4, k5, k6, k7⟩ := v.yes t.one w0 hg
        refine WayOk.snoc htr e1 e2 o1 w0 none k1 ?_
        unfold endT
        rw [k2]
        simp only
        rw [k3]
        refine ⟨k5.symm, by rw [k4]; rfl, ?_⟩
        rw [k4]
        show floorL _ j0 ≤ i
        rw [← k6]; exact h2
    · rw [if_neg e] at hw
      rw [if_neg (fun z => e z.symm)]
      exact v.yes m w hw
theorem Inv2.low {ts : List Tp} {cs : Cho} (o : OkC cs) (hts : TsOk cs.length ts) (nd : (ts.map fun t => (t.rd, t.nm)).Nodup) : ∀ (n : Nat) (s : LS), Inv2 ts cs s → Inv2 ts cs (lowL ts cs n s) ∧ (s.1.sum ≤ n → crossL ts (lowL ts cs n s).1 = none)
  | 0, s, v => by
    refine ⟨v, fun h => ?_⟩
    cases e : crossL ts s.1 with
    | none => exact e
    | some t =>
      have := (v.i.step o hts e).2
      omega
  | n + 1, s, v => by
    cases e : crossL ts s.1 with
    | none =>
      have : lowL ts cs (n + 1) s = s := by simp only [lowL, e]
      rw [this]
      exact ⟨v, fun _ => e⟩
    | some t =>
      have : lowL ts cs (n + 1) s = lowL ts cs n (stepL cs s t) := by simp only [lowL, e]
      rw [this]
      obtain ⟨h1, h2⟩ := Inv2.low o hts nd n _ (v.step o hts nd e)
      exact ⟨h1, fun h => h2 (by have := (v.i.step o hts e).2; omega)⟩
theorem zip_filter (p : (Bool × List Nat) → Nat → Bool) : ∀ (l : Cho) (k : Nat), ((l.zipIdx k).filter fun x => p x.1 x.2).map (·.2) = (List.range' k l.length).filter fun m => p (l.getD (m - k) (false, [])) m
  | [], k => rfl
  | a :: r, k => by
    rw [List.zipIdx_cons, List.length_cons, List.range'_succ, List.filter_cons, List.filter_cons]
    have ih := zip_filter p r (k + 1)
    have e : (List.range' (k + 1) r.length).filter (fun m => p ((a :: r).getD (m - k) (false, [])) m) = (List.range' (k + 1) r.length).filter fun m => p (r.getD (m - (k + 1)) (false, [])) m := by
      refine List.filter_congr fun m hm => ?_
      have := (List.mem_range'_1.mp hm).1
      rw [show m - k = (m - (k + 1)) + 1 by omega]
      rfl
    rw [e]
    simp only [Nat.sub_self]
    by_cases h : p a k = true
    · rw [if_pos h, if_pos (by simpa using h), List.map_cons, ih]
    · rw [if_neg h, if_neg (by simpa using h), ih]
theorem nextL_at {r : List Nat} {v : Nat} (h : ∃ x ∈ r, v < x) : ∃ c, nextL r v = some c ∧ c ∈ r ∧ v < c := by
  unfold nextL
  obtain ⟨x, hx, hv⟩ := h
  cases e : r.filter (v < ·) with
  | nil =>
    have : x ∈ r.filter (v < ·) := List.mem_filter.mpr ⟨hx, by simpa using hv⟩
    rw [e] at this; cases this
  | cons a q =>
    have : a ∈ r.filter (v < ·) := by rw [e]; exact List.mem_cons_self
    obtain ⟨h1, h2⟩ := List.mem_filter.mp this
    exact ⟨a, rfl, h1, by simpa using h2⟩
theorem lowRes_inv {ts : List Tp} {cs : Cho} (o : OkC cs) (hts : TsOk cs.length ts) (nd : (ts.map fun t => (t.rd, t.nm)).Nodup) : ∃ ways, Inv2 ts cs ((lowRes ts cs).1, ways) ∧ crossL ts (lowRes ts cs).1 = none ∧ (lowRes ts cs).2 = (List.range cs.length).filterMap fun m => (getA ways m).map fun w => (m, w) := by
  obtain ⟨h1, h2⟩ := Inv2.low o hts nd (line0 cs).sum _ (Inv2.start (ts := ts) o)
  exact ⟨_, h1, h2 (Nat.le_refl _), rfl⟩
theorem line_ok {ts : List Tp} {cs : Cho} (o : OkC cs) (hts : TsOk cs.length ts) (nd : (ts.map fun t => (t.rd, t.nm)).Nodup) : LineOk ts cs (lowRes ts cs).1 (lowRes ts cs).2 := by
  obtain ⟨ways, v, hc, hw⟩ := lowRes_inv o hts nd
  rw [hw]
  generalize (lowRes ts cs).1 = line at *
  have hlt : ∀ m w, m < cs.length → getA ways m = some w → line.getD m 0 < lastL (rowOf cs m) := fun m w hm hg => by
    obtain ⟨_, k, t, j, k2, k3, k4, k5, k6, k7⟩ := v.yes m w hg
    obtain ⟨r, g1, g2, g3⟩ := row_at hm
    have := (floorL_mem (n := j) (show 0 ∈ rowOf cs m by rw [g3]; exact o.z r g2)).2
    have k6 : line.getD m 0 = _ := k6
    omega
  refine ⟨v.i.len, fun m hm => (v.mem m hm).1, hc, ?_, fun x hx => ?_⟩
  · unfold offs
    rw [zip_filter (fun r m => line.getD m 0 != lastL r.2) cs 0, ← filterMap_get, List.map_map, ← List.range_eq_range']
    rw [show ((fun x : Nat × Way => x.1) ∘ fun m => (m, (getA ways m).getD [])) = id from rfl, List.map_id]
    refine List.filter_congr fun m hm => ?_
    have hm := List.mem_range.mp hm
    have hr : (cs.getD (m - 0) (false, [])).2 = rowOf cs m := by
      unfold rowOf; rw [List.getD_eq_getElem?_getD]; rfl
    rw [hr]
    cases hg : getA ways m with
    | none =>
      have : line.getD m 0 = _ := v.no m hm hg
      rw [this]; simp
    | some w =>
      have := hlt m w hm hg
      simp only [Option.isSome_some, bne_iff_ne, ne_eq]
      omega
  · obtain ⟨m, hm, hx⟩ := List.mem_filterMap.mp hx
    have hm := List.mem_range.mp hm
    obtain ⟨w, hg, rfl⟩ := Option.map_eq_some_iff.mp hx
    obtain ⟨k1, k, t, j, k2, k3, k4, k5, k6, k7⟩ := v.yes m w hg
    obtain ⟨r, g1, g2, g3⟩ := row_at hm
    have hne : rowOf cs m ≠ [] := fun e => by have := o.z r g2; rw [← g3, e] at this; cases this
    obtain ⟨c, c1, c2, c3⟩ := nextL_at ⟨_, lastL_mem hne, hlt m w hm hg⟩
    refine ⟨hm, c, c1, ⟨k1, ?_, k, t, j, k2, k3, k4, k5, ?_⟩⟩
    · have := v.i.wl (m, w) (getA_mem hg)
      have : w.length + _ ≤ 100000 := this
      show w.length ≤ 200000
      omega
    · rcases Nat.lt_or_ge j c with h | h
      · exact h
      · have := floorL_max c2 h
        have k6 : line.getD m 0 = _ := k6
        have c3 : line.getD m 0 < c := c3
        omega
end Cs

/-! ## PlB -/
namespace Cs
open PySem PySem.Spec PyProof.Rows L2 Dl
structure OkR (r : List Nat) : Prop where
  z : 0 ∈ r
  inc : r.Pairwise (· < ·)
  le : ∀ x ∈ r, x ≤ 100
theorem nodup_len {l : List Nat} {n : Nat} (nd : l.Nodup) (hk : ∀ k ∈ l, k < n) : l.length ≤ n := by
  have hp : l.Perm ((List.range n).filter fun m => decide (m ∈ l)) := by
    rw [List.perm_ext_iff_of_nodup nd (List.nodup_range.sublist List.filter_sublist)]
    intro a
    rw [List.mem_filter, List.mem_range]
    exact ⟨fun h => ⟨hk a h, decide_eq_true h⟩, fun h => of_decide_eq_true h.2⟩
  have h1 := hp.length_eq
  have h2 := List.length_filter_le (fun m => decide (m ∈ l)) (List.range n)
  rw [List.length_range] at h2
  omega
theorem OkR.len {r : List Nat} (o : OkR r) : r.length ≤ 101 := nodup_len (o.inc.imp fun h => by omega) fun k hk => by have := o.le k hk; omega
theorem last_max {l : List Nat} (h : l.Pairwise (· < ·)) : ∀ x ∈ l, x ≤ lastL l := by
  intro x hx
  have hne : l ≠ [] := fun e => by rw [e] at hx; cases hx
  have hl := last_at hne
  obtain ⟨i, hi, rfl⟩ := List.mem_iff_getElem.mp hx
  obtain ⟨hj, he⟩ := List.getElem?_eq_some_iff.mp hl
  rw [← he]
  rcases Nat.lt_or_ge i (l.length - 1) with h1 | h1
  · exact Nat.le_of_lt (List.pairwise_iff_getElem.mp h i (l.length - 1) hi hj h1)
  · have : i = l.length - 1 := by omega
    subst this; exact Nat.le_refl _
theorem sum_le : ∀ {l : List Nat} {c : Nat}, (∀ x ∈ l, x ≤ c) → l.sum ≤ l.length * c
  | [], c, _ => by simp
  | a :: r, c, h => by
    have h1 := h a List.mem_cons_self
    have h2 := sum_le (l := r) (c := c) fun x hx => h x (List.mem_cons_of_mem _ hx)
    rw [List.sum_cons, List.length_cons, Nat.succ_mul]
    omega
theorem okC_of {cs : Cho} (h : ∀ r ∈ cs, OkR r.2) (hn : cs.length ≤ 10) : OkC cs := by
  refine ⟨hn, fun r hr => (h r hr).z, fun r hr => by have := (h r hr).len; omega, ?_⟩
  have : (line0 cs).sum ≤ (line0 cs).length * 100 := sum_le fun x hx => by
    obtain ⟨r, hr, rfl⟩ := List.mem_map.mp hx
    have o := h r hr
    exact o.le _ (lastL_mem fun e => by have := o.z; rw [e] at this; cases this)
  unfold line0 at this ⊢
  rw [List.length_map] at this
  omega
theorem okR_cut {ws : Wtd} {m : Nat} {r : Bool × List Nat} (h : OkR r.2) : OkR (cutR ws m r).2 := by
  unfold cutR
  split
  · rename_i c hc
    exact ⟨List.mem_filter.mpr ⟨h.z, by simp⟩, h.inc.sublist List.filter_sublist, fun x hx => h.le x (List.mem_filter.mp hx).1⟩
  · exact h
theorem okR_upto {cs : Cho} {ws : Wtd} (h : ∀ r ∈ cs, OkR r.2) : ∀ r ∈ uptoL cs ws, OkR r.2 := by
  intro r hr
  obtain ⟨x, hx, rfl⟩ := List.mem_map.mp hr
  exact okR_cut (h x.1 (List.mem_of_getElem? (List.mem_zipIdx_iff_getElem?.mp hx)))
theorem row_upto {cs : Cho} {ws : Wtd} {m : Nat} (hm : m < cs.length) : rowOf (uptoL cs ws) m = match getA ws m with
    | some c => (rowOf cs m).filter (· ≤ c)
    | none => rowOf cs m := by
  have e := List.getElem?_eq_getElem hm
  have : (uptoL cs ws)[m]? = some (cutR ws m cs[m]) := by
    unfold uptoL
    rw [List.getElem?_map, List.getElem?_zipIdx, e]
    simp
  unfold rowOf
  rw [this, e]
  simp only [Option.getD_some, cutR]
  cases getA ws m <;> rfl
theorem last_upto {cs : Cho} {ws : Wtd} {m c : Nat} (h : ∀ r ∈ cs, OkR r.2) (hm : m < cs.length) (hg : getA ws m = some c) (hc : c ∈ rowOf cs m) : lastL (rowOf (uptoL cs ws) m) = c := by
  rw [row_upto hm, hg]
  simp only
  obtain ⟨r, g1, g2, g3⟩ := row_at hm
  have o := h r g2
  rw [← g3] at o
  have hin : c ∈ (rowOf cs m).filter (· ≤ c) := List.mem_filter.mpr ⟨hc, by simp⟩
  have h1 := last_max (o.inc.sublist (List.filter_sublist (p := fun x => decide (x ≤ c)))) c hin
  have h2 := lastL_mem (l := (rowOf cs m).filter (· ≤ c)) (fun e => by rw [e] at hin; cases hin)
  have h3 := (List.mem_filter.mp h2).2
  have h3 : lastL ((rowOf cs m).filter (· ≤ c)) ≤ c := by simpa using h3
  omega
theorem okW_of {cs : Cho} {ws : Wtd} (h : ∀ r ∈ cs, OkR r.2) (hn : cs.length ≤ 10) : OkW cs ws := ⟨okC_of h hn, okC_of (okR_upto h) (by rw [upto_len]; exact hn)⟩
section
variable {ts : List Tp} {cs : Cho} {ws : Wtd} (h : ∀ r ∈ cs, OkR r.2) (hn : cs.length ≤ 10) (hts : TsOk cs.length ts) (nd : (ts.map fun t => (t.rd, t.nm)).Nodup) (hw : OkWtd cs ws)
include h hn hts nd hw
theorem hit_ok {w : Way} (hh : hitL ts cs ws = some w) : WayW ts (uptoL cs ws) ws w := by
  have o2 := (okW_of (ws := ws) h hn).u
  obtain ⟨ways, v, hc, he⟩ := lowRes_inv o2 (by rw [upto_len]; exact hts) nd
  unfold hitL at hh
  rw [he] at hh
  obtain ⟨x, hx, rfl⟩ := Option.map_eq_some_iff.mp hh
  have h1 := List.find?_some hx
  have h2 := List.mem_of_find?_eq_some hx
  obtain ⟨m, hm, hxm⟩ := List.mem_filterMap.mp h2
  have hm := List.mem_range.mp hm
  rw [upto_len] at hm
  obtain ⟨w, hg, rfl⟩ := Option.map_eq_some_iff.mp hxm
  obtain ⟨c, hc⟩ := Option.isSome_iff_exists.mp h1
  have hcm := getA_mem hc
  obtain ⟨k1, k, t, j, k2, k3, k4, k5, k6, k7⟩ := v.yes m w hg
  rw [last_upto h hm hc (hw.mem _ hcm).2] at k7
  refine ⟨k1, ?_, k, t, j, k2, k3, k4, (m, c), hcm, k5, k7⟩
  have := v.i.wl (m, w) (getA_mem hg)
  have : w.length + _ ≤ 100000 := this
  show w.length ≤ 200000
  omega
theorem nohit_ok (hh : hitL ts cs ws = none) : LineOk ts (uptoL cs ws) (lowRes ts (uptoL cs ws)).1 (lowRes ts (uptoL cs ws)).2 ∧ ∀ x ∈ ws, (lowRes ts (uptoL cs ws)).1[x.1]? = some x.2 := by
  have o2 := (okW_of (ws := ws) h hn).u
  have ht2 : TsOk (uptoL cs ws).length ts := by rw [upto_len]; exact hts
  refine ⟨line_ok o2 ht2 nd, fun x hx => ?_⟩
  obtain ⟨ways, v, hc, he⟩ := lowRes_inv o2 ht2 nd
  unfold hitL at hh
  rw [he] at hh
  have hno := Option.map_eq_none_iff.mp hh
  obtain ⟨x1, x2⟩ := hw.mem x hx
  have hgx := getA_of hw.nd hx
  have hnw : getA ways x.1 = none := by
    cases hg : getA ways x.1 with
    | none => rfl
    | some w =>
      have := List.find?_eq_none.mp hno (x.1, w) (List.mem_filterMap.mpr ⟨x.1, List.mem_range.mpr (by rw [upto_len]; exact x1), by rw [hg]; rfl⟩)
      simp [hgx] at this
  have hx' : x.1 < (uptoL cs ws).length := by rw [upto_len]; exact x1
  have := v.no x.1 hx' hnw
  rw [last_upto h x1 hgx x2] at this
  have hl := v.i.len
  rw [getD_at (show x.1 < (lowRes ts (uptoL cs ws)).1.length by have hl : (lowRes ts (uptoL cs ws)).1.length = _ := hl; omega)]
  exact congrArg some this
end
theorem okR_cho {en : List Nat} {cs : Cho} (c : OkCho en cs) (h : ∀ n ∈ en, n ≤ 100) : ∀ r ∈ cs, OkR r.2 ∧ r.1 = true := by
  intro r hr
  obtain ⟨i, hi, rfl⟩ := List.mem_iff_getElem.mp hr
  have hi2 : i < en.length := by rw [← c.len]; exact hi
  have o := c.row i _ _ (List.getElem?_eq_getElem hi) (List.getElem?_eq_getElem hi2)
  have h100 := h _ (List.getElem_mem hi2)
  obtain ⟨t, ht⟩ := o.z
  exact ⟨⟨by rw [ht]; exact List.mem_cons_self, o.inc, fun x hx => by have := o.le x hx; omega⟩, o.ft⟩
end Cs

/-! ## PlC -/
namespace Cs
open PySem PySem.Spec PyProof.Rows L2 Dl
/-! ### the plain law of the numbers -/
def tot (n : Nums) : Nat := (n.map List.sum).sum
theorem upP_facts {G : Nat → Nat} {row : List Nat} {b : Bool} {p : Nat} (h1 : 1 ≤ p) (hp : p < row.length) (hG : ∀ q, q + 1 < row.length → G q < G (q + 1)) (hb : ∀ q, q < row.length → row.getD q 0 ≤ G q) :
    (∀ q, q < row.length → (upP (row, b) p).1.getD q 0 ≤ G q) ∧ row.sum ≤ (upP (row, b) p).1.sum ∧ ((upP (row, b) p).2 = true → b = true ∨ row.sum < (upP (row, b) p).1.sum) ∧ ((upP (row, b) p).2 = false → (upP (row, b) p).1 = row ∧ b = false ∧ row.getD (p - 1) 0 < row.getD p 0) := by
  have hs := sum_set (l := row) (i := p) (v := row.getD (p - 1) 0 + 1) hp
  have hu : upP (row, b) p = if row.getD p 0 ≤ row.getD (p - 1) 0 then (row.set p (row.getD (p - 1) 0 + 1), true) else (row, b) := rfl
  rw [hu]
  by_cases h : row.getD p 0 ≤ row.getD (p - 1) 0
  · rw [if_pos h]
    refine ⟨fun q hq => ?_, ?_, fun _ => .inr ?_, fun h => by cases h⟩
    · show (row.set p _).getD q 0 ≤ G q
      rw [getD_set hp]
      split
      · rename_i e
        have g1 := hb (p - 1) (by omega)
        have g2 := hG (p - 1) (by omega)
        rw [show p - 1 + 1 = p by omega] at g2
        subst e
        omega
      · exact hb q hq
    · show row.sum ≤ (row.set p _).sum
      omega
    · show row.sum < (row.set p _).sum
      omega
  · rw [if_neg h]
    exact ⟨hb, Nat.le_refl _, fun h => .inl h, fun h2 => ⟨rfl, h2, by omega⟩⟩
theorem upR_facts {G : Nat → Nat} : ∀ (ps : List Nat) (row : List Nat) (b : Bool), (∀ p ∈ ps, 1 ≤ p ∧ p < row.length) → (∀ q, q + 1 < row.length → G q < G (q + 1)) → (∀ q, q < row.length → row.getD q 0 ≤ G q) →
    (∀ q, q < row.length → (ps.foldl upP (row, b)).1.getD q 0 ≤ G q) ∧ row.sum ≤ (ps.foldl upP (row, b)).1.sum ∧ ((ps.foldl upP (row, b)).2 = true → b = true ∨ row.sum < (ps.foldl upP (row, b)).1.sum) ∧ ((ps.foldl upP (row, b)).2 = false → (ps.foldl upP (row, b)).1 = row ∧ b = false ∧ ∀ p ∈ ps, row.getD (p - 1) 0 < row.getD p 0)
  | [], row, b, _, hG, hb => ⟨hb, Nat.le_refl _, fun h => .inl h, fun h => ⟨rfl, h, by simp⟩⟩
  | p :: ps, row, b, hps, hG, hb => by
    obtain ⟨p1, p2⟩ := hps p List.mem_cons_self
    obtain ⟨a1, a2, a3, a4⟩ := upP_facts (b := b) p1 p2 hG hb
    have hl := upP_len (row, b) p
    have hl : (upP (row, b) p).1.length = row.length := hl
    rw [List.foldl_cons]
    rcases hs : upP (row, b) p with ⟨row2, b2⟩
    rw [hs] at a1 a2 a3 a4 hl
    simp only at a1 a2 a3 a4 hl
    obtain ⟨c1, c2, c3, c4⟩ := upR_facts ps row2 b2 (fun q hq => by rw [hl]; exact hps q (List.mem_cons_of_mem _ hq)) (by rw [hl]; exact hG) (by rw [hl]; exact a1)
    rw [hl] at c1
    refine ⟨c1, by omega, fun h => ?_, fun h => ?_⟩
    · rcases c3 h with h | h
      · rcases a3 h with h | h
        · exact .inl h
        · exact .inr (by omega)
      · exact .inr (by omega)
    · obtain ⟨d1, d2, d3⟩ := c4 h
      obtain ⟨e1, e2, e3⟩ := a4 d2
      subst e1
      exact ⟨d1, e2, fun q hq => by
        rcases List.mem_cons.mp hq with rfl | hq
        · exact e3
        · exact d3 q hq⟩
def Bd (F : Nat → Nat → Nat) (n : Nums) : Prop := ∀ i p, i < n.length → p < (n.getD i []).length → at2 n i p ≤ F i p
def Inc (F : Nat → Nat → Nat) (n : Nums) : Prop := ∀ i q, i < n.length → q + 1 < (n.getD i []).length → F i q < F i (q + 1)
theorem ph_facts : ∀ (n : Nums) (b : Bool) (F : Nat → Nat → Nat), Inc F n → Bd F n →
    Bd F (phase1 n b).1 ∧ tot n ≤ tot (phase1 n b).1 ∧ ((phase1 n b).2 = true → b = true ∨ tot n < tot (phase1 n b).1) ∧ ((phase1 n b).2 = false → (phase1 n b).1 = n ∧ b = false ∧ ∀ row ∈ n, ∀ p, p + 1 < row.length → row.getD p 0 < row.getD (p + 1) 0)
  | [], b, F, _, hb => ⟨hb, Nat.le_refl _, fun h => .inl h, fun h => ⟨rfl, h, by simp⟩⟩
  | row :: r, b, F, hi, hb => by
    have hi0 : ∀ q, q + 1 < row.length → F 0 q < F 0 (q + 1) := fun q hq => hi 0 q (by simp) hq
    have hb0 : ∀ q, q < row.length → row.getD q 0 ≤ F 0 q := fun q hq => hb 0 q (by simp) hq
    obtain ⟨a1, a2, a3, a4⟩ := upR_facts (G := F 0) ((List.range (row.length - 1)).map (1 + ·)) row b (fun p hp => by
      obtain ⟨j, hj, rfl⟩ := List.mem_map.mp hp
      have := List.mem_range.mp hj
      omega) hi0 hb0
    have hl : (upRow row b).1.length = row.length := upR_len _ _
    simp only [phase1]
    change (∀ q, q < row.length → (upRow row b).1.getD q 0 ≤ F 0 q) at a1
    change row.sum ≤ (upRow row b).1.sum at a2
    change (upRow row b).2 = true → b = true ∨ row.sum < (upRow row b).1.sum at a3
    change (upRow row b).2 = false → (upRow row b).1 = row ∧ b = false ∧ _ at a4
    rcases hs : upRow row b with ⟨row2, b2⟩
    rw [hs] at a1 a2 a3 a4 hl
    simp only at a1 a2 a3 a4 hl
    obtain ⟨c1, c2, c3, c4⟩ := ph_facts r b2 (fun i => F (i + 1)) (fun i q h1 h2 => hi (i + 1) q (by simpa using h1) h2) (fun i p h1 h2 => hb (i + 1) p (by simpa using h1) h2)
    have ht : ∀ (x : List Nat) (y : Nums), tot (x :: y) = x.sum + tot y := fun x y => by unfold tot; rw [List.map_cons, List.sum_cons]
    rw [ht, ht]
    dsimp only
    refine ⟨fun i p h1 h2 => ?_, by omega, fun h => ?_, fun h => ?_⟩
    · cases i with
      | zero => exact a1 p (by rw [← hl]; exact h2)
      | succ i => exact c1 i p (by simpa using h1) h2
    · rcases c3 h with h | h
      · rcases a3 h with h | h
        · exact .inl h
        · exact .inr (by omega)
      · exact .inr (by omega)
    · obtain ⟨d1, d2, d3⟩ := c4 h
      obtain ⟨e1, e2, e3⟩ := a4 d2
      subst e1
      refine ⟨by rw [d1], e2, fun x hx => ?_⟩
      rcases List.mem_cons.mp hx with rfl | hx
      · intro p hp
        have := e3 (1 + p) (List.mem_map.mpr ⟨p, List.mem_range.mpr (by omega), rfl⟩)
        rw [show 1 + p - 1 = p by omega, show 1 + p = p + 1 by omega] at this
        exact this
      · exact d3 x hx
theorem tot_set : ∀ {n : Nums} {i : Nat} {row : List Nat}, i < n.length → tot (n.set i row) + (n.getD i []).sum = tot n + row.sum
  | a :: r, 0, row, h => by unfold tot; simp [List.sum_cons]; omega
  | a :: r, i + 1, row, h => by
    have := tot_set (n := r) (i := i) (row := row) (by simpa using h)
    unfold tot at this ⊢
    simp [List.sum_cons] at this ⊢
    omega
theorem at2_set {n : Nums} {i p v : Nat} (h1 : i < n.length) (h2 : p < (n.getD i []).length) (j q : Nat) : at2 (n.set i ((n.getD i []).set p v)) j q = if i = j ∧ p = q then v else at2 n j q := by
  unfold at2
  have hs : (n.set i ((n.getD i []).set p v)).getD j [] = if i = j then (n.getD i []).set p v else n.getD j [] := by
    rw [List.getD_eq_getElem?_getD, List.getD_eq_getElem?_getD (l := n) (i := j)]
    by_cases e : i = j
    · subst e; rw [List.getElem?_set_self h1, if_pos rfl]; rfl
    · rw [List.getElem?_set_ne e, if_neg e]
  rw [hs]
  by_cases e : i = j
  · subst e
    rw [if_pos rfl, getD_set h2]
    by_cases e2 : p = q
    · rw [if_pos e2, if_pos ⟨rfl, e2⟩]
    · rw [if_neg e2, if_neg (fun z => e2 z.2)]
  · rw [if_neg e, if_neg (fun z => e z.1)]
theorem st_facts {F : Nat → Nat → Nat} : ∀ (sts : List Stp) (n : Nums) (b : Bool), (∀ t ∈ sts, StOk n t ∧ F t.1 t.2.1 ≤ F t.2.2.1 t.2.2.2) → Bd F n →
    Bd F (sts.foldl stepN (n, b)).1 ∧ tot n ≤ tot (sts.foldl stepN (n, b)).1 ∧ ((sts.foldl stepN (n, b)).2 = true → b = true ∨ tot n < tot (sts.foldl stepN (n, b)).1) ∧ ((sts.foldl stepN (n, b)).2 = false → (sts.foldl stepN (n, b)).1 = n ∧ b = false ∧ ∀ t ∈ sts, at2 n t.1 t.2.1 ≤ at2 n t.2.2.1 t.2.2.2)
  | [], n, b, _, hb => ⟨hb, Nat.le_refl _, fun h => .inl h, fun h => ⟨rfl, h, by simp⟩⟩
  | t :: sts, n, b, hst, hb => by
    obtain ⟨⟨g1, g2, g3, g4⟩, gF⟩ := hst t List.mem_cons_self
    rw [List.foldl_cons]
    by_cases h : at2 n t.2.2.1 t.2.2.2 < at2 n t.1 t.2.1
    · have hs : stepN (n, b) t = (n.set t.2.2.1 ((n.getD t.2.2.1 []).set t.2.2.2 (at2 n t.1 t.2.1)), true) := by unfold stepN; rw [if_pos h]
      have hshp := stepN_shp (n, b) t
      rw [hs] at hshp ⊢
      have hts := tot_set (n := n) (i := t.2.2.1) (row := (n.getD t.2.2.1 []).set t.2.2.2 (at2 n t.1 t.2.1)) g3
      have hrs := sum_set (l := n.getD t.2.2.1 []) (i := t.2.2.2) (v := at2 n t.1 t.2.1) g4
      have hat := at2_set (v := at2 n t.1 t.2.1) g3 g4
      have hlt : tot n < tot (n.set t.2.2.1 ((n.getD t.2.2.1 []).set t.2.2.2 (at2 n t.1 t.2.1))) := by
        unfold at2 at h hts hrs ⊢
        omega
      have hb2 : Bd F (n.set t.2.2.1 ((n.getD t.2.2.1 []).set t.2.2.2 (at2 n t.1 t.2.1))) := fun i p h1 h2 => by
        rw [hat]
        split
        · rename_i e
          obtain ⟨e1, e2⟩ := e
          subst e1 e2
          exact Nat.le_trans (hb _ _ g1 g2) gF
        · exact hb i p (by rw [← shp_len hshp]; exact h1) (by rw [← shp_at hshp]; exact h2)
      generalize n.set t.2.2.1 ((n.getD t.2.2.1 []).set t.2.2.2 (at2 n t.1 t.2.1)) = n2 at *
      obtain ⟨c1, c2, c3, c4⟩ := st_facts sts n2 true (fun x hx => ⟨(hst x (List.mem_cons_of_mem _ hx)).1.of hshp, (hst x (List.mem_cons_of_mem _ hx)).2⟩) hb2
      refine ⟨c1, by omega, fun _ => .inr (by omega), fun h => ?_⟩
      have := (c4 h).2.1
      cases this
    · have hs : stepN (n, b) t = (n, b) := by unfold stepN; rw [if_neg h]
      rw [hs]
      obtain ⟨c1, c2, c3, c4⟩ := st_facts sts n b (fun x hx => hst x (List.mem_cons_of_mem _ hx)) hb
      refine ⟨c1, c2, c3, fun h2 => ?_⟩
      obtain ⟨d1, d2, d3⟩ := c4 h2
      refine ⟨d1, d2, fun x hx => ?_⟩
      rcases List.mem_cons.mp hx with rfl | hx
      · omega
      · exact d3 x hx
theorem raised_facts {F : Nat → Nat → Nat} {sts : List Stp} {n : Nums} (hi : Inc F n) (hst : ∀ t ∈ sts, StOk n t ∧ F t.1 t.2.1 ≤ F t.2.2.1 t.2.2.2) (hb : Bd F n) :
    Bd F (raisedL sts n).1 ∧ ((raisedL sts n).2 = true → tot n < tot (raisedL sts n).1) ∧ ((raisedL sts n).2 = false → (raisedL sts n).1 = n ∧ (∀ row ∈ n, ∀ p, p + 1 < row.length → row.getD p 0 < row.getD (p + 1) 0) ∧ ∀ t ∈ sts, at2 n t.1 t.2.1 ≤ at2 n t.2.2.1 t.2.2.2) := by
  obtain ⟨a1, a2, a3, a4⟩ := ph_facts n false F hi hb
  have hshp := phase1_shp n false
  unfold raisedL
  rcases hs : phase1 n false with ⟨n1, b1⟩
  rw [hs] at a1 a2 a3 a4 hshp
  simp only at a1 a2 a3 a4 hshp
  obtain ⟨c1, c2, c3, c4⟩ := st_facts (F := F) sts n1 b1 (fun t ht => ⟨(hst t ht).1.of hshp, (hst t ht).2⟩) a1
  refine ⟨c1, fun h => ?_, fun h => ?_⟩
  · rcases c3 h with h | h
    · rcases a3 h with h | h
      · cases h
      · omega
    · omega
  · obtain ⟨d1, d2, d3⟩ := c4 h
    obtain ⟨e1, e2, e3⟩ := a4 d2
    subst e1
    exact ⟨d1, e3, d3⟩
theorem tot_le {F : Nat → Nat → Nat} {n : Nums} {M : Nat} (hb : Bd F n) (hM : ∀ i p, F i p ≤ M) (hl : ∀ r ∈ n, r.length ≤ 1000) : tot n ≤ n.length * (1000 * M) := by
  have : tot n ≤ (n.map List.sum).length * (1000 * M) := by
    unfold tot
    refine sum_le fun x hx => ?_
    obtain ⟨row, hr, rfl⟩ := List.mem_map.mp hx
    obtain ⟨i, hi, rfl⟩ := List.mem_iff_getElem.mp hr
    have h1 : (n[i]).sum ≤ (n[i]).length * M := sum_le fun y hy => by
      obtain ⟨p, hp, rfl⟩ := List.mem_iff_getElem.mp hy
      have hg : n.getD i [] = n[i] := by rw [List.getD_eq_getElem?_getD, List.getElem?_eq_getElem hi]; rfl
      have := hb i p hi (by rw [hg]; exact hp)
      unfold at2 at this
      rw [hg, List.getD_eq_getElem?_getD, List.getElem?_eq_getElem hp] at this
      exact Nat.le_trans this (hM i p)
    have h2 := Nat.mul_le_mul_right M (hl _ hr)
    omega
  rw [List.length_map] at this
  exact this
theorem reach {F : Nat → Nat → Nat} {sts : List Stp} {M : Nat} (hM : ∀ i p, F i p ≤ M) (c : List Nat) : ∀ (k : Nat) (n : Nums), shp n = c → (∀ r ∈ n, r.length ≤ 1000) → Inc F n → (∀ t ∈ sts, StOk n t ∧ F t.1 t.2.1 ≤ F t.2.2.1 t.2.2.2) → Bd F n → n.length * (1000 * M) ≤ tot n + k →
    ∃ m res, ReachN sts m n res ∧ shp res = c ∧ (∀ row ∈ res, ∀ p, p + 1 < row.length → row.getD p 0 < row.getD (p + 1) 0) ∧ ∀ t ∈ sts, at2 res t.1 t.2.1 ≤ at2 res t.2.2.1 t.2.2.2 := by
  intro k
  induction k with
  | zero =>
    intro n hs hl hi hst hb hk
    obtain ⟨a1, a2, a3⟩ := raised_facts hi hst hb
    have hshp := shp_raised sts n
    by_cases h : (raisedL sts n).2 = true
    · have h1 := a2 h
      have h2 := tot_le a1 hM (fun r hr => by
        have : r.length ∈ shp (raisedL sts n).1 := List.mem_map.mpr ⟨r, hr, rfl⟩
        rw [hshp] at this
        obtain ⟨z, hz, hz2⟩ := List.mem_map.mp this
        have := hl z hz
        omega)
      rw [shp_len hshp] at h2
      omega
    · obtain ⟨b1, b2, b3⟩ := a3 (Bool.eq_false_iff.mpr h)
      exact ⟨1, n, by unfold ReachN; rw [if_neg h, b1], hs, b2, b3⟩
  | succ k ih =>
    intro n hs hl hi hst hb hk
    obtain ⟨a1, a2, a3⟩ := raised_facts hi hst hb
    have hshp := shp_raised sts n
    by_cases h : (raisedL sts n).2 = true
    · have h1 := a2 h
      have hl2 : ∀ r ∈ (raisedL sts n).1, r.length ≤ 1000 := fun r hr => by
        have : r.length ∈ shp (raisedL sts n).1 := List.mem_map.mpr ⟨r, hr, rfl⟩
        rw [hshp] at this
        obtain ⟨z, hz, hz2⟩ := List.mem_map.mp this
        have := hl z hz
        omega
      obtain ⟨m, res, g1, g2⟩ := ih _ (hshp.trans hs) hl2 (fun i q h1 h2 => hi i q (by rw [← shp_len hshp]; exact h1) (by rw [← shp_at hshp]; exact h2)) (fun t ht => ⟨(hst t ht).1.of hshp, (hst t ht).2⟩) a1 (by rw [shp_len hshp]; omega)
      exact ⟨m + 1, res, by unfold ReachN; rw [if_pos h]; exact g1, g2⟩
    · obtain ⟨b1, b2, b3⟩ := a3 (Bool.eq_false_iff.mpr h)
      exact ⟨1, n, by unfold ReachN; rw [if_neg h, b1], hs, b2, b3⟩
theorem countP_lt {α : Type} {p q : α → Bool} : ∀ {l : List α}, (∀ x ∈ l, p x = true → q x = true) → (∃ x ∈ l, q x = true ∧ p x = false) → l.countP p < l.countP q
  | [], _, h => by obtain ⟨x, hx, _⟩ := h; cases hx
  | a :: r, hm, h => by
    have hm' : ∀ x ∈ r, p x = true → q x = true := fun x hx => hm x (List.mem_cons_of_mem _ hx)
    have hle : r.countP p ≤ r.countP q := List.countP_mono_left hm'
    rw [List.countP_cons, List.countP_cons]
    by_cases ha : q a = true ∧ p a = false
    · rw [if_neg (by rw [ha.2]; simp), if_pos ha.1]
      omega
    · have hr : ∃ x ∈ r, q x = true ∧ p x = false := by
        obtain ⟨x, hx, h1⟩ := h
        rcases List.mem_cons.mp hx with rfl | hx
        · exact absurd h1 ha
        · exact ⟨x, hx, h1⟩
      have := countP_lt hm' hr
      by_cases hp : p a = true
      · rw [if_pos hp, if_pos (hm a List.mem_cons_self hp)]; omega
      · rw [if_neg hp]; split <;> omega
/-! ### no useless choice -/
theorem useIn_none {ts : List Tp} {cs : Cho} {m : Nat} : ∀ {l : List Nat}, useIn ts cs m l = none → ∀ c ∈ l, hitL ts cs [(m, c)] = none
  | [], _, c, h => by cases h
  | a :: r, h, c, hc => by
    unfold useIn at h
    cases e : hitL ts cs [(m, a)] with
    | some w => rw [e] at h; cases h
    | none =>
      rw [e] at h
      rcases List.mem_cons.mp hc with rfl | hc
      · exact e
      · exact useIn_none h c hc
theorem useLs_none {ts : List Tp} {cs : Cho} : ∀ {l : List ((Bool × List Nat) × Nat)}, useLs ts cs l = none → ∀ x ∈ l, ∀ c ∈ x.1.2, hitL ts cs [(x.2, c)] = none
  | [], _, x, h => by cases h
  | a :: r, h, x, hx => by
    unfold useLs at h
    cases e : useIn ts cs a.2 a.1.2 with
    | some w => rw [e] at h; cases h
    | none =>
      rw [e] at h
      rcases List.mem_cons.mp hx with rfl | hx
      · exact useIn_none e
      · exact useLs_none h x hx
theorem cross_none {ts : List Tp} {c : List Nat} (h : crossL ts c = none) {t : Tp} (ht : t ∈ ts) {i j : Nat} (h1 : t.snd = some i) (h2 : t.com = some j) (h3 : j < c.getD t.other 0) : i < c.getD t.one 0 := by
  have := List.find?_eq_none.mp h t ht
  simp [hasCome, wasSent, h1, h2] at this
  have h3' : j < c[t.other]?.getD 0 := by rw [← List.getD_eq_getElem?_getD]; exact h3
  rw [List.getD_eq_getElem?_getD]
  exact this h3'
section
variable {ts : List Tp} {cs : Cho} (h : ∀ r ∈ cs, OkR r.2) (hn : cs.length ≤ 10) (hts : TsOk cs.length ts) (nd : (ts.map fun t => (t.rd, t.nm)).Nodup) (hu : useL ts cs = none)
include h hn hts nd hu
/-- a line for each choice -/
theorem cut_at {m c : Nat} (hm : m < cs.length) (hc : c ∈ rowOf cs m) : ∃ line : List Nat, crossL ts line = none ∧ line.getD m 0 = c ∧ ∀ i, i < cs.length → line.getD i 0 ∈ rowOf cs i := by
  obtain ⟨r, g1, g2, g3⟩ := row_at hm
  have hno : hitL ts cs [(m, c)] = none := useLs_none hu (r, m) (List.mem_zipIdx_iff_getElem?.mpr g1) c (by rw [← g3]; exact hc)
  have ow : OkWtd cs [(m, c)] := ⟨by simp, fun x hx => by simp at hx; subst hx; exact ⟨hm, hc⟩⟩
  obtain ⟨lo, hx⟩ := nohit_ok h hn hts nd ow hno
  refine ⟨_, lo.cross, ?_, fun i hi => ?_⟩
  · have := hx (m, c) (by simp)
    rw [List.getD_eq_getElem?_getD, this]; rfl
  · have := lo.mem i (by rw [upto_len]; exact hi)
    rw [row_upto hi] at this
    cases hg : getA [(m, c)] i with
    | none => rw [hg] at this; exact this
    | some d => rw [hg] at this; exact (List.mem_filter.mp this).1
theorem num_ok (ft : ∀ r ∈ cs, r.1 = true) : ∃ m res, ReachN (stepsL ts cs) m (zerosL cs) res ∧ NumOk ts cs res := by
  have pick : ∀ (m c : Nat), ∃ line : List Nat, m < cs.length → c ∈ rowOf cs m → crossL ts line = none ∧ line.getD m 0 = c ∧ ∀ i, i < cs.length → line.getD i 0 ∈ rowOf cs i := fun m c => by
    by_cases hm : m < cs.length ∧ c ∈ rowOf cs m
    · obtain ⟨line, h1⟩ := cut_at h hn hts nd hu hm.1 hm.2
      exact ⟨line, fun _ _ => h1⟩
    · exact ⟨[], fun a b => absurd ⟨a, b⟩ hm⟩
  let cut : Nat → Nat → List Nat := fun m c => Classical.choose (pick m c)
  have hcut : ∀ m c, m < cs.length → c ∈ rowOf cs m → crossL ts (cut m c) = none ∧ (cut m c).getD m 0 = c ∧ ∀ i, i < cs.length → (cut m c).getD i 0 ∈ rowOf cs i := fun m c => Classical.choose_spec (pick m c)
  let cuts : List (List Nat) := (List.range cs.length).flatMap fun m => (rowOf cs m).map (cut m)
  have hcuts : ∀ L ∈ cuts, crossL ts L = none ∧ ∀ i, i < cs.length → L.getD i 0 ∈ rowOf cs i := fun L hL => by
    obtain ⟨m, hm, hL⟩ := List.mem_flatMap.mp hL
    obtain ⟨c, hc, rfl⟩ := List.mem_map.mp hL
    have := hcut m c (List.mem_range.mp hm) hc
    exact ⟨this.1, this.2.2⟩
  let F : Nat → Nat → Nat := fun i p => cuts.countP fun L => decide (L.getD i 0 ≤ (rowOf cs i).getD p 0)
  have hzl : (zerosL cs).length = cs.length := by unfold zerosL; rw [List.length_map]
  have hzs : shp (zerosL cs) = cs.map fun r => r.2.length := by unfold shp zerosL; rw [List.map_map]; exact List.map_congr_left fun r _ => by simp
  have hz0 : ∀ i p, at2 (zerosL cs) i p = 0 := fun i p => by
    unfold at2 zerosL
    rw [List.getD_eq_getElem?_getD (l := List.map _ _), List.getElem?_map]
    cases cs[i]? with
    | none => rfl
    | some r =>
      simp only [Option.map_some, Option.getD_some]
      rw [List.getD_eq_getElem?_getD, List.getElem?_replicate]
      split <;> rfl
  have hok : ∀ i, i < cs.length → OkR (rowOf cs i) := fun i hi => by
    obtain ⟨r, g1, g2, g3⟩ := row_at hi
    rw [g3]; exact h r g2
  have hFM : ∀ i p, F i p ≤ cuts.length := fun i p => List.countP_le_length
  have hinc : Inc F (zerosL cs) := fun i q hi hq => by
    rw [hzl] at hi
    rw [zeros_at hi] at hq
    have o := hok i hi
    have e1 := getD_at (c := rowOf cs i) (i := q) (by omega)
    have e2 := getD_at (c := rowOf cs i) (i := q + 1) hq
    have hlt : (rowOf cs i).getD q 0 < (rowOf cs i).getD (q + 1) 0 := by
      have := List.pairwise_iff_getElem.mp o.inc q (q + 1) (by omega) hq (by omega)
      rw [List.getD_eq_getElem?_getD, List.getD_eq_getElem?_getD, List.getElem?_eq_getElem hq, List.getElem?_eq_getElem (show q < (rowOf cs i).length by omega)]
      exact this
    have hmem : (rowOf cs i).getD (q + 1) 0 ∈ rowOf cs i := List.mem_of_getElem? e2
    refine countP_lt (fun L _ hL => ?_) ⟨cut i ((rowOf cs i).getD (q + 1) 0), List.mem_flatMap.mpr ⟨i, List.mem_range.mpr hi, List.mem_map.mpr ⟨_, hmem, rfl⟩⟩, ?_, ?_⟩
    · have := of_decide_eq_true hL
      exact decide_eq_true (by omega)
    · rw [(hcut i _ hi hmem).2.1]; exact decide_eq_true (Nat.le_refl _)
    · rw [(hcut i _ hi hmem).2.1]; exact decide_eq_false (by omega)
  have hstp : ∀ x ∈ stepsL ts cs, StOk (zerosL cs) x ∧ F x.1 x.2.1 ≤ F x.2.2.1 x.2.2.2 := fun x hx => by
    obtain ⟨t, ht, rfl⟩ := List.mem_map.mp hx
    obtain ⟨htm, hwh⟩ := List.mem_filter.mp ht
    obtain ⟨o1, o2⟩ := hts t htm
    have k1 := hok t.one o1
    have k2 := hok t.other o2
    simp [isWhole] at hwh
    obtain ⟨i, hi⟩ := Option.isSome_iff_exists.mp hwh.1
    obtain ⟨j, hj⟩ := Option.isSome_iff_exists.mp hwh.2
    refine ⟨⟨by rw [hzl]; exact o1, ?_, by rw [hzl]; exact o2, ?_⟩, ?_⟩
    · show placeL _ _ < ((zerosL cs).getD t.one []).length
      rw [zeros_at o1]; exact placeL_lt k1.z
    · show placeL _ _ < ((zerosL cs).getD t.other []).length
      rw [zeros_at o2]; exact placeL_lt k2.z
    · have p1 := (posL_at (floorL_mem (n := t.snd.getD 0) k1.z).1).1
      have p2 := (posL_at (floorL_mem (n := t.com.getD 0) k2.z).1).1
      show cuts.countP _ ≤ cuts.countP _
      refine List.countP_mono_left fun L hL hLe => ?_
      obtain ⟨l1, l2⟩ := hcuts L hL
      have hLe := of_decide_eq_true hLe
      refine decide_eq_true ?_
      have q1 : (rowOf cs t.one).getD (stepOf cs t).2.1 0 = floorL (rowOf cs t.one) (t.snd.getD 0) := by
        show (rowOf cs t.one).getD (posL _ _) 0 = _
        rw [List.getD_eq_getElem?_getD, p1]; rfl
      have q2 : (rowOf cs t.other).getD (stepOf cs t).2.2.2 0 = floorL (rowOf cs t.other) (t.com.getD 0) := by
        show (rowOf cs t.other).getD (posL _ _) 0 = _
        rw [List.getD_eq_getElem?_getD, p2]; rfl
      have hLe : L.getD t.one 0 ≤ (rowOf cs t.one).getD (stepOf cs t).2.1 0 := hLe
      show L.getD t.other 0 ≤ (rowOf cs t.other).getD (stepOf cs t).2.2.2 0
      rw [q1, hi] at hLe
      rw [q2, hj]
      simp only [Option.getD_some] at hLe ⊢
      rcases Nat.lt_or_ge j (L.getD t.other 0) with hlt | hge
      · have := cross_none l1 htm hi hj hlt
        have := (floorL_mem (n := i) k1.z).2
        omega
      · exact floorL_max (l2 t.other o2) hge
  have hb0 : Bd F (zerosL cs) := fun i p _ _ => by rw [hz0]; exact Nat.zero_le _
  have hl0 : ∀ r ∈ zerosL cs, r.length ≤ 1000 := fun r hr => by
    obtain ⟨x, hx, rfl⟩ := List.mem_map.mp hr
    rw [List.length_replicate]
    have := (h x hx).len
    omega
  obtain ⟨m, res, r1, r2, r3, r4⟩ := reach hFM (shp (zerosL cs)) _ (zerosL cs) rfl hl0 hinc hstp hb0 (Nat.le_add_left _ _)
  refine ⟨m, res, r1, r2.trans hzs, r3, fun t ht hwh => ⟨hwh, fun hlt => ?_, ?_⟩⟩
  · obtain ⟨o1, o2⟩ := hts t ht
    have k1 := hok t.one o1
    have k2 := hok t.other o2
    have hw := hwh
    simp [isWhole] at hw
    obtain ⟨i, hi⟩ := Option.isSome_iff_exists.mp hw.1
    obtain ⟨j, hj⟩ := Option.isSome_iff_exists.mp hw.2
    have hlm : lastL (rowOf cs t.other) ∈ rowOf cs t.other := lastL_mem fun e => by have := k2.z; rw [e] at this; cases this
    obtain ⟨c1, c2, c3⟩ := hcut t.other _ o2 hlm
    rw [hj] at hlt
    have := cross_none c1 ht hi hj (by rw [c2]; exact hlt)
    have h3 := last_max k1.inc _ (c3 t.one o1)
    rw [hi]
    simp only [Option.getD_some]
    omega
  · exact r4 (stepOf cs t) (List.mem_map.mpr ⟨t, List.mem_filter.mpr ⟨ht, hwh⟩, rfl⟩)
end
end Cs

/-! ## PlF -/
namespace Cs
open PySem PySem.Spec PyProof.Rows L2 Dl
theorem getL_put {l : List (Lk × Lv)} {k j : Lk} {v : Lv} : getL (putL l k v) j = if j = k then some v else getL l j := getA_put (l := l) (k := k) (j := j) (v := v)
theorem putL_nodup {l : List (Lk × Lv)} {k : Lk} {v : Lv} (h : (l.map (·.1)).Nodup) : ((putL l k v).map (·.1)).Nodup := putA_nodup (l := l) (k := k) (v := v) h
theorem putL_mem {l : List (Lk × Lv)} {k : Lk} {v : Lv} {x : Lk × Lv} (h : x ∈ putL l k v) : x ∈ l ∨ x = (k, v) := by
  unfold putL at h
  split at h
  · obtain ⟨y, hy, rfl⟩ := List.mem_map.mp h
    split
    · rename_i e; rw [e]; exact .inr rfl
    · exact .inl hy
  · rcases List.mem_append.mp h with h | h
    · exact .inl h
    · simp at h; exact .inr h
theorem mem_rg {a b n : Nat} : n ∈ rg a b ↔ a ≤ n ∧ n < b := by
  unfold rg
  rw [List.mem_map]
  constructor
  · rintro ⟨i, hi, rfl⟩; have := List.mem_range.mp hi; omega
  · rintro ⟨h1, h2⟩; exact ⟨n - a, List.mem_range.mpr (by omega), by omega⟩
theorem new1_get (r k : Nat) : ∀ (ns : List Nat) (L : List (Lk × Lv)) (a n : Nat), getL (new1 r k L ns) (a, n) = if a = r ∧ n ∈ ns then some (some k, none) else getL L (a, n)
  | [], L, a, n => by rw [if_neg (by simp)]; rfl
  | m :: ns, L, a, n => by
    show getL (new1 r k (putL L (r, m) (some k, none)) ns) (a, n) = _
    rw [new1_get r k ns, getL_put]
    by_cases h : a = r
    · subst h
      by_cases h2 : n ∈ ns
      · rw [if_pos ⟨rfl, h2⟩, if_pos ⟨rfl, List.mem_cons_of_mem _ h2⟩]
      · rw [if_neg (fun z => h2 z.2)]
        by_cases h3 : n = m
        · subst h3; rw [if_pos rfl, if_pos ⟨rfl, List.mem_cons_self⟩]
        · rw [if_neg (fun z => h3 (Prod.mk.inj z).2), if_neg (fun z => (List.mem_cons.mp z.2).elim h3 h2)]
    · rw [if_neg (fun z => h z.1), if_neg (fun z => h (Prod.mk.inj z).1), if_neg (fun z => h z.1)]
theorem newL_get (s s' : Sd) (k : Nat) : ∀ (rs : List Nat) (L : List (Lk × Lv)) (a n : Nat), getL (newL s s' k rs L) (a, n) = if a ∈ rs ∧ sentOf s a ≤ n ∧ n < sentOf s' a then some (some k, none) else getL L (a, n)
  | [], L, a, n => by rw [if_neg (by simp)]; rfl
  | r :: rs, L, a, n => by
    show getL (newL s s' k rs (new1 r k L (rg (sentOf s r) (sentOf s' r)))) (a, n) = _
    rw [newL_get s s' k rs, new1_get]
    by_cases h : sentOf s a ≤ n ∧ n < sentOf s' a
    · by_cases h1 : a ∈ rs
      · rw [if_pos ⟨h1, h⟩, if_pos ⟨List.mem_cons_of_mem _ h1, h⟩]
      · rw [if_neg (fun z => h1 z.1)]
        by_cases h2 : a = r
        · subst h2; rw [if_pos ⟨rfl, mem_rg.mpr h⟩, if_pos ⟨List.mem_cons_self, h⟩]
        · rw [if_neg (fun z => h2 z.1), if_neg (fun z => (List.mem_cons.mp z.1).elim h2 h1)]
    · rw [if_neg (fun z => h z.2), if_neg (fun z => h (by rw [z.1]; exact mem_rg.mp z.2)), if_neg (fun z => h z.2)]
structure JInv (f : Fm) (k : Nat) (s : Sd) (L : List (Lk × Lv)) : Prop where
  nd : (L.map (·.1)).Nodup
  lv : ∀ x ∈ L, x.1.1 < f.roads.length ∧ (∀ j, x.2.1 = some j → j < k) ∧ ∀ j, x.2.2 = some j → j < k
  wt : ∀ (a : Nat) (l : Ld), s.ld[a]? = some l → ∀ y ∈ l.2, (getL L (a, y.1)).isSome = true
theorem new1_keep {f : Fm} {r k : Nat} (hr : r < f.roads.length) : ∀ (ns : List Nat) (L : List (Lk × Lv)), (L.map (·.1)).Nodup → (∀ x ∈ L, x.1.1 < f.roads.length ∧ (∀ j, x.2.1 = some j → j < k + 1) ∧ ∀ j, x.2.2 = some j → j < k + 1) → ((new1 r k L ns).map (·.1)).Nodup ∧ (∀ x ∈ new1 r k L ns, x.1.1 < f.roads.length ∧ (∀ j, x.2.1 = some j → j < k + 1) ∧ ∀ j, x.2.2 = some j → j < k + 1) ∧ (new1 r k L ns).length ≤ L.length + ns.length
  | [], L, h1, h2 => ⟨h1, h2, Nat.le_refl _⟩
  | n :: ns, L, h1, h2 => by
    obtain ⟨g1, g2, g3⟩ := new1_keep hr ns (putL L (r, n) (some k, none)) (putL_nodup h1) (fun x hx => by
      rcases putL_mem hx with hx | rfl
      · exact h2 x hx
      · exact ⟨hr, fun j hj => by cases hj; omega, fun j hj => by cases hj⟩)
    have := putL_len L (r, n) (some k, none)
    refine ⟨g1, g2, ?_⟩
    rw [List.length_cons]
    show (new1 r k (putL L (r, n) (some k, none)) ns).length ≤ _
    omega
theorem newL_keep {f : Fm} {s s' : Sd} {k : Nat} (h2 : ∀ r, sentOf s' r ≤ sentOf s r + 2) : ∀ (rs : List Nat) (L : List (Lk × Lv)), (∀ r ∈ rs, r < f.roads.length) → (L.map (·.1)).Nodup → (∀ x ∈ L, x.1.1 < f.roads.length ∧ (∀ j, x.2.1 = some j → j < k + 1) ∧ ∀ j, x.2.2 = some j → j < k + 1) → ((newL s s' k rs L).map (·.1)).Nodup ∧ (∀ x ∈ newL s s' k rs L, x.1.1 < f.roads.length ∧ (∀ j, x.2.1 = some j → j < k + 1) ∧ ∀ j, x.2.2 = some j → j < k + 1) ∧ (newL s s' k rs L).length ≤ L.length + 2 * rs.length
  | [], L, _, g1, g2 => ⟨g1, g2, Nat.le_refl _⟩
  | r :: rs, L, hr, g1, g2 => by
    obtain ⟨a1, a2, a3⟩ := new1_keep (hr r List.mem_cons_self) (rg (sentOf s r) (sentOf s' r)) L g1 g2
    obtain ⟨b1, b2, b3⟩ := newL_keep h2 rs (new1 r k L (rg (sentOf s r) (sentOf s' r))) (fun x hx => hr x (List.mem_cons_of_mem _ hx)) a1 a2
    have hl : (rg (sentOf s r) (sentOf s' r)).length ≤ 2 := by unfold rg; rw [List.length_map, List.length_range]; have := h2 r; omega
    refine ⟨b1, b2, ?_⟩
    rw [List.length_cons]
    show (newL s s' k rs (new1 r k L (rg (sentOf s r) (sentOf s' r)))).length ≤ _
    omega
theorem appS_new {i : Nat} : ∀ (se : List (Nat × Str)) (l : Ld) (y : Nat × Str), y ∈ (appS i se l).2 → y ∈ l.2 ∨ (l.1 ≤ y.1 ∧ y.1 < (appS i se l).1)
  | [], l, y, h => .inl h
  | x :: se, l, y, h => by
    have e : appS i (x :: se) l = appS i se (if x.1 = i then (l.1 + 1, l.2 ++ [(l.1, x.2)]) else l) := rfl
    rw [e] at h ⊢
    by_cases hx : x.1 = i
    · rw [if_pos hx] at h ⊢
      have hm := (appS_mono (i := i) se (l.1 + 1, l.2 ++ [(l.1, x.2)])).1
      rcases appS_new se _ y h with h | h
      · rcases List.mem_append.mp h with h | h
        · exact .inl h
        · simp at h; subst h; exact .inr ⟨Nat.le_refl _, by simp only at hm; omega⟩
      · exact .inr ⟨by have := h.1; simp only at this; omega, h.2⟩
    · rw [if_neg hx] at h ⊢; exact appS_new se l y h
theorem JInv.step {f : Fm} {s : Sd} {k kk : Nat} {d : Dd} {L : List (Lk × Lv)} (o : OkForm f) (i : InvS f s kk) (hk : kk ≤ 40) (v : ValD f s d) (j : JInv f k s L) : (∀ a n, d = .come a n → (getL L (a, n)).isSome = true) ∧ JInv f (k + 1) (doneS f s d).1 (newL s (doneS f s d).1 k (List.range f.roads.length) (comeL L k d)) ∧ (newL s (doneS f s d).1 k (List.range f.roads.length) (comeL L k d)).length ≤ L.length + 17 := by
  have hcome : ∀ a n, d = .come a n → (getL L (a, n)).isSome = true := fun a n e => by
    subst e
    obtain ⟨c, hc, _⟩ := cause_ok i v
    obtain ⟨t, l, h1, h2, h3⟩ := find_cause hc
    exact j.wt a l h2 (n, c) h3
  obtain ⟨g, _⟩ := i.good o hk v
  have c1 : ((comeL L k d).map (·.1)).Nodup := by
    cases d with
    | come r n => exact putL_nodup j.nd
    | _ => exact j.nd
  have c2 : ∀ x ∈ comeL L k d, x.1.1 < f.roads.length ∧ (∀ j, x.2.1 = some j → j < k + 1) ∧ ∀ j, x.2.2 = some j → j < k + 1 := by
    have old : ∀ x ∈ L, x.1.1 < f.roads.length ∧ (∀ j, x.2.1 = some j → j < k + 1) ∧ ∀ j, x.2.2 = some j → j < k + 1 := fun x hx => by
      obtain ⟨a, b, c⟩ := j.lv x hx
      exact ⟨a, fun z hz => by have := b z hz; omega, fun z hz => by have := c z hz; omega⟩
    cases d with
    | come r n =>
      intro x hx
      rcases putL_mem hx with hx | rfl
      · exact old x hx
      · refine ⟨v.1, fun z hz => ?_, fun z hz => by cases hz; omega⟩
        obtain ⟨w, hw⟩ := Option.isSome_iff_exists.mp (hcome r n rfl)
        rw [hw] at hz
        exact (old _ (getL_mem hw)).2.1 z hz
    | _ => exact old
  have c3 : (comeL L k d).length ≤ L.length + 1 := by
    cases d with
    | come r n => exact putL_len _ _ _
    | own m => show L.length ≤ _; omega
    | hear m c => show L.length ≤ _; omega
  obtain ⟨n1, n2, n3⟩ := newL_keep (s := s) (s' := (doneS f s d).1) (k := k) (done_sent g) (List.range f.roads.length) (comeL L k d) (fun r hr => List.mem_range.mp hr) c1 c2
  have hr8 := o.r8
  rw [List.length_range] at n3
  refine ⟨hcome, ⟨n1, n2, fun a l hl y hy => ?_⟩, by omega⟩
  obtain ⟨b, hb, b1, b2, b3⟩ := deed_facts o i hk v
  have hs1 : sentOf (doneS f s d).1 a = l.1 := sentOf_at hl
  rw [b3] at hl
  obtain ⟨l0, hl0, rfl⟩ := Option.map_eq_some_iff.mp hl
  have har : a < f.roads.length := by rw [← i.o.ld]; exact (List.getElem?_eq_some_iff.mp hl0).1
  rw [newL_get]
  split
  · rfl
  · rename_i hno
    have hold : y ∈ (takS a d l0).2 := by
      rcases appS_new b.2.1 (takS a d l0) y hy with h | h
      · exact h
      · exfalso
        apply hno
        refine ⟨List.mem_range.mpr har, ?_, ?_⟩
        · rw [sentOf_at hl0, ← takS_1 (i := a) (d := d)]; exact h.1
        · rw [hs1]; exact h.2
    have hin : y ∈ l0.2 := by
      cases d with
      | come r n =>
        simp only [takS] at hold
        split at hold
        · exact (List.mem_filter.mp hold).1
        · exact hold
      | _ => exact hold
    have := j.wt a l0 hl0 y hin
    cases d with
    | come r n =>
      show (getL (putL L (r, n) _) (a, y.1)).isSome = true
      rw [getL_put]
      split
      · rfl
      · exact this
    | _ => exact this
end Cs

/-! ## PlG -/
namespace Cs
open PySem PySem.Spec PyProof.Rows L2 Dl
def evL (es : List (Nat × Nat)) (v : Lv) : Lv := (evOf es v.1, evOf es v.2)
theorem sent_out' {f : Fm} {s : Sd} (h : s.ld.length = f.roads.length) {a : Nat} (ha : ¬ a < f.roads.length) : sentOf s a = 0 := by
  unfold sentOf
  rw [List.getElem?_eq_none (by omega)]; rfl
theorem lets_T {f : Fm} {sA : Sd} {es : List (Nat × Nat)} (o : OkForm f) : ∀ (l : List Dd) (s : Sd) (k kk : Nat) (L : List (Lk × Lv)) (en : List Nat) (T : Tbl) (pre : List (Nat × Nat)), es = pre ++ evs f en l → pre.length = k → JInv f k s L → InvS f s kk → kk + l.length ≤ 40 → RunV f s l sA → (∀ a n, (getL L (a, n)).map (evL es) = T a n) →
    LOk f k s l L ∧ JInv f (k + l.length) sA (lets f k s l L) ∧ (∀ a n, (getL (lets f k s l L) (a, n)).map (evL es) = histT f s en T l a n) ∧ (lets f k s l L).length ≤ L.length + 17 * l.length ∧ GoodR f s l
  | [], s, k, kk, L, en, T, pre, he, hp, j, i, hk, h, ht => by
    have h : s = sA := h
    subst h
    exact ⟨trivial, j, ht, Nat.le_refl _, i.o⟩
  | d :: l, s, k, kk, L, en, T, pre, he, hp, j, i, hk, h, ht => by
    rw [List.length_cons] at hk
    have v := h.1
    obtain ⟨g, i2⟩ := i.good o (by omega) v
    obtain ⟨h1, h2, h3⟩ := j.step o i (by omega) v
    have hes : es = (pre ++ [(ofDd f d, en.getD (ofDd f d) 0)]) ++ evs f (enUp en (ofDd f d)) l := by
      rw [he]
      simp only [evs, enUp, List.append_assoc, List.singleton_append]
    have hek : (es.getD k (0, 0)).2 = en.getD (ofDd f d) 0 := by
      rw [hes, List.getD_eq_getElem?_getD, List.getElem?_append_left (by rw [List.length_append, List.length_singleton]; omega), List.getElem?_append_right (by omega), show k - pre.length = 0 by omega]
      rfl
    have hev : evOf es (some k) = some (en.getD (ofDd f d) 0) := by unfold evOf; rw [Option.map_some, hek]
    have hT : ∀ a n, (getL (newL s (doneS f s d).1 k (List.range f.roads.length) (comeL L k d)) (a, n)).map (evL es) = newT s (doneS f s d).1 (en.getD (ofDd f d) 0) (comeT (en.getD (ofDd f d) 0) d T) a n := fun a n => by
      rw [newL_get]
      unfold newT
      by_cases hN : sentOf s a ≤ n ∧ n < sentOf (doneS f s d).1 a
      · have ha : a < f.roads.length := by
          rcases Nat.lt_or_ge a f.roads.length with h | h
          · exact h
          · have e2 := sent_out' i2.o.ld (a := a) (by omega)
            omega
        rw [if_pos hN, if_pos ⟨List.mem_range.mpr ha, hN⟩, Option.map_some]
        unfold evL
        rw [hev]; rfl
      · rw [if_neg hN, if_neg (fun z => hN z.2)]
        cases d with
        | come r m =>
          show (getL (putL L (r, m) _) (a, n)).map (evL es) = comeT _ (.come r m) T a n
          rw [getL_put]
          simp only [comeT]
          by_cases hc : a = r ∧ n = m
          · obtain ⟨rfl, rfl⟩ := hc
            obtain ⟨w, hw⟩ := Option.isSome_iff_exists.mp (h1 a n rfl)
            rw [if_pos rfl, if_pos ⟨rfl, rfl⟩, ← ht, hw]
            simp only [Option.getD_some, Option.map_some, evL]
            rw [hev]
          · rw [if_neg (fun z => hc (Prod.mk.inj z)), if_neg hc]
            exact ht a n
        | own m => exact ht a n
        | hear m c => exact ht a n
    obtain ⟨r1, r2, r3, r4, r5⟩ := lets_T o l (doneS f s d).1 (k + 1) (kk + 1) _ (enUp en (ofDd f d)) _ _ hes (by rw [List.length_append, List.length_singleton]; omega) h2 i2 (by omega) h.2 hT
    refine ⟨⟨h1, r1⟩, ?_, r3, ?_, ⟨g, r5⟩⟩
    · rw [List.length_cons, show k + (l.length + 1) = k + 1 + l.length by omega]; exact r2
    · rw [List.length_cons]
      show (lets f (k + 1) (doneS f s d).1 l (newL s (doneS f s d).1 k (List.range f.roads.length) (comeL L k d))).length ≤ _
      omega
theorem init1_get (r : Nat) : ∀ (ws : List (Nat × Str)) (L : List (Lk × Lv)) (a n : Nat), getL (init1 r L ws) (a, n) = if a = r ∧ n ∈ ws.map (·.1) then some (none, none) else getL L (a, n)
  | [], L, a, n => by rw [if_neg (by simp)]; rfl
  | x :: ws, L, a, n => by
    show getL (init1 r (putL L (r, x.1) (none, none)) ws) (a, n) = _
    rw [init1_get r ws, getL_put, List.map_cons]
    by_cases h : a = r
    · subst h
      by_cases h2 : n ∈ ws.map (·.1)
      · rw [if_pos ⟨rfl, h2⟩, if_pos ⟨rfl, List.mem_cons_of_mem _ h2⟩]
      · rw [if_neg (fun z => h2 z.2)]
        by_cases h3 : n = x.1
        · subst h3; rw [if_pos rfl, if_pos ⟨rfl, List.mem_cons_self⟩]
        · rw [if_neg (fun z => h3 (Prod.mk.inj z).2), if_neg (fun z => (List.mem_cons.mp z.2).elim h3 h2)]
    · rw [if_neg (fun z => h z.1), if_neg (fun z => h (Prod.mk.inj z).1), if_neg (fun z => h z.1)]
theorem initL_get (s : Sd) : ∀ (rs : List Nat) (L : List (Lk × Lv)) (a n : Nat), getL (initL s rs L) (a, n) = if a ∈ rs ∧ n ∈ (waitOf s a).map (·.1) then some (none, none) else getL L (a, n)
  | [], L, a, n => by rw [if_neg (by simp)]; rfl
  | r :: rs, L, a, n => by
    show getL (initL s rs (init1 r L (waitOf s r))) (a, n) = _
    rw [initL_get s rs, init1_get]
    by_cases h : n ∈ (waitOf s a).map (·.1)
    · by_cases h1 : a ∈ rs
      · rw [if_pos ⟨h1, h⟩, if_pos ⟨List.mem_cons_of_mem _ h1, h⟩]
      · rw [if_neg (fun z => h1 z.1)]
        by_cases h2 : a = r
        · subst h2; rw [if_pos ⟨rfl, h⟩, if_pos ⟨List.mem_cons_self, h⟩]
        · rw [if_neg (fun z => h2 z.1), if_neg (fun z => (List.mem_cons.mp z.1).elim h2 h1)]
    · rw [if_neg (fun z => h z.2), if_neg (fun z => h (by rw [z.1]; exact z.2)), if_neg (fun z => h z.2)]
theorem init1_keep {f : Fm} {r : Nat} (hr : r < f.roads.length) : ∀ (ws : List (Nat × Str)) (L : List (Lk × Lv)), (L.map (·.1)).Nodup → (∀ x ∈ L, x.1.1 < f.roads.length ∧ x.2 = (none, none)) → ((init1 r L ws).map (·.1)).Nodup ∧ (∀ x ∈ init1 r L ws, x.1.1 < f.roads.length ∧ x.2 = (none, none)) ∧ (init1 r L ws).length ≤ L.length + ws.length
  | [], L, h1, h2 => ⟨h1, h2, Nat.le_refl _⟩
  | w :: ws, L, h1, h2 => by
    obtain ⟨g1, g2, g3⟩ := init1_keep hr ws (putL L (r, w.1) (none, none)) (putL_nodup h1) (fun x hx => by
      rcases putL_mem hx with hx | rfl
      · exact h2 x hx
      · exact ⟨hr, rfl⟩)
    have := putL_len L (r, w.1) (none, none)
    refine ⟨g1, g2, ?_⟩
    rw [List.length_cons]
    show (init1 r (putL L (r, w.1) (none, none)) ws).length ≤ _
    omega
theorem initL_keep {f : Fm} {s : Sd} (h3 : ∀ r, (waitOf s r).length ≤ 3) : ∀ (rs : List Nat) (L : List (Lk × Lv)), (∀ r ∈ rs, r < f.roads.length) → (L.map (·.1)).Nodup → (∀ x ∈ L, x.1.1 < f.roads.length ∧ x.2 = (none, none)) → ((initL s rs L).map (·.1)).Nodup ∧ (∀ x ∈ initL s rs L, x.1.1 < f.roads.length ∧ x.2 = (none, none)) ∧ (initL s rs L).length ≤ L.length + 3 * rs.length
  | [], L, _, g1, g2 => ⟨g1, g2, Nat.le_refl _⟩
  | r :: rs, L, hr, g1, g2 => by
    obtain ⟨a1, a2, a3⟩ := init1_keep (hr r List.mem_cons_self) (waitOf s r) L g1 g2
    obtain ⟨b1, b2, b3⟩ := initL_keep h3 rs (init1 r L (waitOf s r)) (fun x hx => hr x (List.mem_cons_of_mem _ hx)) a1 a2
    have := h3 r
    refine ⟨b1, b2, ?_⟩
    rw [List.length_cons]
    show (initL s rs (init1 r L (waitOf s r))).length ≤ _
    omega
def tbl0 (f : Fm) (b : Sd) : Tbl := fun a n => getL (init0 f b) (a, n)
structure LFin (f : Fm) (b : Sd) (l : List Dd) : Prop where
  ot : OkT f b l
  nd : ((lettersL f b l).map (·.1)).Nodup
  tb : ∀ a n, (getL (lettersL f b l) (a, n)).map (evL (eventsL f l)) = histT f b (en0 f) (tbl0 f b) l a n
theorem l_fin {f : Fm} {b sA : Sd} {l : List Dd} (o : OkForm f) (ob : OkBase f b) (h : RunV f b l sA) (hl : l.length ≤ 35) : LFin f b l := by
  have h3 : ∀ r, (waitOf b r).length ≤ 3 := fun r => by
    unfold waitOf
    cases e : b.ld[r]? with
    | none => simp
    | some x => exact (ob.ok x (List.mem_of_getElem? e)).n
  obtain ⟨k1, k2, k3⟩ := initL_keep (f := f) h3 (List.range f.roads.length) [] (fun r hr => List.mem_range.mp hr) (by simp) (by simp)
  have hr8 := o.r8
  rw [List.length_range, List.length_nil] at k3
  have inv := InvS.start o ob
  have j : JInv f 0 b (init0 f b) := by
    refine ⟨k1, fun x hx => ?_, fun a x hx y hy => ?_⟩
    · obtain ⟨g1, g2⟩ := k2 x hx
      rw [g2]
      exact ⟨g1, fun z hz => (by cases hz), fun z hz => (by cases hz)⟩
    · unfold init0
      rw [initL_get, if_pos]
      · rfl
      · refine ⟨List.mem_range.mpr (by rw [← ob.ld]; exact (List.getElem?_eq_some_iff.mp hx).1), ?_⟩
        rw [waitOf_at hx]
        exact List.mem_map.mpr ⟨y, hy, rfl⟩
  have ht : ∀ a n, (getL (init0 f b) (a, n)).map (evL (eventsL f l)) = tbl0 f b a n := fun a n => by
    unfold tbl0 init0
    rw [initL_get]
    split <;> rfl
  obtain ⟨r1, r2, r3, r4, r5⟩ := lets_T (es := eventsL f l) o l b 0 0 (init0 f b) (en0 f) (tbl0 f b) [] rfl rfl j inv (by omega) h ht
  rw [Nat.zero_add] at r2
  refine ⟨⟨by omega, r5, fun x hx => by have := (ob.ok x hx).n; omega, r1, fun d hd => ⟨h.ok d hd, of_lt inv.o (h.ok d hd)⟩, r2.lv, ?_⟩, r2.nd, r3⟩
  show (lets f 0 b l (init0 f b)).length ≤ 5000
  have : (init0 f b).length ≤ 24 := by unfold init0; omega
  omega
end Cs

/-! ## PlN -/
namespace Cs
open PySem PySem.Spec PyProof.Rows L2 Dl
/-! ### the law -/
structure Plan (f : Fm) (b : Sd) (dds dds2 : List Dd) (cs : Cho) (ws : Wtd) (ts : List Tp) : Prop where
  t1 : IsTrips f b dds ts
  t2 : IsTrips f b dds2 ts
  o1 : OkT f b dds
  o2 : OkT f b dds2
  ok : TsOk cs.length ts
  n : ts.length ≤ 5000
  nd : (ts.map fun t => (t.rd, t.nm)).Nodup
  w : OkW cs ws
  all : AllW cs
  ft : ∀ r ∈ cs, r.1 = true
  line : LineOk ts cs (lowRes ts cs).1 (lowRes ts cs).2
  hit : ∀ w, hitL ts cs ws = some w → WayW ts (uptoL cs ws) ws w
  nohit : hitL ts cs ws = none → LineOk ts (uptoL cs ws) (lowRes ts (uptoL cs ws)).1 (lowRes ts (uptoL cs ws)).2 ∧ ∀ x ∈ ws, (lowRes ts (uptoL cs ws)).1[x.1]? = some x.2
  num : useL ts cs = none → ∃ m res, ReachN (stepsL ts cs) m (zerosL cs) res ∧ NumOk ts cs res
  wnd : (ws.map (·.1)).Nodup
  wn : ws.length ≤ 10
end Cs

/-! ## PlH -/
namespace Cs
open PySem PySem.Spec PyProof.Rows L2 Dl
def tpT (f : Fm) (T : Tbl) (k : Lk) : Tp :=
  let t := f.roads[k.1]?.getD ⟨0, 0, ""⟩
  let v := (T k.1 k.2).getD (none, none)
  ⟨k.1, k.2, t.one, v.1, t.other, v.2⟩
theorem mkTp_T (f : Fm) (es : List (Nat × Nat)) (L : List (Lk × Lv)) (k : Lk) : mkTp f es L k = tpT f (fun a n => (getL L (a, n)).map (evL es)) k := by
  obtain ⟨a, n⟩ := k
  unfold mkTp tpT
  simp only
  cases getL L (a, n) <;> rfl
theorem getL_isSome {L : List (Lk × Lv)} {k : Lk} : (getL L k).isSome = true ↔ k ∈ L.map (·.1) := getA_isSome (l := L) (k := k)
theorem lex_sorted (l : List Lk) : ∃ ys : List Lk, ys.Perm l ∧ ys.Pairwise lexN := by
  refine ⟨l.mergeSort (fun a b => decide (a.1 < b.1 ∨ (a.1 = b.1 ∧ a.2 ≤ b.2))), List.mergeSort_perm l _, ?_⟩
  have := List.pairwise_mergeSort (le := fun a b : Lk => decide (a.1 < b.1 ∨ (a.1 = b.1 ∧ a.2 ≤ b.2))) (fun a b c h1 h2 => by simp at h1 h2 ⊢; omega) (fun a b => by simp; omega) l
  exact this.imp fun h => by unfold lexN; simpa using h
theorem plan_ok {f : Fm} {b s : Sd} {dds dds2 : List Dd} {cs : Cho} {ws : Wtd} (w : World f b dds s) (od : Ord f b dds dds2) (c : OkCho (enDs f dds) cs) (hen : ∀ n ∈ enDs f dds, n ≤ 100) (x : OkWtd cs ws) : ∃ ts, Plan f b dds dds2 cs ws ts := by
  have o := w.of
  have ob := w.ob
  have h35 := w.few
  obtain ⟨hh, hr2, hl2⟩ := hist_ord o od 0 (en0 f) (tbl0 f b) (InvS.start o ob) (by omega) w.run
  have F1 := l_fin o ob w.run h35
  have F2 := l_fin o ob hr2 (by omega)
  have hsame : ∀ a n, (getL (lettersL f b dds) (a, n)).map (evL (eventsL f dds)) = (getL (lettersL f b dds2) (a, n)).map (evL (eventsL f dds2)) := fun a n => by rw [F1.tb, F2.tb, hh]
  have hperm : ((lettersL f b dds2).map (·.1)).Perm ((lettersL f b dds).map (·.1)) := by
    rw [List.perm_ext_iff_of_nodup F2.nd F1.nd]
    rintro ⟨a, n⟩
    rw [← getL_isSome, ← getL_isSome]
    have := congrArg Option.isSome (hsame a n)
    rw [Option.isSome_map, Option.isSome_map] at this
    rw [this]
  obtain ⟨ys, hys, hso⟩ := lex_sorted ((lettersL f b dds).map (·.1))
  have anti : ∀ a b : Lk, lexN a b → lexN b a → a = b := fun a b h1 h2 => by
    unfold lexN at h1 h2
    exact Prod.ext (by omega) (by omega)
  have uniq : ∀ zs : List Lk, zs.Perm ((lettersL f b dds).map (·.1)) → zs.Pairwise lexN → zs = ys := fun zs hz hzs =>
    List.Perm.eq_of_pairwise (le := lexN) (fun a b _ _ h1 h2 => anti a b h1 h2) hzs hso (hz.trans hys.symm)
  have hcl : cs.length = f.rules.length := by rw [c.len, enDs_len]
  have hn4 := o.n4
  have hR := okR_cho c hen
  have hR1 : ∀ r ∈ cs, OkR r.2 := fun r hr => (hR r hr).1
  have hmk : ∀ k, mkTp f (eventsL f dds2) (lettersL f b dds2) k = mkTp f (eventsL f dds) (lettersL f b dds) k := fun k => by
    rw [mkTp_T, mkTp_T]
    congr 1
    funext a n
    exact (hsame a n).symm
  obtain ⟨ts, hts⟩ : ∃ ts, ts = ys.map (mkTp f (eventsL f dds) (lettersL f b dds)) := ⟨_, rfl⟩
  have hkeys : ts.map (fun t => (t.rd, t.nm)) = ys := by
    rw [hts, List.map_map]
    conv => rhs; rw [← List.map_id ys]
    exact List.map_congr_left fun k _ => rfl
  have nd : (ts.map fun t => (t.rd, t.nm)).Nodup := by rw [hkeys]; exact hys.symm.nodup F1.nd
  have hok : TsOk cs.length ts := fun t ht => by
    rw [hts] at ht
    obtain ⟨k, hk, rfl⟩ := List.mem_map.mp ht
    obtain ⟨y, hy, rfl⟩ := List.mem_map.mp (hys.mem_iff.mp hk)
    have h1 := (F1.ot.lv y hy).1
    have e := List.getElem?_eq_getElem h1
    have := o.rd _ (List.getElem_mem h1)
    rw [hcl]
    simp only [mkTp, e, Option.getD_some]
    exact this
  have hlen : ts.length ≤ 5000 := by
    have h1 := hys.length_eq
    rw [List.length_map] at h1
    have := F1.ot.len
    rw [hts, List.length_map]
    omega
  have h10 : cs.length ≤ 10 := by omega
  refine ⟨ts, fun zs hz hzs => ?_, fun zs hz hzs => ?_, F1.ot, F2.ot, hok, hlen, nd, okW_of hR1 h10, fun m r c' hr hc => okW_of hR1 h10, fun r hr => (hR r hr).2, line_ok (okC_of hR1 h10) hok nd, fun v hv => hit_ok hR1 h10 hok nd x hv, fun hv => nohit_ok hR1 h10 hok nd x hv, fun hu => num_ok hR1 h10 hok nd hu fun r hr => (hR r hr).2, x.nd, ?_⟩
  · rw [uniq zs hz hzs, hts]
  · rw [uniq zs (hz.trans hperm) hzs, hts]
    exact List.map_congr_left fun k _ => hmk k
  · have := nodup_len x.nd (n := cs.length) fun k hk => by
      obtain ⟨y, hy, rfl⟩ := List.mem_map.mp hk
      exact (x.mem y hy).1
    rw [List.length_map] at this
    omega
end Cs

/-! ## LwP -/
namespace Cs
open PySem PySem.Spec PyProof.Rows L2 Dl
theorem beqDs_refl_nat (l : List Nat) : beqDs (l.map nD) (l.map nD) = true := beqDs_int l
theorem okD_nm (n : Nums) : okD 20 (nmD n) = true := by
  show okDs 19 _ = true
  exact okDs_map (e := fun row : List Nat => D.tup (row.map nD)) (n := 19) (fun row => okDs_int 18 row) n
theorem beqD_nm (n : Nums) : beqD (nmD n) (nmD n) = true := by
  show beqDs _ _ = true
  induction n with
  | nil => rfl
  | cons a r ih =>
    rw [List.map_cons]
    show (beqDs (a.map nD) (a.map nD) && beqDs _ _) = true
    rw [beqDs_int, ih]; rfl
theorem oks_nat {n : Nat} (l : List Nat) : okD (n + 1) (.tup (l.map nD)) = true := okDs_int n l
theorem lay_lits : PyData.canLay0 (.str "useless") = true ∧ PyData.canLay0 (.str "numbers") = true := by constructor <;> decide +kernel
def G_law : DRs := fun ds μ Q => ∃ (a : Addr) (cells : List Int), ds = [.ref a] ∧ μ a = some (.fL (cells.map D.int)) ∧ cells.length ≤ 63 ∧ ∀ μ', Q (.bl true) μ'
theorem enDs_small {f : Fm} {l : List Dd} (h : l.length ≤ 35) : ∀ n ∈ enDs f l, n ≤ 100 := by
  have key : ∀ (l : List Dd) (en : List Nat) (k : Nat), (∀ n ∈ en, n ≤ k) → ∀ n ∈ l.foldl (fun en d => enUp en (ofDd f d)) en, n ≤ k + l.length := by
    intro l
    induction l with
    | nil => intro en k h n hn; have := h n hn; simp; exact this
    | cons d r ih =>
      intro en k h n hn
      rw [List.foldl_cons] at hn
      have := ih (enUp en (ofDd f d)) (k + 1) (fun m hm => ?_) n hn
      · rw [List.length_cons]; omega
      · unfold enUp at hm
        rcases mem_set' hm with rfl | hm
        · rw [List.getD_eq_getElem?_getD]
          cases e : en[ofDd f d]? with
          | none => simp
          | some v => have := h v (List.mem_of_getElem? e); simp; exact this
        · have := h m hm; omega
  intro n hn
  have := key l (en0 f) 0 (fun m hm => by unfold en0 at hm; rw [(List.mem_replicate.mp hm).2]; exact Nat.le_refl 0) n hn
  omega
theorem line_small {en : List Nat} {ts : List Tp} {cs : Cho} {line : List Nat} {ways : List (Nat × Way)} (oc : OkCho en cs) (h : ∀ n ∈ en, n ≤ 100) (hl : cs.length ≤ 10) (L : LineOk ts cs line ways) :
    (line.map (fun n : Nat => (n : Int))).length ≤ 1000 ∧ ∀ n ∈ line.map (fun n : Nat => (n : Int)), n.natAbs ≤ 1000000 := by
  refine ⟨by rw [List.length_map, L.len]; omega, fun n hn => ?_⟩
  obtain ⟨k, hk, rfl⟩ := List.mem_map.mp hn
  obtain ⟨m, hm, e⟩ := List.mem_iff_getElem.mp hk
  have hm2 : m < cs.length := by rw [← L.len]; exact hm
  have h1 := L.mem m hm2
  obtain ⟨r, _, hr, e2⟩ := row_at hm2
  rw [List.getD_eq_getElem?_getD, List.getElem?_eq_getElem hm, e, e2] at h1
  have h1' : k ∈ r.2 := h1
  have := (okR_cho oc h r hr).1.le _ h1'
  have h3 : k ≤ 1000000 := by omega
  simpa using h3
theorem d_law (ds μ Q) (h : G_law ds μ Q) : Body (t_law G__law_feed G__law_run G__law_choices G__law_wanted G__law_other_order G_latest G_line_asked G_extended G_extended_asked G_numbers_of G_numbers_asked) 13 ds μ Q := by
  obtain ⟨a, cells, rfl, ha, hl, q⟩ := h
  have hz : 200000 ≤ sizeLine := by decide
  have q : ∀ μ', Fg Q (.bl true) μ' := fun μ' => ⟨μ', fun _ _ h => h, q μ'⟩
  simp [-Bool.exists_bool, -Prod.exists, Body, t_law]
  refine u__law_feed ha hl fun pf pc μ1 f1 n1 n2 e1 => ?_
  refine u__law_run f1 (by omega) fun f b A dds s Pr μ2 wd W hPf f2 e2 => ?_
  have hn4 := wd.of.n4
  have hen := enDs_len f dds
  refine u__law_choices f2 (by omega) hPf W (by omega) (enDs_small wd.few) fun cs μ3 oc f3 o3 => ?_
  have W3 := W.outR hPf o3 (by obtain ⟨c, hc⟩ := f3.at1; rw [hc]; simp)
  have hcl : cs.length = f.rules.length := by rw [oc.len, hen]
  have hrow : ∀ r ∈ cs, 0 < r.2.length ∧ r.2.length ≤ 1000 := fun r hr => by
    have := (okR_cho oc (enDs_small wd.few) r hr).1
    exact ⟨List.length_pos_of_mem this.z, by have := this.len; omega⟩
  refine u__law_wanted f3 (by omega) (by omega) hrow fun pd ws μ4 ow m4 f4 e4 n4 => ?_
  have W4 : WIs Pr μ4 f b A dds s (enDs f dds) 200 := by
    obtain ⟨c, hc⟩ := f4.at1
    have Wa : WIs Pr (updM μ3 pf c) f b A dds s (enDs f dds) 200 := W3.outR hPf outR1 (by rw [updM_same]; simp)
    refine Wa.ext fun a d h => ?_
    by_cases ha : a = pf
    · subst ha; rw [updM_same] at h; rw [hc]; exact h
    · rw [updM_ne ha] at h; exact e4 _ _ ha h
  have hdf : pd ≠ pf := by obtain ⟨c, hc⟩ := f3.at1; exact (mu_ne hc n4).symm
  simp [-Bool.exists_bool, -Prod.exists, W4.aw, v_form, v_base, v_deeds, W4.ad]
  intro p1 hp1
  have W5 := W4.new (c := .lst (dds.map ddD)) hp1
  have f5 := f4.new (c := .lst (dds.map ddD)) hp1
  have n1f := f4.ne1 hp1
  have m5 : updM μ4 p1 (.lst (dds.map ddD)) pd = some (.dK (ws.map wcD)) := by rw [updM_ne (mu_ne m4 hp1)]; exact m4
  have d5 : updM μ4 p1 (.lst (dds.map ddD)) p1 = some (.lst (dds.map ddD)) := updM_same
  generalize updM μ4 p1 (.lst (dds.map ddD)) = μ5 at W5 f5 m5 d5 ⊢
  refine u__law_other_order f5 (by omega) hPf W5 wd fun po dds2 μ6 od p6 f6 e6 => ?_
  obtain ⟨ts, P⟩ := plan_ok wd od oc (enDs_small wd.few) ow
  have m6 := e6 _ _ hdf m5
  have d6 := e6 _ _ n1f d5
  clear W W3 W4 W5 f1 f2 f3 f4 f5 f6 e1 e2 o3 e4 e6
  refine u_latest d6 P.o1 P.t1 P.w.c P.ok fun pw hpw => ?_
  have pwk : ∀ {μ' : Mu}, (∀ a c, updM μ6 pw (.lst ((lowRes ts cs).2.map wyD)) a = some c → μ' a = some c) → μ' pw = some (.lst ((lowRes ts cs).2.map wyD)) := fun h => h _ _ updM_same
  have m7 : updM μ6 pw (.lst ((lowRes ts cs).2.map wyD)) pd = some (.dK (ws.map wcD)) := by rw [updM_ne (mu_ne m6 hpw)]; exact m6
  have d7 : updM μ6 pw (.lst ((lowRes ts cs).2.map wyD)) p1 = some (.lst (dds.map ddD)) := by rw [updM_ne (mu_ne d6 hpw)]; exact d6
  have p7 : updM μ6 pw (.lst ((lowRes ts cs).2.map wyD)) po = some (.lst (dds2.map ddD)) := by rw [updM_ne (mu_ne p6 hpw)]; exact p6
  have w7 : updM μ6 pw (.lst ((lowRes ts cs).2.map wyD)) pw = some (.lst ((lowRes ts cs).2.map wyD)) := updM_same
  generalize updM μ6 pw (.lst ((lowRes ts cs).2.map wyD)) = μ7 at m7 d7 p7 w7 ⊢
  simp [-Bool.exists_bool, -Prod.exists]
  refine u_latest p7 P.o2 P.t2 P.w.c P.ok fun pw2 hpw2 => ?_
  have e8 := ext1 (c := .lst ((lowRes ts cs).2.map wyD)) hpw2 (ext0 (μ := μ7))
  have m8 := e8 _ _ m7
  have d8 := e8 _ _ d7
  have p8 := e8 _ _ p7
  have w8 := e8 _ _ w7
  generalize updM μ7 pw2 (.lst ((lowRes ts cs).2.map wyD)) = μ8 at m8 d8 p8 w8 ⊢
  simp [-Bool.exists_bool, -Prod.exists]
  have ls := line_small oc (enDs_small wd.few) (by omega) P.line
  refine ⟨_, int_map _, ls.1, ls.2, _, int_map _, ls.1, ls.2, false, by rw [beq_self_eq_true]; rfl, ?_⟩
  rw [if_neg (by simp)]
  have ots : OkTs f b dds2 ts cs := ⟨P.o2, P.t2, P.w.c, P.ok, P.n, P.nd⟩
  have otu : OkTs f b dds2 ts (uptoL cs ws) := ⟨P.o2, P.t2, P.w.u, by rw [upto_len]; exact P.ok, P.n, P.nd⟩
  have on1 : OkN f b dds ts cs := ⟨P.o1, P.t1, P.w.c, P.ok, P.n, P.all, P.ft⟩
  have on2 : OkN f b dds2 ts cs := ⟨P.o2, P.t2, P.w.c, P.ok, P.n, P.all, P.ft⟩
  refine u_line_asked p8 w8 ots P.line ?_
  simp [-Bool.exists_bool, -Prod.exists]
  -- the last part: numbers
  have last : ∀ (μ9 : Mu) (x9 x10 x11 x12 : Option D), μ9 p1 = some (.lst (dds.map ddD)) → μ9 po = some (.lst (dds2.map ddD)) →
      aSeq (aAsg (aCall G_numbers_of (aCons (aVar 5) (aCons (aVar 6) (aCons (aVar 7) (aCons (aVar 3) aNil))))) (aName 11)) (aSeq (aAsg (aCall G_numbers_of (aCons (aVar 5) (aCons (aVar 6) (aCons (aVar 8) (aCons (aVar 3) aNil))))) (aName 12)) (aSeq (aIfS (aTest (aOp (rEqq false) (aOp rIxD (aVar 11) (aC (.int 0))) (aC (.str "useless")))) (aRet (aOp (rEqq false) (aSl (aVar 11) aNoPart (aPart (aC (.int 3)))) (aSl (aVar 12) aNoPart (aPart (aC (.int 3)))))) aNext)
        (aRet (aAndV (aOp (rEqq false) (aVar 11) (aVar 12)) (aOp (rIs false) (aCall G_numbers_asked (aCons (aVar 5) (aCons (aVar 6) (aCons (aVar 8) (aCons (aVar 3) (aCons (aOp rIxD (aVar 11) (aC (.int 1))) aNil)))))) (aC (.bl true)))))))
        { nx := fun _ μ' => Fg Q .non μ', rt := fun d μ' => Fg Q d μ' } [some (.ref a), some (.ref pf), some (.ref A.w), some (choD cs), some (.ref pd), some (fmD f), some (sdD b), some (.ref p1), some (.ref po), x9, x10, x11, x12] μ9 := by
    intro μ9 x9 x10 x11 x12 d9 p9
    simp [-Bool.exists_bool, -Prod.exists]
    cases hu : useL ts cs with
    | some u =>
      refine u_numbers_of d9 on1 ?_
      unfold NumQ
      rw [hu]
      simp only
      refine u_numbers_of p9 on2 ?_
      unfold NumQ
      rw [hu]
      simp only
      have c3 : ∀ x y z w : D, cutA [x, y, z, w] none (some 3) = [x, y, z] := fun _ _ _ _ => rfl
      have b3 : ∀ (m c : Nat), beqDs [D.str (Str.ofString "useless"), nD m, nD c] [D.str (Str.ofString "useless"), nD m, nD c] = true := fun m c => by simp [beqDs, beqD]
      simp [-Bool.exists_bool, -Prod.exists, usD, c3, b3, okD, okDs, lay_lits.1]
      exact q _
    | none =>
      obtain ⟨m, res, hr, hn⟩ := P.num hu
      refine u_numbers_of d9 on1 ?_
      unfold NumQ
      rw [hu]
      refine ⟨m, res, hr, ?_⟩
      refine u_numbers_of p9 on2 ?_
      unfold NumQ
      rw [hu]
      refine ⟨m, res, hr, ?_⟩
      have okn := okD_nm res
      have okn2 : okD 19 (nmD res) = true := by
        show okDs 18 _ = true
        exact okDs_map (e := fun row : List Nat => D.tup (row.map nD)) (n := 18) (fun row => okDs_int 17 row) res
      have bn := beqD_nm res
      have bb : beqDs [D.str (Str.ofString "numbers"), nmD res] [D.str (Str.ofString "numbers"), nmD res] = true := by simp [beqDs, beqD, bn]
      have oo : okD 20 (.tup [D.str (Str.ofString "numbers"), nmD res]) = true := by simp [okD, okDs, lay_lits.2, okn2]
      simp [-Bool.exists_bool, -Prod.exists, bb, oo]
      refine u_numbers_asked p9 on2 hn ?_
      simp [-Bool.exists_bool, -Prod.exists]
      exact q _
  refine u_extended d8 m8 P.o1 P.t1 P.w P.ok ?_
  unfold TellQ
  cases hh : hitL ts cs ws with
  | some w =>
    simp only
    refine u_extended p8 m8 P.o2 P.t2 P.w P.ok ?_
    unfold TellQ
    rw [hh]
    simp only
    simp [-Bool.exists_bool, -Prod.exists]
    refine u_extended_asked (ts := ts) p8 m8 P.w.c.n P.w.c.len otu P.wnd P.wn (.inr ⟨w, rfl, P.hit w hh⟩) ?_
    simp [-Bool.exists_bool, -Prod.exists]
    have := last μ8 (some (.tup ((lowRes ts cs).1.map nD))) (some (.ref pw)) (some (.tup [.str "way", wD w])) (some (.tup [.str "way", wD w])) d8 p8
    simpa [-Bool.exists_bool, -Prod.exists] using this
  | none =>
    obtain ⟨lo, lw⟩ := P.nohit hh
    simp only
    intro q1 hq1
    have e9 := ext1 (c := .lst ((lowRes ts (uptoL cs ws)).2.map wyD)) hq1 (ext0 (μ := μ8))
    have m9 := e9 _ _ m8
    have d9 := e9 _ _ d8
    have p9 := e9 _ _ p8
    have w9 : updM μ8 q1 (.lst ((lowRes ts (uptoL cs ws)).2.map wyD)) q1 = some (.lst ((lowRes ts (uptoL cs ws)).2.map wyD)) := updM_same
    generalize updM μ8 q1 (.lst ((lowRes ts (uptoL cs ws)).2.map wyD)) = μ9 at m9 d9 p9 w9 ⊢
    refine u_extended p9 m9 P.o2 P.t2 P.w P.ok ?_
    unfold TellQ
    rw [hh]
    simp only
    intro q2 hq2
    have e10 := ext1 (c := .lst ((lowRes ts (uptoL cs ws)).2.map wyD)) hq2 (ext0 (μ := μ9))
    have m10 := e10 _ _ m9
    have d10 := e10 _ _ d9
    have p10 := e10 _ _ p9
    have w10 := e10 _ _ w9
    generalize updM μ9 q2 (.lst ((lowRes ts (uptoL cs ws)).2.map wyD)) = μ10 at m10 d10 p10 w10 ⊢
    have bl := beqDs_int (lowRes ts (uptoL cs ws)).1
    have okl := oks_nat (n := 19) (lowRes ts (uptoL cs ws)).1
    have go : G_extended_asked [fmD f, sdD b, .ref po, choD cs, .ref pd, .tup [.str "line", .tup ((lowRes ts (uptoL cs ws)).1.map nD), .ref q1]] μ10 (fun d μ' => d = .bl true ∧ μ' = μ10) := u_extended_asked (ts := ts) p10 m10 P.w.c.n P.w.c.len otu P.wnd P.wn (.inl ⟨_, q1, _, rfl, w10, lo, lw⟩) ⟨rfl, rfl⟩
    have go2 : ∀ (Q' : D → Mu → Prop), Q' (.bl true) μ10 → G_extended_asked [fmD f, sdD b, .ref po, choD cs, .ref pd, .tup [.str "line", .tup ((lowRes ts (uptoL cs ws)).1.map nD), .ref q1]] μ10 Q' := fun Q' h => u_extended_asked (ts := ts) p10 m10 P.w.c.n P.w.c.len otu P.wnd P.wn (.inl ⟨_, q1, _, rfl, w10, lo, lw⟩) h
    have last2 := last μ10 (some (.tup ((lowRes ts cs).1.map nD))) (some (.ref pw)) (some (.tup [.str "line", .tup ((lowRes ts (uptoL cs ws)).1.map nD), .ref q1])) (some (.tup [.str "line", .tup ((lowRes ts (uptoL cs ws)).1.map nD), .ref q2])) d10 p10
    generalize (lowRes ts (uptoL cs ws)).1.map nD = LL at bl okl go2 last2 ⊢
    simp [-Bool.exists_bool, -Prod.exists, bl, okl]
    refine go2 _ ?_
    simp [-Bool.exists_bool, -Prod.exists]
    simpa [-Bool.exists_bool, -Prod.exists] using last2
end Cs

set_option maxHeartbeats 0
/-! ## CsHead -/
/-! The head: what the top leaves (printed by gen_head.py). -/
namespace Cs
open PySem PySem.Spec PyProof.Rows L2
def dd (x : Str) (i : Nat) : He.DefD := ⟨(x, none), x, x, defArgs (top i), defBody (top i), defScope (top i), [], []⟩
def fn : List He.DefD := [dd "up_to" 1, dd "floor_of" 2, dd "next_of" 3, dd "is_whole" 13, dd "is_within" 14, dd "is_word" 15, dd "is_sign" 16, dd "is_tuple" 17, dd "answer" 18, dd "waits" 20, dd "is_plain" 22, dd "machine_of" 23, dd "cause_of" 24, dd "answered" 25, dd "can" 26, dd "taken_out" 27, dd "sent_out" 28, dd "done" 29, dd "run" 30, dd "events_of" 32, dd "letters_of" 33, dd "event_number" 35, dd "trips" 36, dd "was_sent" 37, dd "has_come" 38, dd "is_whole_trip" 39, dd "is_number" 41, dd "is_letters" 42, dd "crossing" 43, dd "lowered" 44, dd "latest" 45, dd "wrong_place" 46, dd "ends_at" 47, dd "ask_line" 48, dd "ask_right" 49, dd "ask_rows" 50, dd "line_asked" 51, dd "told_of" 53, dd "extended" 54, dd "ask_way" 55, dd "extended_asked" 56, dd "first_useless" 58, dd "place_in" 59, dd "raised" 60, dd "numbers_of" 61, dd "is_form_of" 62, dd "ask_trip" 63, dd "numbers_asked" 64, dd "_law_feed" 66, dd "_law_draw" 67, dd "_law_rule" 68, dd "_law_form" 69, dd "_law_base" 70, dd "_law_begun" 71, dd "_law_move" 72, dd "_law_do" 73, dd "_law_deed" 74, dd "_law_run" 75, dd "_law_choices" 76, dd "_law_wanted" 77, dd "_law_machine" 78, dd "_law_can" 79, dd "_law_other_order" 80, dd "law" 81]
def fa : List He.Fa := [.glo "up_to", .glo "floor_of", .glo "next_of", .glo "is_whole", .glo "is_within", .glo "is_word", .glo "is_sign", .glo "is_tuple", .glo "answer", .glo "waits", .glo "is_plain", .glo "machine_of", .glo "cause_of", .glo "answered", .glo "can", .glo "taken_out", .glo "sent_out", .glo "done", .glo "run", .glo "events_of", .glo "letters_of", .glo "event_number", .glo "trips", .glo "was_sent", .glo "has_come", .glo "is_whole_trip", .glo "is_number", .glo "is_letters", .glo "crossing", .glo "lowered", .glo "latest", .glo "wrong_place", .glo "ends_at", .glo "ask_line", .glo "ask_right", .glo "ask_rows", .glo "line_asked", .glo "told_of", .glo "extended", .glo "ask_way", .glo "extended_asked", .glo "first_useless", .glo "place_in", .glo "raised", .glo "numbers_of", .glo "is_form_of", .glo "ask_trip", .glo "numbers_asked", .glo "_law_feed", .glo "_law_draw", .glo "_law_rule", .glo "_law_form", .glo "_law_base", .glo "_law_begun", .glo "_law_move", .glo "_law_do", .glo "_law_deed", .glo "_law_run", .glo "_law_choices", .glo "_law_wanted", .glo "_law_machine", .glo "_law_can", .glo "_law_other_order", .glo "law", .free "isinstance", .free "int", .free "bool", .free "len", .free "str", .free "tuple", .free "list", .free "enumerate", .free "range", .free "max", .free "all", .free "any", .free "sorted", .free "min", .free "zip", .free "dict", .free "repr", .str "LETTERS" "abcdefghijklmnopqrstuvwxyz", .int "MOST_LONG" 8]
def isLst (o : Obj) : Bool := match o.cls with
  | .type c => decide (c = "list")
  | _ => false
/-- what the names reach, but for lists -/
def frL (g : Addr → Option Obj) (as : List Addr) : PySem.W.Frag := (He.frG g as).filter fun p => !isLst p.2
theorem mem_lk : ∀ {K : PySem.W.Frag} {a : Addr} {o : Obj}, K.lookup a = some o → (a, o) ∈ K
  | [], _, _, e => by cases e
  | (b, x) :: r, a, o, e => by
    rw [List.lookup_cons] at e
    split at e
    · rename_i h
      rw [beq_iff_eq.mp h, Option.some.inj e]
      exact List.mem_cons_self
    · exact List.mem_cons_of_mem _ (mem_lk e)
theorem frL_in {as : List Addr} {h : Heap} : (frL h.get? as).In h := fun a o e => by
  unfold frL at e
  have m := (List.mem_filter.mp (mem_lk e)).1
  unfold He.frG at m
  obtain ⟨b, _, hb⟩ := List.mem_filterMap.mp m
  obtain ⟨o2, ho, e2⟩ := Option.map_eq_some_iff.mp hb
  cases e2
  exact ho
theorem frL_no {as : List Addr} {g : Addr → Option Obj} {a : Addr} {o : Obj} (e : (frL g as).lookup a = some o) : isLst o = false := by
  unfold frL at e
  have m := (List.mem_filter.mp (mem_lk e)).2
  simpa using m
def hookL (n : Nat) (fa : List He.Fa) (fn : List He.DefD) : PySem.W.Hook where
  α := He.AlD
  obs := fun s => He.obsD fa fn (frL s.heap.get? (He.asD s.heap.get? n))
  val := fun _ => He.valD fn
  says := fun _ h => ∃ K : PySem.W.Frag, K.In h ∧ He.SaysD fa fn K ∧ ∀ a o, K.lookup a = some o → isLst o = false
  of := fun _ _ e => ⟨_, frL_in, e, fun _ _ => frL_no⟩
  keeps := fun _ _ _ ⟨K, hK, c, d⟩ k => ⟨K, PySem.W.Frag.In.keeps hK k, c, d⟩
abbrev hk : PySem.W.Hook := hookL 4 fa fn
def ob (s : PySem.W.SharedT) : He.AlD := He.obsD fa fn (frL (HandSHeadRun.getT s) (He.asD (HandSHeadRun.getT s) 4))
theorem ob_eq (s : PySem.W.SharedT) : ob s = hk.obs s.abs := by
  have e : HandSHeadRun.getT s = s.abs.heap.get? := funext (HandSHeadRun.getT_eq s)
  show ob s = He.obsD fa fn (frL s.abs.heap.get? (He.asD s.abs.heap.get? 4))
  unfold ob
  rw [e]
def nm0 : List PySem.Str := ["up_to", "floor_of", "next_of", "CutError", "NoDeed", "NoNumbers", "NoLine", "NoZigzag", "LETTERS", "MOST_LONG", "is_whole", "is_within", "is_word", "is_sign", "is_tuple", "answer", "waits", "is_plain", "machine_of", "cause_of", "answered", "can", "taken_out", "sent_out"]
def nm1 : List PySem.Str := ["done", "run", "events_of", "letters_of", "event_number", "trips", "was_sent", "has_come", "is_whole_trip", "is_number", "is_letters", "crossing", "lowered", "latest", "wrong_place", "ends_at", "ask_line", "ask_right", "ask_rows", "line_asked", "told_of", "extended", "ask_way", "extended_asked"]
def nm2 : List PySem.Str := ["first_useless", "place_in", "raised", "numbers_of", "is_form_of", "ask_trip", "numbers_asked", "_law_feed", "_law_draw", "_law_rule", "_law_form", "_law_base", "_law_begun", "_law_move", "_law_do", "_law_deed", "_law_run", "_law_choices", "_law_wanted", "_law_machine", "_law_can", "_law_other_order"]
theorem run (w : PySem.World) : HandSHeadRun.RunEq R (PySem.W.view R.prog [81]) hk ob 4000 (nm0 ++ nm1 ++ nm2) w := by
  intro os
  kernel_rfl
end Cs

set_option maxHeartbeats 4000000
/-! ## J0 -/
/-! The join: every def keeps its promise (printed by gen_join.py). -/
namespace Cs
open PySem PySem.Spec PyProof.Rows L2 Dl
structure Dfs (K : PySem.W.Frag) (mg : Str → Option Value) : Prop where
  x_up_to : Df K mg "up_to" (top 1)
  x_floor_of : Df K mg "floor_of" (top 2)
  x_next_of : Df K mg "next_of" (top 3)
  x_is_whole : Df K mg "is_whole" (top 13)
  x_is_within : Df K mg "is_within" (top 14)
  x_is_word : Df K mg "is_word" (top 15)
  x_is_sign : Df K mg "is_sign" (top 16)
  x_is_tuple : Df K mg "is_tuple" (top 17)
  x_answer : Df K mg "answer" (top 18)
  x_waits : Df K mg "waits" (top 20)
  x_is_plain : Df K mg "is_plain" (top 22)
  x_machine_of : Df K mg "machine_of" (top 23)
  x_cause_of : Df K mg "cause_of" (top 24)
  x_answered : Df K mg "answered" (top 25)
  x_can : Df K mg "can" (top 26)
  x_taken_out : Df K mg "taken_out" (top 27)
  x_sent_out : Df K mg "sent_out" (top 28)
  x_done : Df K mg "done" (top 29)
  x_run : Df K mg "run" (top 30)
  x_events_of : Df K mg "events_of" (top 32)
  x_letters_of : Df K mg "letters_of" (top 33)
  x_event_number : Df K mg "event_number" (top 35)
  x_trips : Df K mg "trips" (top 36)
  x_was_sent : Df K mg "was_sent" (top 37)
  x_has_come : Df K mg "has_come" (top 38)
  x_is_whole_trip : Df K mg "is_whole_trip" (top 39)
  x_is_number : Df K mg "is_number" (top 41)
  x_is_letters : Df K mg "is_letters" (top 42)
  x_crossing : Df K mg "crossing" (top 43)
  x_lowered : Df K mg "lowered" (top 44)
  x_latest : Df K mg "latest" (top 45)
  x_wrong_place : Df K mg "wrong_place" (top 46)
  x_ends_at : Df K mg "ends_at" (top 47)
  x_ask_line : Df K mg "ask_line" (top 48)
  x_ask_right : Df K mg "ask_right" (top 49)
  x_ask_rows : Df K mg "ask_rows" (top 50)
  x_line_asked : Df K mg "line_asked" (top 51)
  x_told_of : Df K mg "told_of" (top 53)
  x_extended : Df K mg "extended" (top 54)
  x_ask_way : Df K mg "ask_way" (top 55)
  x_extended_asked : Df K mg "extended_asked" (top 56)
  x_first_useless : Df K mg "first_useless" (top 58)
  x_place_in : Df K mg "place_in" (top 59)
  x_raised : Df K mg "raised" (top 60)
  x_numbers_of : Df K mg "numbers_of" (top 61)
  x_is_form_of : Df K mg "is_form_of" (top 62)
  x_ask_trip : Df K mg "ask_trip" (top 63)
  x_numbers_asked : Df K mg "numbers_asked" (top 64)
  x__law_feed : Df K mg "_law_feed" (top 66)
  x__law_draw : Df K mg "_law_draw" (top 67)
  x__law_rule : Df K mg "_law_rule" (top 68)
  x__law_form : Df K mg "_law_form" (top 69)
  x__law_base : Df K mg "_law_base" (top 70)
  x__law_begun : Df K mg "_law_begun" (top 71)
  x__law_move : Df K mg "_law_move" (top 72)
  x__law_do : Df K mg "_law_do" (top 73)
  x__law_deed : Df K mg "_law_deed" (top 74)
  x__law_run : Df K mg "_law_run" (top 75)
  x__law_choices : Df K mg "_law_choices" (top 76)
  x__law_wanted : Df K mg "_law_wanted" (top 77)
  x__law_machine : Df K mg "_law_machine" (top 78)
  x__law_can : Df K mg "_law_can" (top 79)
  x__law_other_order : Df K mg "_law_other_order" (top 80)
section
variable {P : Program} {w : PySem.World} {K : PySem.W.Frag} {mg : Str → Option Value} {base : Heap}
theorem len_up_to : ∀ ds μ Q, G_up_to ds μ Q → ds.length = 2 := by
  intro ds μ Q h
  unfold G_up_to at h
  first | (split at h <;> first | rfl | exact h.elim) | (obtain ⟨rfl, _⟩ := h; rfl) | (obtain ⟨_, rfl, _⟩ := h; rfl) | (obtain ⟨_, _, rfl, _⟩ := h; rfl) | (obtain ⟨_, _, _, rfl, _⟩ := h; rfl) | (obtain ⟨_, _, _, _, rfl, _⟩ := h; rfl) | (obtain ⟨_, _, _, _, _, rfl, _⟩ := h; rfl) | (obtain ⟨_, _, _, _, _, _, rfl, _⟩ := h; rfl) | (obtain ⟨_, _, _, _, _, _, _, rfl, _⟩ := h; rfl) | (obtain ⟨_, _, _, _, _, _, _, _, rfl, _⟩ := h; rfl) | (obtain ⟨_, _, _, _, _, _, _, _, _, rfl, _⟩ := h; rfl) | (obtain ⟨_, _, _, _, _, _, _, _, _, _, rfl, _⟩ := h; rfl) | (obtain ⟨_, _, _, _, _, _, _, _, _, _, _, rfl, _⟩ := h; rfl) | (obtain ⟨_, _, _, _, _, _, _, _, _, _, _, _, rfl, _⟩ := h; rfl) | (obtain ⟨_, _, _, _, _, _, _, _, _, _, _, _, _, rfl, _⟩ := h; rfl) | (obtain ⟨_, _, _, _, _, _, _, _, _, _, _, _, _, _, rfl, _⟩ := h; rfl) | (obtain ⟨_, _, _, _, _, _, _, _, _, _, _, _, _, _, _, rfl, _⟩ := h; rfl)
theorem cc_up_to (Z : Fz mg) (D : Dfs K mg) : Cal P w K mg base 1 "up_to" G_up_to := cal_up_to (k := 0) Z D.x_up_to  len_up_to d_up_to
theorem len_floor_of : ∀ ds μ Q, G_floor_of ds μ Q → ds.length = 2 := by
  intro ds μ Q h
  unfold G_floor_of at h
  first | (split at h <;> first | rfl | exact h.elim) | (obtain ⟨rfl, _⟩ := h; rfl) | (obtain ⟨_, rfl, _⟩ := h; rfl) | (obtain ⟨_, _, rfl, _⟩ := h; rfl) | (obtain ⟨_, _, _, rfl, _⟩ := h; rfl) | (obtain ⟨_, _, _, _, rfl, _⟩ := h; rfl) | (obtain ⟨_, _, _, _, _, rfl, _⟩ := h; rfl) | (obtain ⟨_, _, _, _, _, _, rfl, _⟩ := h; rfl) | (obtain ⟨_, _, _, _, _, _, _, rfl, _⟩ := h; rfl) | (obtain ⟨_, _, _, _, _, _, _, _, rfl, _⟩ := h; rfl) | (obtain ⟨_, _, _, _, _, _, _, _, _, rfl, _⟩ := h; rfl) | (obtain ⟨_, _, _, _, _, _, _, _, _, _, rfl, _⟩ := h; rfl) | (obtain ⟨_, _, _, _, _, _, _, _, _, _, _, rfl, _⟩ := h; rfl) | (obtain ⟨_, _, _, _, _, _, _, _, _, _, _, _, rfl, _⟩ := h; rfl) | (obtain ⟨_, _, _, _, _, _, _, _, _, _, _, _, _, rfl, _⟩ := h; rfl) | (obtain ⟨_, _, _, _, _, _, _, _, _, _, _, _, _, _, rfl, _⟩ := h; rfl) | (obtain ⟨_, _, _, _, _, _, _, _, _, _, _, _, _, _, _, rfl, _⟩ := h; rfl)
theorem cc_floor_of (Z : Fz mg) (D : Dfs K mg) : Cal P w K mg base 1 "floor_of" G_floor_of := cal_floor_of (k := 0) Z D.x_floor_of  len_floor_of d_floor_of
theorem len_next_of : ∀ ds μ Q, G_next_of ds μ Q → ds.length = 2 := by
  intro ds μ Q h
  unfold G_next_of at h
  first | (split at h <;> first | rfl | exact h.elim) | (obtain ⟨rfl, _⟩ := h; rfl) | (obtain ⟨_, rfl, _⟩ := h; rfl) | (obtain ⟨_, _, rfl, _⟩ := h; rfl) | (obtain ⟨_, _, _, rfl, _⟩ := h; rfl) | (obtain ⟨_, _, _, _, rfl, _⟩ := h; rfl) | (obtain ⟨_, _, _, _, _, rfl, _⟩ := h; rfl) | (obtain ⟨_, _, _, _, _, _, rfl, _⟩ := h; rfl) | (obtain ⟨_, _, _, _, _, _, _, rfl, _⟩ := h; rfl) | (obtain ⟨_, _, _, _, _, _, _, _, rfl, _⟩ := h; rfl) | (obtain ⟨_, _, _, _, _, _, _, _, _, rfl, _⟩ := h; rfl) | (obtain ⟨_, _, _, _, _, _, _, _, _, _, rfl, _⟩ := h; rfl) | (obtain ⟨_, _, _, _, _, _, _, _, _, _, _, rfl, _⟩ := h; rfl) | (obtain ⟨_, _, _, _, _, _, _, _, _, _, _, _, rfl, _⟩ := h; rfl) | (obtain ⟨_, _, _, _, _, _, _, _, _, _, _, _, _, rfl, _⟩ := h; rfl) | (obtain ⟨_, _, _, _, _, _, _, _, _, _, _, _, _, _, rfl, _⟩ := h; rfl) | (obtain ⟨_, _, _, _, _, _, _, _, _, _, _, _, _, _, _, rfl, _⟩ := h; rfl)
theorem cc_next_of (Z : Fz mg) (D : Dfs K mg) : Cal P w K mg base 1 "next_of" G_next_of := cal_next_of (k := 0) Z D.x_next_of  len_next_of d_next_of
theorem len_is_whole : ∀ ds μ Q, G_is_whole ds μ Q → ds.length = 1 := by
  intro ds μ Q h
  unfold G_is_whole at h
  first | (split at h <;> first | rfl | exact h.elim) | (obtain ⟨rfl, _⟩ := h; rfl) | (obtain ⟨_, rfl, _⟩ := h; rfl) | (obtain ⟨_, _, rfl, _⟩ := h; rfl) | (obtain ⟨_, _, _, rfl, _⟩ := h; rfl) | (obtain ⟨_, _, _, _, rfl, _⟩ := h; rfl) | (obtain ⟨_, _, _, _, _, rfl, _⟩ := h; rfl) | (obtain ⟨_, _, _, _, _, _, rfl, _⟩ := h; rfl) | (obtain ⟨_, _, _, _, _, _, _, rfl, _⟩ := h; rfl) | (obtain ⟨_, _, _, _, _, _, _, _, rfl, _⟩ := h; rfl) | (obtain ⟨_, _, _, _, _, _, _, _, _, rfl, _⟩ := h; rfl) | (obtain ⟨_, _, _, _, _, _, _, _, _, _, rfl, _⟩ := h; rfl) | (obtain ⟨_, _, _, _, _, _, _, _, _, _, _, rfl, _⟩ := h; rfl) | (obtain ⟨_, _, _, _, _, _, _, _, _, _, _, _, rfl, _⟩ := h; rfl) | (obtain ⟨_, _, _, _, _, _, _, _, _, _, _, _, _, rfl, _⟩ := h; rfl) | (obtain ⟨_, _, _, _, _, _, _, _, _, _, _, _, _, _, rfl, _⟩ := h; rfl) | (obtain ⟨_, _, _, _, _, _, _, _, _, _, _, _, _, _, _, rfl, _⟩ := h; rfl)
theorem cc_is_whole (Z : Fz mg) (D : Dfs K mg) : Cal P w K mg base 1 "is_whole" G_is_whole := cal_is_whole (k := 0) Z D.x_is_whole  len_is_whole d_is_whole
theorem len_is_within : ∀ ds μ Q, G_is_within ds μ Q → ds.length = 3 := by
  intro ds μ Q h
  unfold G_is_within at h
  first | (split at h <;> first | rfl | exact h.elim) | (obtain ⟨rfl, _⟩ := h; rfl) | (obtain ⟨_, rfl, _⟩ := h; rfl) | (obtain ⟨_, _, rfl, _⟩ := h; rfl) | (obtain ⟨_, _, _, rfl, _⟩ := h; rfl) | (obtain ⟨_, _, _, _, rfl, _⟩ := h; rfl) | (obtain ⟨_, _, _, _, _, rfl, _⟩ := h; rfl) | (obtain ⟨_, _, _, _, _, _, rfl, _⟩ := h; rfl) | (obtain ⟨_, _, _, _, _, _, _, rfl, _⟩ := h; rfl) | (obtain ⟨_, _, _, _, _, _, _, _, rfl, _⟩ := h; rfl) | (obtain ⟨_, _, _, _, _, _, _, _, _, rfl, _⟩ := h; rfl) | (obtain ⟨_, _, _, _, _, _, _, _, _, _, rfl, _⟩ := h; rfl) | (obtain ⟨_, _, _, _, _, _, _, _, _, _, _, rfl, _⟩ := h; rfl) | (obtain ⟨_, _, _, _, _, _, _, _, _, _, _, _, rfl, _⟩ := h; rfl) | (obtain ⟨_, _, _, _, _, _, _, _, _, _, _, _, _, rfl, _⟩ := h; rfl) | (obtain ⟨_, _, _, _, _, _, _, _, _, _, _, _, _, _, rfl, _⟩ := h; rfl) | (obtain ⟨_, _, _, _, _, _, _, _, _, _, _, _, _, _, _, rfl, _⟩ := h; rfl)
theorem cc_is_within (Z : Fz mg) (D : Dfs K mg) : Cal P w K mg base 2 "is_within" G_is_within := cal_is_within (k := 1) Z D.x_is_within (cc_is_whole Z D) len_is_within d_is_within
theorem len_is_word : ∀ ds μ Q, G_is_word ds μ Q → ds.length = 1 := by
  intro ds μ Q h
  unfold G_is_word at h
  first | (split at h <;> first | rfl | exact h.elim) | (obtain ⟨rfl, _⟩ := h; rfl) | (obtain ⟨_, rfl, _⟩ := h; rfl) | (obtain ⟨_, _, rfl, _⟩ := h; rfl) | (obtain ⟨_, _, _, rfl, _⟩ := h; rfl) | (obtain ⟨_, _, _, _, rfl, _⟩ := h; rfl) | (obtain ⟨_, _, _, _, _, rfl, _⟩ := h; rfl) | (obtain ⟨_, _, _, _, _, _, rfl, _⟩ := h; rfl) | (obtain ⟨_, _, _, _, _, _, _, rfl, _⟩ := h; rfl) | (obtain ⟨_, _, _, _, _, _, _, _, rfl, _⟩ := h; rfl) | (obtain ⟨_, _, _, _, _, _, _, _, _, rfl, _⟩ := h; rfl) | (obtain ⟨_, _, _, _, _, _, _, _, _, _, rfl, _⟩ := h; rfl) | (obtain ⟨_, _, _, _, _, _, _, _, _, _, _, rfl, _⟩ := h; rfl) | (obtain ⟨_, _, _, _, _, _, _, _, _, _, _, _, rfl, _⟩ := h; rfl) | (obtain ⟨_, _, _, _, _, _, _, _, _, _, _, _, _, rfl, _⟩ := h; rfl) | (obtain ⟨_, _, _, _, _, _, _, _, _, _, _, _, _, _, rfl, _⟩ := h; rfl) | (obtain ⟨_, _, _, _, _, _, _, _, _, _, _, _, _, _, _, rfl, _⟩ := h; rfl)
theorem cc_is_word (Z : Fz mg) (D : Dfs K mg) : Cal P w K mg base 1 "is_word" G_is_word := cal_is_word (k := 0) Z D.x_is_word  len_is_word d_is_word
theorem len_is_sign : ∀ ds μ Q, G_is_sign ds μ Q → ds.length = 1 := by
  intro ds μ Q h
  unfold G_is_sign at h
  first | (split at h <;> first | rfl | exact h.elim) | (obtain ⟨rfl, _⟩ := h; rfl) | (obtain ⟨_, rfl, _⟩ := h; rfl) | (obtain ⟨_, _, rfl, _⟩ := h; rfl) | (obtain ⟨_, _, _, rfl, _⟩ := h; rfl) | (obtain ⟨_, _, _, _, rfl, _⟩ := h; rfl) | (obtain ⟨_, _, _, _, _, rfl, _⟩ := h; rfl) | (obtain ⟨_, _, _, _, _, _, rfl, _⟩ := h; rfl) | (obtain ⟨_, _, _, _, _, _, _, rfl, _⟩ := h; rfl) | (obtain ⟨_, _, _, _, _, _, _, _, rfl, _⟩ := h; rfl) | (obtain ⟨_, _, _, _, _, _, _, _, _, rfl, _⟩ := h; rfl) | (obtain ⟨_, _, _, _, _, _, _, _, _, _, rfl, _⟩ := h; rfl) | (obtain ⟨_, _, _, _, _, _, _, _, _, _, _, rfl, _⟩ := h; rfl) | (obtain ⟨_, _, _, _, _, _, _, _, _, _, _, _, rfl, _⟩ := h; rfl) | (obtain ⟨_, _, _, _, _, _, _, _, _, _, _, _, _, rfl, _⟩ := h; rfl) | (obtain ⟨_, _, _, _, _, _, _, _, _, _, _, _, _, _, rfl, _⟩ := h; rfl) | (obtain ⟨_, _, _, _, _, _, _, _, _, _, _, _, _, _, _, rfl, _⟩ := h; rfl)
theorem cc_is_sign (Z : Fz mg) (D : Dfs K mg) : Cal P w K mg base 2 "is_sign" G_is_sign := cal_is_sign (k := 1) Z D.x_is_sign (cc_is_word Z D) len_is_sign d_is_sign
theorem len_is_tuple : ∀ ds μ Q, G_is_tuple ds μ Q → ds.length = 2 := by
  intro ds μ Q h
  unfold G_is_tuple at h
  first | (split at h <;> first | rfl | exact h.elim) | (obtain ⟨rfl, _⟩ := h; rfl) | (obtain ⟨_, rfl, _⟩ := h; rfl) | (obtain ⟨_, _, rfl, _⟩ := h; rfl) | (obtain ⟨_, _, _, rfl, _⟩ := h; rfl) | (obtain ⟨_, _, _, _, rfl, _⟩ := h; rfl) | (obtain ⟨_, _, _, _, _, rfl, _⟩ := h; rfl) | (obtain ⟨_, _, _, _, _, _, rfl, _⟩ := h; rfl) | (obtain ⟨_, _, _, _, _, _, _, rfl, _⟩ := h; rfl) | (obtain ⟨_, _, _, _, _, _, _, _, rfl, _⟩ := h; rfl) | (obtain ⟨_, _, _, _, _, _, _, _, _, rfl, _⟩ := h; rfl) | (obtain ⟨_, _, _, _, _, _, _, _, _, _, rfl, _⟩ := h; rfl) | (obtain ⟨_, _, _, _, _, _, _, _, _, _, _, rfl, _⟩ := h; rfl) | (obtain ⟨_, _, _, _, _, _, _, _, _, _, _, _, rfl, _⟩ := h; rfl) | (obtain ⟨_, _, _, _, _, _, _, _, _, _, _, _, _, rfl, _⟩ := h; rfl) | (obtain ⟨_, _, _, _, _, _, _, _, _, _, _, _, _, _, rfl, _⟩ := h; rfl) | (obtain ⟨_, _, _, _, _, _, _, _, _, _, _, _, _, _, _, rfl, _⟩ := h; rfl)
theorem cc_is_tuple (Z : Fz mg) (D : Dfs K mg) : Cal P w K mg base 1 "is_tuple" G_is_tuple := cal_is_tuple (k := 0) Z D.x_is_tuple  len_is_tuple d_is_tuple
theorem len_answer : ∀ ds μ Q, G_answer ds μ Q → ds.length = 4 := by
  intro ds μ Q h
  unfold G_answer at h
  first | (split at h <;> first | rfl | exact h.elim) | (obtain ⟨rfl, _⟩ := h; rfl) | (obtain ⟨_, rfl, _⟩ := h; rfl) | (obtain ⟨_, _, rfl, _⟩ := h; rfl) | (obtain ⟨_, _, _, rfl, _⟩ := h; rfl) | (obtain ⟨_, _, _, _, rfl, _⟩ := h; rfl) | (obtain ⟨_, _, _, _, _, rfl, _⟩ := h; rfl) | (obtain ⟨_, _, _, _, _, _, rfl, _⟩ := h; rfl) | (obtain ⟨_, _, _, _, _, _, _, rfl, _⟩ := h; rfl) | (obtain ⟨_, _, _, _, _, _, _, _, rfl, _⟩ := h; rfl) | (obtain ⟨_, _, _, _, _, _, _, _, _, rfl, _⟩ := h; rfl) | (obtain ⟨_, _, _, _, _, _, _, _, _, _, rfl, _⟩ := h; rfl) | (obtain ⟨_, _, _, _, _, _, _, _, _, _, _, rfl, _⟩ := h; rfl) | (obtain ⟨_, _, _, _, _, _, _, _, _, _, _, _, rfl, _⟩ := h; rfl) | (obtain ⟨_, _, _, _, _, _, _, _, _, _, _, _, _, rfl, _⟩ := h; rfl) | (obtain ⟨_, _, _, _, _, _, _, _, _, _, _, _, _, _, rfl, _⟩ := h; rfl) | (obtain ⟨_, _, _, _, _, _, _, _, _, _, _, _, _, _, _, rfl, _⟩ := h; rfl)
theorem cc_answer (Z : Fz mg) (D : Dfs K mg) : Cal P w K mg base 1 "answer" G_answer := cal_answer (k := 0) Z D.x_answer  len_answer d_answer
theorem len_waits : ∀ ds μ Q, G_waits ds μ Q → ds.length = 2 := by
  intro ds μ Q h
  unfold G_waits at h
  first | (split at h <;> first | rfl | exact h.elim) | (obtain ⟨rfl, _⟩ := h; rfl) | (obtain ⟨_, rfl, _⟩ := h; rfl) | (obtain ⟨_, _, rfl, _⟩ := h; rfl) | (obtain ⟨_, _, _, rfl, _⟩ := h; rfl) | (obtain ⟨_, _, _, _, rfl, _⟩ := h; rfl) | (obtain ⟨_, _, _, _, _, rfl, _⟩ := h; rfl) | (obtain ⟨_, _, _, _, _, _, rfl, _⟩ := h; rfl) | (obtain ⟨_, _, _, _, _, _, _, rfl, _⟩ := h; rfl) | (obtain ⟨_, _, _, _, _, _, _, _, rfl, _⟩ := h; rfl) | (obtain ⟨_, _, _, _, _, _, _, _, _, rfl, _⟩ := h; rfl) | (obtain ⟨_, _, _, _, _, _, _, _, _, _, rfl, _⟩ := h; rfl) | (obtain ⟨_, _, _, _, _, _, _, _, _, _, _, rfl, _⟩ := h; rfl) | (obtain ⟨_, _, _, _, _, _, _, _, _, _, _, _, rfl, _⟩ := h; rfl) | (obtain ⟨_, _, _, _, _, _, _, _, _, _, _, _, _, rfl, _⟩ := h; rfl) | (obtain ⟨_, _, _, _, _, _, _, _, _, _, _, _, _, _, rfl, _⟩ := h; rfl) | (obtain ⟨_, _, _, _, _, _, _, _, _, _, _, _, _, _, _, rfl, _⟩ := h; rfl)
theorem cc_waits (Z : Fz mg) (D : Dfs K mg) : Cal P w K mg base 1 "waits" G_waits := cal_waits (k := 0) Z D.x_waits  len_waits d_waits
theorem len_is_plain : ∀ ds μ Q, G_is_plain ds μ Q → ds.length = 2 := by
  intro ds μ Q h
  unfold G_is_plain at h
  first | (split at h <;> first | rfl | exact h.elim) | (obtain ⟨rfl, _⟩ := h; rfl) | (obtain ⟨_, rfl, _⟩ := h; rfl) | (obtain ⟨_, _, rfl, _⟩ := h; rfl) | (obtain ⟨_, _, _, rfl, _⟩ := h; rfl) | (obtain ⟨_, _, _, _, rfl, _⟩ := h; rfl) | (obtain ⟨_, _, _, _, _, rfl, _⟩ := h; rfl) | (obtain ⟨_, _, _, _, _, _, rfl, _⟩ := h; rfl) | (obtain ⟨_, _, _, _, _, _, _, rfl, _⟩ := h; rfl) | (obtain ⟨_, _, _, _, _, _, _, _, rfl, _⟩ := h; rfl) | (obtain ⟨_, _, _, _, _, _, _, _, _, rfl, _⟩ := h; rfl) | (obtain ⟨_, _, _, _, _, _, _, _, _, _, rfl, _⟩ := h; rfl) | (obtain ⟨_, _, _, _, _, _, _, _, _, _, _, rfl, _⟩ := h; rfl) | (obtain ⟨_, _, _, _, _, _, _, _, _, _, _, _, rfl, _⟩ := h; rfl) | (obtain ⟨_, _, _, _, _, _, _, _, _, _, _, _, _, rfl, _⟩ := h; rfl) | (obtain ⟨_, _, _, _, _, _, _, _, _, _, _, _, _, _, rfl, _⟩ := h; rfl) | (obtain ⟨_, _, _, _, _, _, _, _, _, _, _, _, _, _, _, rfl, _⟩ := h; rfl)
theorem cc_is_plain (Z : Fz mg) (D : Dfs K mg) : Cal P w K mg base 3 "is_plain" G_is_plain := cal_is_plain (k := 2) Z D.x_is_plain (cc_is_within Z D) (cc_is_sign Z D) ((cc_is_tuple Z D).mono (by decide)) ((cc_is_whole Z D).mono (by decide)) len_is_plain d_is_plain
theorem len_machine_of : ∀ ds μ Q, G_machine_of ds μ Q → ds.length = 2 := by
  intro ds μ Q h
  unfold G_machine_of at h
  first | (split at h <;> first | rfl | exact h.elim) | (obtain ⟨rfl, _⟩ := h; rfl) | (obtain ⟨_, rfl, _⟩ := h; rfl) | (obtain ⟨_, _, rfl, _⟩ := h; rfl) | (obtain ⟨_, _, _, rfl, _⟩ := h; rfl) | (obtain ⟨_, _, _, _, rfl, _⟩ := h; rfl) | (obtain ⟨_, _, _, _, _, rfl, _⟩ := h; rfl) | (obtain ⟨_, _, _, _, _, _, rfl, _⟩ := h; rfl) | (obtain ⟨_, _, _, _, _, _, _, rfl, _⟩ := h; rfl) | (obtain ⟨_, _, _, _, _, _, _, _, rfl, _⟩ := h; rfl) | (obtain ⟨_, _, _, _, _, _, _, _, _, rfl, _⟩ := h; rfl) | (obtain ⟨_, _, _, _, _, _, _, _, _, _, rfl, _⟩ := h; rfl) | (obtain ⟨_, _, _, _, _, _, _, _, _, _, _, rfl, _⟩ := h; rfl) | (obtain ⟨_, _, _, _, _, _, _, _, _, _, _, _, rfl, _⟩ := h; rfl) | (obtain ⟨_, _, _, _, _, _, _, _, _, _, _, _, _, rfl, _⟩ := h; rfl) | (obtain ⟨_, _, _, _, _, _, _, _, _, _, _, _, _, _, rfl, _⟩ := h; rfl) | (obtain ⟨_, _, _, _, _, _, _, _, _, _, _, _, _, _, _, rfl, _⟩ := h; rfl)
theorem cc_machine_of (Z : Fz mg) (D : Dfs K mg) : Cal P w K mg base 1 "machine_of" G_machine_of := cal_machine_of (k := 0) Z D.x_machine_of  len_machine_of d_machine_of
theorem len_cause_of : ∀ ds μ Q, G_cause_of ds μ Q → ds.length = 3 := by
  intro ds μ Q h
  unfold G_cause_of at h
  first | (split at h <;> first | rfl | exact h.elim) | (obtain ⟨rfl, _⟩ := h; rfl) | (obtain ⟨_, rfl, _⟩ := h; rfl) | (obtain ⟨_, _, rfl, _⟩ := h; rfl) | (obtain ⟨_, _, _, rfl, _⟩ := h; rfl) | (obtain ⟨_, _, _, _, rfl, _⟩ := h; rfl) | (obtain ⟨_, _, _, _, _, rfl, _⟩ := h; rfl) | (obtain ⟨_, _, _, _, _, _, rfl, _⟩ := h; rfl) | (obtain ⟨_, _, _, _, _, _, _, rfl, _⟩ := h; rfl) | (obtain ⟨_, _, _, _, _, _, _, _, rfl, _⟩ := h; rfl) | (obtain ⟨_, _, _, _, _, _, _, _, _, rfl, _⟩ := h; rfl) | (obtain ⟨_, _, _, _, _, _, _, _, _, _, rfl, _⟩ := h; rfl) | (obtain ⟨_, _, _, _, _, _, _, _, _, _, _, rfl, _⟩ := h; rfl) | (obtain ⟨_, _, _, _, _, _, _, _, _, _, _, _, rfl, _⟩ := h; rfl) | (obtain ⟨_, _, _, _, _, _, _, _, _, _, _, _, _, rfl, _⟩ := h; rfl) | (obtain ⟨_, _, _, _, _, _, _, _, _, _, _, _, _, _, rfl, _⟩ := h; rfl) | (obtain ⟨_, _, _, _, _, _, _, _, _, _, _, _, _, _, _, rfl, _⟩ := h; rfl)
theorem cc_cause_of (Z : Fz mg) (D : Dfs K mg) : Cal P w K mg base 2 "cause_of" G_cause_of := cal_cause_of (k := 1) Z D.x_cause_of (cc_waits Z D) len_cause_of d_cause_of
theorem len_answered : ∀ ds μ Q, G_answered ds μ Q → ds.length = 3 := by
  intro ds μ Q h
  unfold G_answered at h
  first | (split at h <;> first | rfl | exact h.elim) | (obtain ⟨rfl, _⟩ := h; rfl) | (obtain ⟨_, rfl, _⟩ := h; rfl) | (obtain ⟨_, _, rfl, _⟩ := h; rfl) | (obtain ⟨_, _, _, rfl, _⟩ := h; rfl) | (obtain ⟨_, _, _, _, rfl, _⟩ := h; rfl) | (obtain ⟨_, _, _, _, _, rfl, _⟩ := h; rfl) | (obtain ⟨_, _, _, _, _, _, rfl, _⟩ := h; rfl) | (obtain ⟨_, _, _, _, _, _, _, rfl, _⟩ := h; rfl) | (obtain ⟨_, _, _, _, _, _, _, _, rfl, _⟩ := h; rfl) | (obtain ⟨_, _, _, _, _, _, _, _, _, rfl, _⟩ := h; rfl) | (obtain ⟨_, _, _, _, _, _, _, _, _, _, rfl, _⟩ := h; rfl) | (obtain ⟨_, _, _, _, _, _, _, _, _, _, _, rfl, _⟩ := h; rfl) | (obtain ⟨_, _, _, _, _, _, _, _, _, _, _, _, rfl, _⟩ := h; rfl) | (obtain ⟨_, _, _, _, _, _, _, _, _, _, _, _, _, rfl, _⟩ := h; rfl) | (obtain ⟨_, _, _, _, _, _, _, _, _, _, _, _, _, _, rfl, _⟩ := h; rfl) | (obtain ⟨_, _, _, _, _, _, _, _, _, _, _, _, _, _, _, rfl, _⟩ := h; rfl)
theorem cc_answered (Z : Fz mg) (D : Dfs K mg) : Cal P w K mg base 3 "answered" G_answered := cal_answered (k := 2) Z D.x_answered (cc_cause_of Z D) ((cc_machine_of Z D).mono (by decide)) ((cc_answer Z D).mono (by decide)) len_answered d_answered
theorem len_can : ∀ ds μ Q, G_can ds μ Q → ds.length = 3 := by
  intro ds μ Q h
  unfold G_can at h
  first | (split at h <;> first | rfl | exact h.elim) | (obtain ⟨rfl, _⟩ := h; rfl) | (obtain ⟨_, rfl, _⟩ := h; rfl) | (obtain ⟨_, _, rfl, _⟩ := h; rfl) | (obtain ⟨_, _, _, rfl, _⟩ := h; rfl) | (obtain ⟨_, _, _, _, rfl, _⟩ := h; rfl) | (obtain ⟨_, _, _, _, _, rfl, _⟩ := h; rfl) | (obtain ⟨_, _, _, _, _, _, rfl, _⟩ := h; rfl) | (obtain ⟨_, _, _, _, _, _, _, rfl, _⟩ := h; rfl) | (obtain ⟨_, _, _, _, _, _, _, _, rfl, _⟩ := h; rfl) | (obtain ⟨_, _, _, _, _, _, _, _, _, rfl, _⟩ := h; rfl) | (obtain ⟨_, _, _, _, _, _, _, _, _, _, rfl, _⟩ := h; rfl) | (obtain ⟨_, _, _, _, _, _, _, _, _, _, _, rfl, _⟩ := h; rfl) | (obtain ⟨_, _, _, _, _, _, _, _, _, _, _, _, rfl, _⟩ := h; rfl) | (obtain ⟨_, _, _, _, _, _, _, _, _, _, _, _, _, rfl, _⟩ := h; rfl) | (obtain ⟨_, _, _, _, _, _, _, _, _, _, _, _, _, _, rfl, _⟩ := h; rfl) | (obtain ⟨_, _, _, _, _, _, _, _, _, _, _, _, _, _, _, rfl, _⟩ := h; rfl)
theorem cc_can (Z : Fz mg) (D : Dfs K mg) : Cal P w K mg base 4 "can" G_can := cal_can (k := 3) Z D.x_can (cc_is_plain Z D) (cc_answered Z D) len_can d_can
theorem len_taken_out : ∀ ds μ Q, G_taken_out ds μ Q → ds.length = 3 := by
  intro ds μ Q h
  unfold G_taken_out at h
  first | (split at h <;> first | rfl | exact h.elim) | (obtain ⟨rfl, _⟩ := h; rfl) | (obtain ⟨_, rfl, _⟩ := h; rfl) | (obtain ⟨_, _, rfl, _⟩ := h; rfl) | (obtain ⟨_, _, _, rfl, _⟩ := h; rfl) | (obtain ⟨_, _, _, _, rfl, _⟩ := h; rfl) | (obtain ⟨_, _, _, _, _, rfl, _⟩ := h; rfl) | (obtain ⟨_, _, _, _, _, _, rfl, _⟩ := h; rfl) | (obtain ⟨_, _, _, _, _, _, _, rfl, _⟩ := h; rfl) | (obtain ⟨_, _, _, _, _, _, _, _, rfl, _⟩ := h; rfl) | (obtain ⟨_, _, _, _, _, _, _, _, _, rfl, _⟩ := h; rfl) | (obtain ⟨_, _, _, _, _, _, _, _, _, _, rfl, _⟩ := h; rfl) | (obtain ⟨_, _, _, _, _, _, _, _, _, _, _, rfl, _⟩ := h; rfl) | (obtain ⟨_, _, _, _, _, _, _, _, _, _, _, _, rfl, _⟩ := h; rfl) | (obtain ⟨_, _, _, _, _, _, _, _, _, _, _, _, _, rfl, _⟩ := h; rfl) | (obtain ⟨_, _, _, _, _, _, _, _, _, _, _, _, _, _, rfl, _⟩ := h; rfl) | (obtain ⟨_, _, _, _, _, _, _, _, _, _, _, _, _, _, _, rfl, _⟩ := h; rfl)
theorem cc_taken_out (Z : Fz mg) (D : Dfs K mg) : Cal P w K mg base 1 "taken_out" G_taken_out := cal_taken_out (k := 0) Z D.x_taken_out  len_taken_out d_taken_out
theorem len_sent_out : ∀ ds μ Q, G_sent_out ds μ Q → ds.length = 2 := by
  intro ds μ Q h
  unfold G_sent_out at h
  first | (split at h <;> first | rfl | exact h.elim) | (obtain ⟨rfl, _⟩ := h; rfl) | (obtain ⟨_, rfl, _⟩ := h; rfl) | (obtain ⟨_, _, rfl, _⟩ := h; rfl) | (obtain ⟨_, _, _, rfl, _⟩ := h; rfl) | (obtain ⟨_, _, _, _, rfl, _⟩ := h; rfl) | (obtain ⟨_, _, _, _, _, rfl, _⟩ := h; rfl) | (obtain ⟨_, _, _, _, _, _, rfl, _⟩ := h; rfl) | (obtain ⟨_, _, _, _, _, _, _, rfl, _⟩ := h; rfl) | (obtain ⟨_, _, _, _, _, _, _, _, rfl, _⟩ := h; rfl) | (obtain ⟨_, _, _, _, _, _, _, _, _, rfl, _⟩ := h; rfl) | (obtain ⟨_, _, _, _, _, _, _, _, _, _, rfl, _⟩ := h; rfl) | (obtain ⟨_, _, _, _, _, _, _, _, _, _, _, rfl, _⟩ := h; rfl) | (obtain ⟨_, _, _, _, _, _, _, _, _, _, _, _, rfl, _⟩ := h; rfl) | (obtain ⟨_, _, _, _, _, _, _, _, _, _, _, _, _, rfl, _⟩ := h; rfl) | (obtain ⟨_, _, _, _, _, _, _, _, _, _, _, _, _, _, rfl, _⟩ := h; rfl) | (obtain ⟨_, _, _, _, _, _, _, _, _, _, _, _, _, _, _, rfl, _⟩ := h; rfl)
theorem cc_sent_out (Z : Fz mg) (D : Dfs K mg) : Cal P w K mg base 1 "sent_out" G_sent_out := cal_sent_out (k := 0) Z D.x_sent_out  len_sent_out d_sent_out
theorem len_done : ∀ ds μ Q, G_done ds μ Q → ds.length = 3 := by
  intro ds μ Q h
  unfold G_done at h
  first | (split at h <;> first | rfl | exact h.elim) | (obtain ⟨rfl, _⟩ := h; rfl) | (obtain ⟨_, rfl, _⟩ := h; rfl) | (obtain ⟨_, _, rfl, _⟩ := h; rfl) | (obtain ⟨_, _, _, rfl, _⟩ := h; rfl) | (obtain ⟨_, _, _, _, rfl, _⟩ := h; rfl) | (obtain ⟨_, _, _, _, _, rfl, _⟩ := h; rfl) | (obtain ⟨_, _, _, _, _, _, rfl, _⟩ := h; rfl) | (obtain ⟨_, _, _, _, _, _, _, rfl, _⟩ := h; rfl) | (obtain ⟨_, _, _, _, _, _, _, _, rfl, _⟩ := h; rfl) | (obtain ⟨_, _, _, _, _, _, _, _, _, rfl, _⟩ := h; rfl) | (obtain ⟨_, _, _, _, _, _, _, _, _, _, rfl, _⟩ := h; rfl) | (obtain ⟨_, _, _, _, _, _, _, _, _, _, _, rfl, _⟩ := h; rfl) | (obtain ⟨_, _, _, _, _, _, _, _, _, _, _, _, rfl, _⟩ := h; rfl) | (obtain ⟨_, _, _, _, _, _, _, _, _, _, _, _, _, rfl, _⟩ := h; rfl) | (obtain ⟨_, _, _, _, _, _, _, _, _, _, _, _, _, _, rfl, _⟩ := h; rfl) | (obtain ⟨_, _, _, _, _, _, _, _, _, _, _, _, _, _, _, rfl, _⟩ := h; rfl)
theorem cc_done (Z : Fz mg) (D : Dfs K mg) : Cal P w K mg base 5 "done" G_done := cal_done (k := 4) Z D.x_done (cc_can Z D) ((cc_answered Z D).mono (by decide)) ((cc_machine_of Z D).mono (by decide)) ((cc_taken_out Z D).mono (by decide)) ((cc_sent_out Z D).mono (by decide)) len_done d_done
theorem len_run : ∀ ds μ Q, G_run ds μ Q → ds.length = 3 := by
  intro ds μ Q h
  unfold G_run at h
  first | (split at h <;> first | rfl | exact h.elim) | (obtain ⟨rfl, _⟩ := h; rfl) | (obtain ⟨_, rfl, _⟩ := h; rfl) | (obtain ⟨_, _, rfl, _⟩ := h; rfl) | (obtain ⟨_, _, _, rfl, _⟩ := h; rfl) | (obtain ⟨_, _, _, _, rfl, _⟩ := h; rfl) | (obtain ⟨_, _, _, _, _, rfl, _⟩ := h; rfl) | (obtain ⟨_, _, _, _, _, _, rfl, _⟩ := h; rfl) | (obtain ⟨_, _, _, _, _, _, _, rfl, _⟩ := h; rfl) | (obtain ⟨_, _, _, _, _, _, _, _, rfl, _⟩ := h; rfl) | (obtain ⟨_, _, _, _, _, _, _, _, _, rfl, _⟩ := h; rfl) | (obtain ⟨_, _, _, _, _, _, _, _, _, _, rfl, _⟩ := h; rfl) | (obtain ⟨_, _, _, _, _, _, _, _, _, _, _, rfl, _⟩ := h; rfl) | (obtain ⟨_, _, _, _, _, _, _, _, _, _, _, _, rfl, _⟩ := h; rfl) | (obtain ⟨_, _, _, _, _, _, _, _, _, _, _, _, _, rfl, _⟩ := h; rfl) | (obtain ⟨_, _, _, _, _, _, _, _, _, _, _, _, _, _, rfl, _⟩ := h; rfl) | (obtain ⟨_, _, _, _, _, _, _, _, _, _, _, _, _, _, _, rfl, _⟩ := h; rfl)
theorem cc_run (Z : Fz mg) (D : Dfs K mg) : Cal P w K mg base 6 "run" G_run := cal_run (k := 5) Z D.x_run ((cc_can Z D).mono (by decide)) (cc_done Z D) len_run d_run
theorem len_events_of : ∀ ds μ Q, G_events_of ds μ Q → ds.length = 2 := by
  intro ds μ Q h
  unfold G_events_of at h
  first | (split at h <;> first | rfl | exact h.elim) | (obtain ⟨rfl, _⟩ := h; rfl) | (obtain ⟨_, rfl, _⟩ := h; rfl) | (obtain ⟨_, _, rfl, _⟩ := h; rfl) | (obtain ⟨_, _, _, rfl, _⟩ := h; rfl) | (obtain ⟨_, _, _, _, rfl, _⟩ := h; rfl) | (obtain ⟨_, _, _, _, _, rfl, _⟩ := h; rfl) | (obtain ⟨_, _, _, _, _, _, rfl, _⟩ := h; rfl) | (obtain ⟨_, _, _, _, _, _, _, rfl, _⟩ := h; rfl) | (obtain ⟨_, _, _, _, _, _, _, _, rfl, _⟩ := h; rfl) | (obtain ⟨_, _, _, _, _, _, _, _, _, rfl, _⟩ := h; rfl) | (obtain ⟨_, _, _, _, _, _, _, _, _, _, rfl, _⟩ := h; rfl) | (obtain ⟨_, _, _, _, _, _, _, _, _, _, _, rfl, _⟩ := h; rfl) | (obtain ⟨_, _, _, _, _, _, _, _, _, _, _, _, rfl, _⟩ := h; rfl) | (obtain ⟨_, _, _, _, _, _, _, _, _, _, _, _, _, rfl, _⟩ := h; rfl) | (obtain ⟨_, _, _, _, _, _, _, _, _, _, _, _, _, _, rfl, _⟩ := h; rfl) | (obtain ⟨_, _, _, _, _, _, _, _, _, _, _, _, _, _, _, rfl, _⟩ := h; rfl)
theorem cc_events_of (Z : Fz mg) (D : Dfs K mg) : Cal P w K mg base 2 "events_of" G_events_of := cal_events_of (k := 1) Z D.x_events_of (cc_machine_of Z D) len_events_of d_events_of
theorem len_letters_of : ∀ ds μ Q, G_letters_of ds μ Q → ds.length = 3 := by
  intro ds μ Q h
  unfold G_letters_of at h
  first | (split at h <;> first | rfl | exact h.elim) | (obtain ⟨rfl, _⟩ := h; rfl) | (obtain ⟨_, rfl, _⟩ := h; rfl) | (obtain ⟨_, _, rfl, _⟩ := h; rfl) | (obtain ⟨_, _, _, rfl, _⟩ := h; rfl) | (obtain ⟨_, _, _, _, rfl, _⟩ := h; rfl) | (obtain ⟨_, _, _, _, _, rfl, _⟩ := h; rfl) | (obtain ⟨_, _, _, _, _, _, rfl, _⟩ := h; rfl) | (obtain ⟨_, _, _, _, _, _, _, rfl, _⟩ := h; rfl) | (obtain ⟨_, _, _, _, _, _, _, _, rfl, _⟩ := h; rfl) | (obtain ⟨_, _, _, _, _, _, _, _, _, rfl, _⟩ := h; rfl) | (obtain ⟨_, _, _, _, _, _, _, _, _, _, rfl, _⟩ := h; rfl) | (obtain ⟨_, _, _, _, _, _, _, _, _, _, _, rfl, _⟩ := h; rfl) | (obtain ⟨_, _, _, _, _, _, _, _, _, _, _, _, rfl, _⟩ := h; rfl) | (obtain ⟨_, _, _, _, _, _, _, _, _, _, _, _, _, rfl, _⟩ := h; rfl) | (obtain ⟨_, _, _, _, _, _, _, _, _, _, _, _, _, _, rfl, _⟩ := h; rfl) | (obtain ⟨_, _, _, _, _, _, _, _, _, _, _, _, _, _, _, rfl, _⟩ := h; rfl)
theorem cc_letters_of (Z : Fz mg) (D : Dfs K mg) : Cal P w K mg base 7 "letters_of" G_letters_of := cal_letters_of (k := 6) Z D.x_letters_of (cc_run Z D) ((cc_waits Z D).mono (by decide)) ((cc_done Z D).mono (by decide)) len_letters_of d_letters_of
theorem len_event_number : ∀ ds μ Q, G_event_number ds μ Q → ds.length = 2 := by
  intro ds μ Q h
  unfold G_event_number at h
  first | (split at h <;> first | rfl | exact h.elim) | (obtain ⟨rfl, _⟩ := h; rfl) | (obtain ⟨_, rfl, _⟩ := h; rfl) | (obtain ⟨_, _, rfl, _⟩ := h; rfl) | (obtain ⟨_, _, _, rfl, _⟩ := h; rfl) | (obtain ⟨_, _, _, _, rfl, _⟩ := h; rfl) | (obtain ⟨_, _, _, _, _, rfl, _⟩ := h; rfl) | (obtain ⟨_, _, _, _, _, _, rfl, _⟩ := h; rfl) | (obtain ⟨_, _, _, _, _, _, _, rfl, _⟩ := h; rfl) | (obtain ⟨_, _, _, _, _, _, _, _, rfl, _⟩ := h; rfl) | (obtain ⟨_, _, _, _, _, _, _, _, _, rfl, _⟩ := h; rfl) | (obtain ⟨_, _, _, _, _, _, _, _, _, _, rfl, _⟩ := h; rfl) | (obtain ⟨_, _, _, _, _, _, _, _, _, _, _, rfl, _⟩ := h; rfl) | (obtain ⟨_, _, _, _, _, _, _, _, _, _, _, _, rfl, _⟩ := h; rfl) | (obtain ⟨_, _, _, _, _, _, _, _, _, _, _, _, _, rfl, _⟩ := h; rfl) | (obtain ⟨_, _, _, _, _, _, _, _, _, _, _, _, _, _, rfl, _⟩ := h; rfl) | (obtain ⟨_, _, _, _, _, _, _, _, _, _, _, _, _, _, _, rfl, _⟩ := h; rfl)
theorem cc_event_number (Z : Fz mg) (D : Dfs K mg) : Cal P w K mg base 1 "event_number" G_event_number := cal_event_number (k := 0) Z D.x_event_number  len_event_number d_event_number
theorem len_trips : ∀ ds μ Q, G_trips ds μ Q → ds.length = 3 := by
  intro ds μ Q h
  unfold G_trips at h
  first | (split at h <;> first | rfl | exact h.elim) | (obtain ⟨rfl, _⟩ := h; rfl) | (obtain ⟨_, rfl, _⟩ := h; rfl) | (obtain ⟨_, _, rfl, _⟩ := h; rfl) | (obtain ⟨_, _, _, rfl, _⟩ := h; rfl) | (obtain ⟨_, _, _, _, rfl, _⟩ := h; rfl) | (obtain ⟨_, _, _, _, _, rfl, _⟩ := h; rfl) | (obtain ⟨_, _, _, _, _, _, rfl, _⟩ := h; rfl) | (obtain ⟨_, _, _, _, _, _, _, rfl, _⟩ := h; rfl) | (obtain ⟨_, _, _, _, _, _, _, _, rfl, _⟩ := h; rfl) | (obtain ⟨_, _, _, _, _, _, _, _, _, rfl, _⟩ := h; rfl) | (obtain ⟨_, _, _, _, _, _, _, _, _, _, rfl, _⟩ := h; rfl) | (obtain ⟨_, _, _, _, _, _, _, _, _, _, _, rfl, _⟩ := h; rfl) | (obtain ⟨_, _, _, _, _, _, _, _, _, _, _, _, rfl, _⟩ := h; rfl) | (obtain ⟨_, _, _, _, _, _, _, _, _, _, _, _, _, rfl, _⟩ := h; rfl) | (obtain ⟨_, _, _, _, _, _, _, _, _, _, _, _, _, _, rfl, _⟩ := h; rfl) | (obtain ⟨_, _, _, _, _, _, _, _, _, _, _, _, _, _, _, rfl, _⟩ := h; rfl)
theorem cc_trips (Z : Fz mg) (D : Dfs K mg) : Cal P w K mg base 8 "trips" G_trips := cal_trips (k := 7) Z D.x_trips ((cc_events_of Z D).mono (by decide)) (cc_letters_of Z D) ((cc_event_number Z D).mono (by decide)) len_trips d_trips
theorem len_was_sent : ∀ ds μ Q, G_was_sent ds μ Q → ds.length = 2 := by
  intro ds μ Q h
  unfold G_was_sent at h
  first | (split at h <;> first | rfl | exact h.elim) | (obtain ⟨rfl, _⟩ := h; rfl) | (obtain ⟨_, rfl, _⟩ := h; rfl) | (obtain ⟨_, _, rfl, _⟩ := h; rfl) | (obtain ⟨_, _, _, rfl, _⟩ := h; rfl) | (obtain ⟨_, _, _, _, rfl, _⟩ := h; rfl) | (obtain ⟨_, _, _, _, _, rfl, _⟩ := h; rfl) | (obtain ⟨_, _, _, _, _, _, rfl, _⟩ := h; rfl) | (obtain ⟨_, _, _, _, _, _, _, rfl, _⟩ := h; rfl) | (obtain ⟨_, _, _, _, _, _, _, _, rfl, _⟩ := h; rfl) | (obtain ⟨_, _, _, _, _, _, _, _, _, rfl, _⟩ := h; rfl) | (obtain ⟨_, _, _, _, _, _, _, _, _, _, rfl, _⟩ := h; rfl) | (obtain ⟨_, _, _, _, _, _, _, _, _, _, _, rfl, _⟩ := h; rfl) | (obtain ⟨_, _, _, _, _, _, _, _, _, _, _, _, rfl, _⟩ := h; rfl) | (obtain ⟨_, _, _, _, _, _, _, _, _, _, _, _, _, rfl, _⟩ := h; rfl) | (obtain ⟨_, _, _, _, _, _, _, _, _, _, _, _, _, _, rfl, _⟩ := h; rfl) | (obtain ⟨_, _, _, _, _, _, _, _, _, _, _, _, _, _, _, rfl, _⟩ := h; rfl)
theorem cc_was_sent (Z : Fz mg) (D : Dfs K mg) : Cal P w K mg base 1 "was_sent" G_was_sent := cal_was_sent (k := 0) Z D.x_was_sent  len_was_sent d_was_sent
theorem len_has_come : ∀ ds μ Q, G_has_come ds μ Q → ds.length = 2 := by
  intro ds μ Q h
  unfold G_has_come at h
  first | (split at h <;> first | rfl | exact h.elim) | (obtain ⟨rfl, _⟩ := h; rfl) | (obtain ⟨_, rfl, _⟩ := h; rfl) | (obtain ⟨_, _, rfl, _⟩ := h; rfl) | (obtain ⟨_, _, _, rfl, _⟩ := h; rfl) | (obtain ⟨_, _, _, _, rfl, _⟩ := h; rfl) | (obtain ⟨_, _, _, _, _, rfl, _⟩ := h; rfl) | (obtain ⟨_, _, _, _, _, _, rfl, _⟩ := h; rfl) | (obtain ⟨_, _, _, _, _, _, _, rfl, _⟩ := h; rfl) | (obtain ⟨_, _, _, _, _, _, _, _, rfl, _⟩ := h; rfl) | (obtain ⟨_, _, _, _, _, _, _, _, _, rfl, _⟩ := h; rfl) | (obtain ⟨_, _, _, _, _, _, _, _, _, _, rfl, _⟩ := h; rfl) | (obtain ⟨_, _, _, _, _, _, _, _, _, _, _, rfl, _⟩ := h; rfl) | (obtain ⟨_, _, _, _, _, _, _, _, _, _, _, _, rfl, _⟩ := h; rfl) | (obtain ⟨_, _, _, _, _, _, _, _, _, _, _, _, _, rfl, _⟩ := h; rfl) | (obtain ⟨_, _, _, _, _, _, _, _, _, _, _, _, _, _, rfl, _⟩ := h; rfl) | (obtain ⟨_, _, _, _, _, _, _, _, _, _, _, _, _, _, _, rfl, _⟩ := h; rfl)
theorem cc_has_come (Z : Fz mg) (D : Dfs K mg) : Cal P w K mg base 1 "has_come" G_has_come := cal_has_come (k := 0) Z D.x_has_come  len_has_come d_has_come
theorem len_is_whole_trip : ∀ ds μ Q, G_is_whole_trip ds μ Q → ds.length = 1 := by
  intro ds μ Q h
  unfold G_is_whole_trip at h
  first | (split at h <;> first | rfl | exact h.elim) | (obtain ⟨rfl, _⟩ := h; rfl) | (obtain ⟨_, rfl, _⟩ := h; rfl) | (obtain ⟨_, _, rfl, _⟩ := h; rfl) | (obtain ⟨_, _, _, rfl, _⟩ := h; rfl) | (obtain ⟨_, _, _, _, rfl, _⟩ := h; rfl) | (obtain ⟨_, _, _, _, _, rfl, _⟩ := h; rfl) | (obtain ⟨_, _, _, _, _, _, rfl, _⟩ := h; rfl) | (obtain ⟨_, _, _, _, _, _, _, rfl, _⟩ := h; rfl) | (obtain ⟨_, _, _, _, _, _, _, _, rfl, _⟩ := h; rfl) | (obtain ⟨_, _, _, _, _, _, _, _, _, rfl, _⟩ := h; rfl) | (obtain ⟨_, _, _, _, _, _, _, _, _, _, rfl, _⟩ := h; rfl) | (obtain ⟨_, _, _, _, _, _, _, _, _, _, _, rfl, _⟩ := h; rfl) | (obtain ⟨_, _, _, _, _, _, _, _, _, _, _, _, rfl, _⟩ := h; rfl) | (obtain ⟨_, _, _, _, _, _, _, _, _, _, _, _, _, rfl, _⟩ := h; rfl) | (obtain ⟨_, _, _, _, _, _, _, _, _, _, _, _, _, _, rfl, _⟩ := h; rfl) | (obtain ⟨_, _, _, _, _, _, _, _, _, _, _, _, _, _, _, rfl, _⟩ := h; rfl)
theorem cc_is_whole_trip (Z : Fz mg) (D : Dfs K mg) : Cal P w K mg base 1 "is_whole_trip" G_is_whole_trip := cal_is_whole_trip (k := 0) Z D.x_is_whole_trip  len_is_whole_trip d_is_whole_trip
theorem len_is_number : ∀ ds μ Q, G_is_number ds μ Q → ds.length = 1 := by
  intro ds μ Q h
  unfold G_is_number at h
  first | (split at h <;> first | rfl | exact h.elim) | (obtain ⟨rfl, _⟩ := h; rfl) | (obtain ⟨_, rfl, _⟩ := h; rfl) | (obtain ⟨_, _, rfl, _⟩ := h; rfl) | (obtain ⟨_, _, _, rfl, _⟩ := h; rfl) | (obtain ⟨_, _, _, _, rfl, _⟩ := h; rfl) | (obtain ⟨_, _, _, _, _, rfl, _⟩ := h; rfl) | (obtain ⟨_, _, _, _, _, _, rfl, _⟩ := h; rfl) | (obtain ⟨_, _, _, _, _, _, _, rfl, _⟩ := h; rfl) | (obtain ⟨_, _, _, _, _, _, _, _, rfl, _⟩ := h; rfl) | (obtain ⟨_, _, _, _, _, _, _, _, _, rfl, _⟩ := h; rfl) | (obtain ⟨_, _, _, _, _, _, _, _, _, _, rfl, _⟩ := h; rfl) | (obtain ⟨_, _, _, _, _, _, _, _, _, _, _, rfl, _⟩ := h; rfl) | (obtain ⟨_, _, _, _, _, _, _, _, _, _, _, _, rfl, _⟩ := h; rfl) | (obtain ⟨_, _, _, _, _, _, _, _, _, _, _, _, _, rfl, _⟩ := h; rfl) | (obtain ⟨_, _, _, _, _, _, _, _, _, _, _, _, _, _, rfl, _⟩ := h; rfl) | (obtain ⟨_, _, _, _, _, _, _, _, _, _, _, _, _, _, _, rfl, _⟩ := h; rfl)
theorem cc_is_number (Z : Fz mg) (D : Dfs K mg) : Cal P w K mg base 1 "is_number" G_is_number := cal_is_number (k := 0) Z D.x_is_number  len_is_number d_is_number
theorem len_is_letters : ∀ ds μ Q, G_is_letters ds μ Q → ds.length = 1 := by
  intro ds μ Q h
  unfold G_is_letters at h
  first | (split at h <;> first | rfl | exact h.elim) | (obtain ⟨rfl, _⟩ := h; rfl) | (obtain ⟨_, rfl, _⟩ := h; rfl) | (obtain ⟨_, _, rfl, _⟩ := h; rfl) | (obtain ⟨_, _, _, rfl, _⟩ := h; rfl) | (obtain ⟨_, _, _, _, rfl, _⟩ := h; rfl) | (obtain ⟨_, _, _, _, _, rfl, _⟩ := h; rfl) | (obtain ⟨_, _, _, _, _, _, rfl, _⟩ := h; rfl) | (obtain ⟨_, _, _, _, _, _, _, rfl, _⟩ := h; rfl) | (obtain ⟨_, _, _, _, _, _, _, _, rfl, _⟩ := h; rfl) | (obtain ⟨_, _, _, _, _, _, _, _, _, rfl, _⟩ := h; rfl) | (obtain ⟨_, _, _, _, _, _, _, _, _, _, rfl, _⟩ := h; rfl) | (obtain ⟨_, _, _, _, _, _, _, _, _, _, _, rfl, _⟩ := h; rfl) | (obtain ⟨_, _, _, _, _, _, _, _, _, _, _, _, rfl, _⟩ := h; rfl) | (obtain ⟨_, _, _, _, _, _, _, _, _, _, _, _, _, rfl, _⟩ := h; rfl) | (obtain ⟨_, _, _, _, _, _, _, _, _, _, _, _, _, _, rfl, _⟩ := h; rfl) | (obtain ⟨_, _, _, _, _, _, _, _, _, _, _, _, _, _, _, rfl, _⟩ := h; rfl)
theorem cc_is_letters (Z : Fz mg) (D : Dfs K mg) : Cal P w K mg base 2 "is_letters" G_is_letters := cal_is_letters (k := 1) Z D.x_is_letters (cc_is_number Z D) len_is_letters d_is_letters
theorem len_crossing : ∀ ds μ Q, G_crossing ds μ Q → ds.length = 2 := by
  intro ds μ Q h
  unfold G_crossing at h
  first | (split at h <;> first | rfl | exact h.elim) | (obtain ⟨rfl, _⟩ := h; rfl) | (obtain ⟨_, rfl, _⟩ := h; rfl) | (obtain ⟨_, _, rfl, _⟩ := h; rfl) | (obtain ⟨_, _, _, rfl, _⟩ := h; rfl) | (obtain ⟨_, _, _, _, rfl, _⟩ := h; rfl) | (obtain ⟨_, _, _, _, _, rfl, _⟩ := h; rfl) | (obtain ⟨_, _, _, _, _, _, rfl, _⟩ := h; rfl) | (obtain ⟨_, _, _, _, _, _, _, rfl, _⟩ := h; rfl) | (obtain ⟨_, _, _, _, _, _, _, _, rfl, _⟩ := h; rfl) | (obtain ⟨_, _, _, _, _, _, _, _, _, rfl, _⟩ := h; rfl) | (obtain ⟨_, _, _, _, _, _, _, _, _, _, rfl, _⟩ := h; rfl) | (obtain ⟨_, _, _, _, _, _, _, _, _, _, _, rfl, _⟩ := h; rfl) | (obtain ⟨_, _, _, _, _, _, _, _, _, _, _, _, rfl, _⟩ := h; rfl) | (obtain ⟨_, _, _, _, _, _, _, _, _, _, _, _, _, rfl, _⟩ := h; rfl) | (obtain ⟨_, _, _, _, _, _, _, _, _, _, _, _, _, _, rfl, _⟩ := h; rfl) | (obtain ⟨_, _, _, _, _, _, _, _, _, _, _, _, _, _, _, rfl, _⟩ := h; rfl)
theorem cc_crossing (Z : Fz mg) (D : Dfs K mg) : Cal P w K mg base 2 "crossing" G_crossing := cal_crossing (k := 1) Z D.x_crossing (cc_has_come Z D) (cc_was_sent Z D) len_crossing d_crossing
theorem len_lowered : ∀ ds μ Q, G_lowered ds μ Q → ds.length = 2 := by
  intro ds μ Q h
  unfold G_lowered at h
  first | (split at h <;> first | rfl | exact h.elim) | (obtain ⟨rfl, _⟩ := h; rfl) | (obtain ⟨_, rfl, _⟩ := h; rfl) | (obtain ⟨_, _, rfl, _⟩ := h; rfl) | (obtain ⟨_, _, _, rfl, _⟩ := h; rfl) | (obtain ⟨_, _, _, _, rfl, _⟩ := h; rfl) | (obtain ⟨_, _, _, _, _, rfl, _⟩ := h; rfl) | (obtain ⟨_, _, _, _, _, _, rfl, _⟩ := h; rfl) | (obtain ⟨_, _, _, _, _, _, _, rfl, _⟩ := h; rfl) | (obtain ⟨_, _, _, _, _, _, _, _, rfl, _⟩ := h; rfl) | (obtain ⟨_, _, _, _, _, _, _, _, _, rfl, _⟩ := h; rfl) | (obtain ⟨_, _, _, _, _, _, _, _, _, _, rfl, _⟩ := h; rfl) | (obtain ⟨_, _, _, _, _, _, _, _, _, _, _, rfl, _⟩ := h; rfl) | (obtain ⟨_, _, _, _, _, _, _, _, _, _, _, _, rfl, _⟩ := h; rfl) | (obtain ⟨_, _, _, _, _, _, _, _, _, _, _, _, _, rfl, _⟩ := h; rfl) | (obtain ⟨_, _, _, _, _, _, _, _, _, _, _, _, _, _, rfl, _⟩ := h; rfl) | (obtain ⟨_, _, _, _, _, _, _, _, _, _, _, _, _, _, _, rfl, _⟩ := h; rfl)
theorem cc_lowered (Z : Fz mg) (D : Dfs K mg) : Cal P w K mg base 3 "lowered" G_lowered := cal_lowered (k := 2) Z D.x_lowered (cc_crossing Z D) ((cc_floor_of Z D).mono (by decide)) len_lowered d_lowered
theorem len_latest : ∀ ds μ Q, G_latest ds μ Q → ds.length = 4 := by
  intro ds μ Q h
  unfold G_latest at h
  first | (split at h <;> first | rfl | exact h.elim) | (obtain ⟨rfl, _⟩ := h; rfl) | (obtain ⟨_, rfl, _⟩ := h; rfl) | (obtain ⟨_, _, rfl, _⟩ := h; rfl) | (obtain ⟨_, _, _, rfl, _⟩ := h; rfl) | (obtain ⟨_, _, _, _, rfl, _⟩ := h; rfl) | (obtain ⟨_, _, _, _, _, rfl, _⟩ := h; rfl) | (obtain ⟨_, _, _, _, _, _, rfl, _⟩ := h; rfl) | (obtain ⟨_, _, _, _, _, _, _, rfl, _⟩ := h; rfl) | (obtain ⟨_, _, _, _, _, _, _, _, rfl, _⟩ := h; rfl) | (obtain ⟨_, _, _, _, _, _, _, _, _, rfl, _⟩ := h; rfl) | (obtain ⟨_, _, _, _, _, _, _, _, _, _, rfl, _⟩ := h; rfl) | (obtain ⟨_, _, _, _, _, _, _, _, _, _, _, rfl, _⟩ := h; rfl) | (obtain ⟨_, _, _, _, _, _, _, _, _, _, _, _, rfl, _⟩ := h; rfl) | (obtain ⟨_, _, _, _, _, _, _, _, _, _, _, _, _, rfl, _⟩ := h; rfl) | (obtain ⟨_, _, _, _, _, _, _, _, _, _, _, _, _, _, rfl, _⟩ := h; rfl) | (obtain ⟨_, _, _, _, _, _, _, _, _, _, _, _, _, _, _, rfl, _⟩ := h; rfl)
theorem cc_latest (Z : Fz mg) (D : Dfs K mg) : Cal P w K mg base 9 "latest" G_latest := cal_latest (k := 8) Z D.x_latest ((cc_lowered Z D).mono (by decide)) (cc_trips Z D) len_latest d_latest
theorem len_wrong_place : ∀ ds μ Q, G_wrong_place ds μ Q → ds.length = 3 := by
  intro ds μ Q h
  unfold G_wrong_place at h
  first | (split at h <;> first | rfl | exact h.elim) | (obtain ⟨rfl, _⟩ := h; rfl) | (obtain ⟨_, rfl, _⟩ := h; rfl) | (obtain ⟨_, _, rfl, _⟩ := h; rfl) | (obtain ⟨_, _, _, rfl, _⟩ := h; rfl) | (obtain ⟨_, _, _, _, rfl, _⟩ := h; rfl) | (obtain ⟨_, _, _, _, _, rfl, _⟩ := h; rfl) | (obtain ⟨_, _, _, _, _, _, rfl, _⟩ := h; rfl) | (obtain ⟨_, _, _, _, _, _, _, rfl, _⟩ := h; rfl) | (obtain ⟨_, _, _, _, _, _, _, _, rfl, _⟩ := h; rfl) | (obtain ⟨_, _, _, _, _, _, _, _, _, rfl, _⟩ := h; rfl) | (obtain ⟨_, _, _, _, _, _, _, _, _, _, rfl, _⟩ := h; rfl) | (obtain ⟨_, _, _, _, _, _, _, _, _, _, _, rfl, _⟩ := h; rfl) | (obtain ⟨_, _, _, _, _, _, _, _, _, _, _, _, rfl, _⟩ := h; rfl) | (obtain ⟨_, _, _, _, _, _, _, _, _, _, _, _, _, rfl, _⟩ := h; rfl) | (obtain ⟨_, _, _, _, _, _, _, _, _, _, _, _, _, _, rfl, _⟩ := h; rfl) | (obtain ⟨_, _, _, _, _, _, _, _, _, _, _, _, _, _, _, rfl, _⟩ := h; rfl)
theorem cc_wrong_place (Z : Fz mg) (D : Dfs K mg) : Cal P w K mg base 2 "wrong_place" G_wrong_place := cal_wrong_place (k := 1) Z D.x_wrong_place (cc_is_whole_trip Z D) (cc_floor_of Z D) len_wrong_place d_wrong_place
theorem len_ends_at : ∀ ds μ Q, G_ends_at ds μ Q → ds.length = 4 := by
  intro ds μ Q h
  unfold G_ends_at at h
  first | (split at h <;> first | rfl | exact h.elim) | (obtain ⟨rfl, _⟩ := h; rfl) | (obtain ⟨_, rfl, _⟩ := h; rfl) | (obtain ⟨_, _, rfl, _⟩ := h; rfl) | (obtain ⟨_, _, _, rfl, _⟩ := h; rfl) | (obtain ⟨_, _, _, _, rfl, _⟩ := h; rfl) | (obtain ⟨_, _, _, _, _, rfl, _⟩ := h; rfl) | (obtain ⟨_, _, _, _, _, _, rfl, _⟩ := h; rfl) | (obtain ⟨_, _, _, _, _, _, _, rfl, _⟩ := h; rfl) | (obtain ⟨_, _, _, _, _, _, _, _, rfl, _⟩ := h; rfl) | (obtain ⟨_, _, _, _, _, _, _, _, _, rfl, _⟩ := h; rfl) | (obtain ⟨_, _, _, _, _, _, _, _, _, _, rfl, _⟩ := h; rfl) | (obtain ⟨_, _, _, _, _, _, _, _, _, _, _, rfl, _⟩ := h; rfl) | (obtain ⟨_, _, _, _, _, _, _, _, _, _, _, _, rfl, _⟩ := h; rfl) | (obtain ⟨_, _, _, _, _, _, _, _, _, _, _, _, _, rfl, _⟩ := h; rfl) | (obtain ⟨_, _, _, _, _, _, _, _, _, _, _, _, _, _, rfl, _⟩ := h; rfl) | (obtain ⟨_, _, _, _, _, _, _, _, _, _, _, _, _, _, _, rfl, _⟩ := h; rfl)
theorem cc_ends_at (Z : Fz mg) (D : Dfs K mg) : Cal P w K mg base 1 "ends_at" G_ends_at := cal_ends_at (k := 0) Z D.x_ends_at  len_ends_at d_ends_at
theorem len_ask_line : ∀ ds μ Q, G_ask_line ds μ Q → ds.length = 2 := by
  intro ds μ Q h
  unfold G_ask_line at h
  first | (split at h <;> first | rfl | exact h.elim) | (obtain ⟨rfl, _⟩ := h; rfl) | (obtain ⟨_, rfl, _⟩ := h; rfl) | (obtain ⟨_, _, rfl, _⟩ := h; rfl) | (obtain ⟨_, _, _, rfl, _⟩ := h; rfl) | (obtain ⟨_, _, _, _, rfl, _⟩ := h; rfl) | (obtain ⟨_, _, _, _, _, rfl, _⟩ := h; rfl) | (obtain ⟨_, _, _, _, _, _, rfl, _⟩ := h; rfl) | (obtain ⟨_, _, _, _, _, _, _, rfl, _⟩ := h; rfl) | (obtain ⟨_, _, _, _, _, _, _, _, rfl, _⟩ := h; rfl) | (obtain ⟨_, _, _, _, _, _, _, _, _, rfl, _⟩ := h; rfl) | (obtain ⟨_, _, _, _, _, _, _, _, _, _, rfl, _⟩ := h; rfl) | (obtain ⟨_, _, _, _, _, _, _, _, _, _, _, rfl, _⟩ := h; rfl) | (obtain ⟨_, _, _, _, _, _, _, _, _, _, _, _, rfl, _⟩ := h; rfl) | (obtain ⟨_, _, _, _, _, _, _, _, _, _, _, _, _, rfl, _⟩ := h; rfl) | (obtain ⟨_, _, _, _, _, _, _, _, _, _, _, _, _, _, rfl, _⟩ := h; rfl) | (obtain ⟨_, _, _, _, _, _, _, _, _, _, _, _, _, _, _, rfl, _⟩ := h; rfl)
theorem cc_ask_line (Z : Fz mg) (D : Dfs K mg) : Cal P w K mg base 2 "ask_line" G_ask_line := cal_ask_line (k := 1) Z D.x_ask_line (cc_is_number Z D) len_ask_line d_ask_line
theorem len_ask_right : ∀ ds μ Q, G_ask_right ds μ Q → ds.length = 2 := by
  intro ds μ Q h
  unfold G_ask_right at h
  first | (split at h <;> first | rfl | exact h.elim) | (obtain ⟨rfl, _⟩ := h; rfl) | (obtain ⟨_, rfl, _⟩ := h; rfl) | (obtain ⟨_, _, rfl, _⟩ := h; rfl) | (obtain ⟨_, _, _, rfl, _⟩ := h; rfl) | (obtain ⟨_, _, _, _, rfl, _⟩ := h; rfl) | (obtain ⟨_, _, _, _, _, rfl, _⟩ := h; rfl) | (obtain ⟨_, _, _, _, _, _, rfl, _⟩ := h; rfl) | (obtain ⟨_, _, _, _, _, _, _, rfl, _⟩ := h; rfl) | (obtain ⟨_, _, _, _, _, _, _, _, rfl, _⟩ := h; rfl) | (obtain ⟨_, _, _, _, _, _, _, _, _, rfl, _⟩ := h; rfl) | (obtain ⟨_, _, _, _, _, _, _, _, _, _, rfl, _⟩ := h; rfl) | (obtain ⟨_, _, _, _, _, _, _, _, _, _, _, rfl, _⟩ := h; rfl) | (obtain ⟨_, _, _, _, _, _, _, _, _, _, _, _, rfl, _⟩ := h; rfl) | (obtain ⟨_, _, _, _, _, _, _, _, _, _, _, _, _, rfl, _⟩ := h; rfl) | (obtain ⟨_, _, _, _, _, _, _, _, _, _, _, _, _, _, rfl, _⟩ := h; rfl) | (obtain ⟨_, _, _, _, _, _, _, _, _, _, _, _, _, _, _, rfl, _⟩ := h; rfl)
theorem cc_ask_right (Z : Fz mg) (D : Dfs K mg) : Cal P w K mg base 2 "ask_right" G_ask_right := cal_ask_right (k := 1) Z D.x_ask_right (cc_has_come Z D) (cc_was_sent Z D) len_ask_right d_ask_right
theorem len_ask_rows : ∀ ds μ Q, G_ask_rows ds μ Q → ds.length = 3 := by
  intro ds μ Q h
  unfold G_ask_rows at h
  first | (split at h <;> first | rfl | exact h.elim) | (obtain ⟨rfl, _⟩ := h; rfl) | (obtain ⟨_, rfl, _⟩ := h; rfl) | (obtain ⟨_, _, rfl, _⟩ := h; rfl) | (obtain ⟨_, _, _, rfl, _⟩ := h; rfl) | (obtain ⟨_, _, _, _, rfl, _⟩ := h; rfl) | (obtain ⟨_, _, _, _, _, rfl, _⟩ := h; rfl) | (obtain ⟨_, _, _, _, _, _, rfl, _⟩ := h; rfl) | (obtain ⟨_, _, _, _, _, _, _, rfl, _⟩ := h; rfl) | (obtain ⟨_, _, _, _, _, _, _, _, rfl, _⟩ := h; rfl) | (obtain ⟨_, _, _, _, _, _, _, _, _, rfl, _⟩ := h; rfl) | (obtain ⟨_, _, _, _, _, _, _, _, _, _, rfl, _⟩ := h; rfl) | (obtain ⟨_, _, _, _, _, _, _, _, _, _, _, rfl, _⟩ := h; rfl) | (obtain ⟨_, _, _, _, _, _, _, _, _, _, _, _, rfl, _⟩ := h; rfl) | (obtain ⟨_, _, _, _, _, _, _, _, _, _, _, _, _, rfl, _⟩ := h; rfl) | (obtain ⟨_, _, _, _, _, _, _, _, _, _, _, _, _, _, rfl, _⟩ := h; rfl) | (obtain ⟨_, _, _, _, _, _, _, _, _, _, _, _, _, _, _, rfl, _⟩ := h; rfl)
theorem cc_ask_rows (Z : Fz mg) (D : Dfs K mg) : Cal P w K mg base 3 "ask_rows" G_ask_rows := cal_ask_rows (k := 2) Z D.x_ask_rows ((cc_is_number Z D).mono (by decide)) (cc_is_letters Z D) len_ask_rows d_ask_rows
theorem len_line_asked : ∀ ds μ Q, G_line_asked ds μ Q → ds.length = 6 := by
  intro ds μ Q h
  unfold G_line_asked at h
  first | (split at h <;> first | rfl | exact h.elim) | (obtain ⟨rfl, _⟩ := h; rfl) | (obtain ⟨_, rfl, _⟩ := h; rfl) | (obtain ⟨_, _, rfl, _⟩ := h; rfl) | (obtain ⟨_, _, _, rfl, _⟩ := h; rfl) | (obtain ⟨_, _, _, _, rfl, _⟩ := h; rfl) | (obtain ⟨_, _, _, _, _, rfl, _⟩ := h; rfl) | (obtain ⟨_, _, _, _, _, _, rfl, _⟩ := h; rfl) | (obtain ⟨_, _, _, _, _, _, _, rfl, _⟩ := h; rfl) | (obtain ⟨_, _, _, _, _, _, _, _, rfl, _⟩ := h; rfl) | (obtain ⟨_, _, _, _, _, _, _, _, _, rfl, _⟩ := h; rfl) | (obtain ⟨_, _, _, _, _, _, _, _, _, _, rfl, _⟩ := h; rfl) | (obtain ⟨_, _, _, _, _, _, _, _, _, _, _, rfl, _⟩ := h; rfl) | (obtain ⟨_, _, _, _, _, _, _, _, _, _, _, _, rfl, _⟩ := h; rfl) | (obtain ⟨_, _, _, _, _, _, _, _, _, _, _, _, _, rfl, _⟩ := h; rfl) | (obtain ⟨_, _, _, _, _, _, _, _, _, _, _, _, _, _, rfl, _⟩ := h; rfl) | (obtain ⟨_, _, _, _, _, _, _, _, _, _, _, _, _, _, _, rfl, _⟩ := h; rfl)
theorem cc_line_asked (Z : Fz mg) (D : Dfs K mg) : Cal P w K mg base 9 "line_asked" G_line_asked := cal_line_asked (k := 8) Z D.x_line_asked (cc_trips Z D) ((cc_ask_line Z D).mono (by decide)) ((cc_ask_right Z D).mono (by decide)) ((cc_ask_rows Z D).mono (by decide)) ((cc_next_of Z D).mono (by decide)) ((cc_wrong_place Z D).mono (by decide)) ((cc_ends_at Z D).mono (by decide)) len_line_asked d_line_asked
theorem len_told_of : ∀ ds μ Q, G_told_of ds μ Q → ds.length = 3 := by
  intro ds μ Q h
  unfold G_told_of at h
  first | (split at h <;> first | rfl | exact h.elim) | (obtain ⟨rfl, _⟩ := h; rfl) | (obtain ⟨_, rfl, _⟩ := h; rfl) | (obtain ⟨_, _, rfl, _⟩ := h; rfl) | (obtain ⟨_, _, _, rfl, _⟩ := h; rfl) | (obtain ⟨_, _, _, _, rfl, _⟩ := h; rfl) | (obtain ⟨_, _, _, _, _, rfl, _⟩ := h; rfl) | (obtain ⟨_, _, _, _, _, _, rfl, _⟩ := h; rfl) | (obtain ⟨_, _, _, _, _, _, _, rfl, _⟩ := h; rfl) | (obtain ⟨_, _, _, _, _, _, _, _, rfl, _⟩ := h; rfl) | (obtain ⟨_, _, _, _, _, _, _, _, _, rfl, _⟩ := h; rfl) | (obtain ⟨_, _, _, _, _, _, _, _, _, _, rfl, _⟩ := h; rfl) | (obtain ⟨_, _, _, _, _, _, _, _, _, _, _, rfl, _⟩ := h; rfl) | (obtain ⟨_, _, _, _, _, _, _, _, _, _, _, _, rfl, _⟩ := h; rfl) | (obtain ⟨_, _, _, _, _, _, _, _, _, _, _, _, _, rfl, _⟩ := h; rfl) | (obtain ⟨_, _, _, _, _, _, _, _, _, _, _, _, _, _, rfl, _⟩ := h; rfl) | (obtain ⟨_, _, _, _, _, _, _, _, _, _, _, _, _, _, _, rfl, _⟩ := h; rfl)
theorem cc_told_of (Z : Fz mg) (D : Dfs K mg) : Cal P w K mg base 4 "told_of" G_told_of := cal_told_of (k := 3) Z D.x_told_of (cc_lowered Z D) ((cc_up_to Z D).mono (by decide)) len_told_of d_told_of
theorem len_extended : ∀ ds μ Q, G_extended ds μ Q → ds.length = 5 := by
  intro ds μ Q h
  unfold G_extended at h
  first | (split at h <;> first | rfl | exact h.elim) | (obtain ⟨rfl, _⟩ := h; rfl) | (obtain ⟨_, rfl, _⟩ := h; rfl) | (obtain ⟨_, _, rfl, _⟩ := h; rfl) | (obtain ⟨_, _, _, rfl, _⟩ := h; rfl) | (obtain ⟨_, _, _, _, rfl, _⟩ := h; rfl) | (obtain ⟨_, _, _, _, _, rfl, _⟩ := h; rfl) | (obtain ⟨_, _, _, _, _, _, rfl, _⟩ := h; rfl) | (obtain ⟨_, _, _, _, _, _, _, rfl, _⟩ := h; rfl) | (obtain ⟨_, _, _, _, _, _, _, _, rfl, _⟩ := h; rfl) | (obtain ⟨_, _, _, _, _, _, _, _, _, rfl, _⟩ := h; rfl) | (obtain ⟨_, _, _, _, _, _, _, _, _, _, rfl, _⟩ := h; rfl) | (obtain ⟨_, _, _, _, _, _, _, _, _, _, _, rfl, _⟩ := h; rfl) | (obtain ⟨_, _, _, _, _, _, _, _, _, _, _, _, rfl, _⟩ := h; rfl) | (obtain ⟨_, _, _, _, _, _, _, _, _, _, _, _, _, rfl, _⟩ := h; rfl) | (obtain ⟨_, _, _, _, _, _, _, _, _, _, _, _, _, _, rfl, _⟩ := h; rfl) | (obtain ⟨_, _, _, _, _, _, _, _, _, _, _, _, _, _, _, rfl, _⟩ := h; rfl)
theorem cc_extended (Z : Fz mg) (D : Dfs K mg) : Cal P w K mg base 9 "extended" G_extended := cal_extended (k := 8) Z D.x_extended ((cc_told_of Z D).mono (by decide)) (cc_trips Z D) len_extended d_extended
theorem len_ask_way : ∀ ds μ Q, G_ask_way ds μ Q → ds.length = 6 := by
  intro ds μ Q h
  unfold G_ask_way at h
  first | (split at h <;> first | rfl | exact h.elim) | (obtain ⟨rfl, _⟩ := h; rfl) | (obtain ⟨_, rfl, _⟩ := h; rfl) | (obtain ⟨_, _, rfl, _⟩ := h; rfl) | (obtain ⟨_, _, _, rfl, _⟩ := h; rfl) | (obtain ⟨_, _, _, _, rfl, _⟩ := h; rfl) | (obtain ⟨_, _, _, _, _, rfl, _⟩ := h; rfl) | (obtain ⟨_, _, _, _, _, _, rfl, _⟩ := h; rfl) | (obtain ⟨_, _, _, _, _, _, _, rfl, _⟩ := h; rfl) | (obtain ⟨_, _, _, _, _, _, _, _, rfl, _⟩ := h; rfl) | (obtain ⟨_, _, _, _, _, _, _, _, _, rfl, _⟩ := h; rfl) | (obtain ⟨_, _, _, _, _, _, _, _, _, _, rfl, _⟩ := h; rfl) | (obtain ⟨_, _, _, _, _, _, _, _, _, _, _, rfl, _⟩ := h; rfl) | (obtain ⟨_, _, _, _, _, _, _, _, _, _, _, _, rfl, _⟩ := h; rfl) | (obtain ⟨_, _, _, _, _, _, _, _, _, _, _, _, _, rfl, _⟩ := h; rfl) | (obtain ⟨_, _, _, _, _, _, _, _, _, _, _, _, _, _, rfl, _⟩ := h; rfl) | (obtain ⟨_, _, _, _, _, _, _, _, _, _, _, _, _, _, _, rfl, _⟩ := h; rfl)
theorem cc_ask_way (Z : Fz mg) (D : Dfs K mg) : Cal P w K mg base 9 "ask_way" G_ask_way := cal_ask_way (k := 8) Z D.x_ask_way (cc_trips Z D) ((cc_wrong_place Z D).mono (by decide)) ((cc_ends_at Z D).mono (by decide)) len_ask_way d_ask_way
theorem len_extended_asked : ∀ ds μ Q, G_extended_asked ds μ Q → ds.length = 6 := by
  intro ds μ Q h
  unfold G_extended_asked at h
  first | (split at h <;> first | rfl | exact h.elim) | (obtain ⟨rfl, _⟩ := h; rfl) | (obtain ⟨_, rfl, _⟩ := h; rfl) | (obtain ⟨_, _, rfl, _⟩ := h; rfl) | (obtain ⟨_, _, _, rfl, _⟩ := h; rfl) | (obtain ⟨_, _, _, _, rfl, _⟩ := h; rfl) | (obtain ⟨_, _, _, _, _, rfl, _⟩ := h; rfl) | (obtain ⟨_, _, _, _, _, _, rfl, _⟩ := h; rfl) | (obtain ⟨_, _, _, _, _, _, _, rfl, _⟩ := h; rfl) | (obtain ⟨_, _, _, _, _, _, _, _, rfl, _⟩ := h; rfl) | (obtain ⟨_, _, _, _, _, _, _, _, _, rfl, _⟩ := h; rfl) | (obtain ⟨_, _, _, _, _, _, _, _, _, _, rfl, _⟩ := h; rfl) | (obtain ⟨_, _, _, _, _, _, _, _, _, _, _, rfl, _⟩ := h; rfl) | (obtain ⟨_, _, _, _, _, _, _, _, _, _, _, _, rfl, _⟩ := h; rfl) | (obtain ⟨_, _, _, _, _, _, _, _, _, _, _, _, _, rfl, _⟩ := h; rfl) | (obtain ⟨_, _, _, _, _, _, _, _, _, _, _, _, _, _, rfl, _⟩ := h; rfl) | (obtain ⟨_, _, _, _, _, _, _, _, _, _, _, _, _, _, _, rfl, _⟩ := h; rfl)
theorem cc_extended_asked (Z : Fz mg) (D : Dfs K mg) : Cal P w K mg base 10 "extended_asked" G_extended_asked := cal_extended_asked (k := 9) Z D.x_extended_asked ((cc_up_to Z D).mono (by decide)) (cc_line_asked Z D) ((cc_is_letters Z D).mono (by decide)) (cc_ask_way Z D) len_extended_asked d_extended_asked
theorem len_first_useless : ∀ ds μ Q, G_first_useless ds μ Q → ds.length = 2 := by
  intro ds μ Q h
  unfold G_first_useless at h
  first | (split at h <;> first | rfl | exact h.elim) | (obtain ⟨rfl, _⟩ := h; rfl) | (obtain ⟨_, rfl, _⟩ := h; rfl) | (obtain ⟨_, _, rfl, _⟩ := h; rfl) | (obtain ⟨_, _, _, rfl, _⟩ := h; rfl) | (obtain ⟨_, _, _, _, rfl, _⟩ := h; rfl) | (obtain ⟨_, _, _, _, _, rfl, _⟩ := h; rfl) | (obtain ⟨_, _, _, _, _, _, rfl, _⟩ := h; rfl) | (obtain ⟨_, _, _, _, _, _, _, rfl, _⟩ := h; rfl) | (obtain ⟨_, _, _, _, _, _, _, _, rfl, _⟩ := h; rfl) | (obtain ⟨_, _, _, _, _, _, _, _, _, rfl, _⟩ := h; rfl) | (obtain ⟨_, _, _, _, _, _, _, _, _, _, rfl, _⟩ := h; rfl) | (obtain ⟨_, _, _, _, _, _, _, _, _, _, _, rfl, _⟩ := h; rfl) | (obtain ⟨_, _, _, _, _, _, _, _, _, _, _, _, rfl, _⟩ := h; rfl) | (obtain ⟨_, _, _, _, _, _, _, _, _, _, _, _, _, rfl, _⟩ := h; rfl) | (obtain ⟨_, _, _, _, _, _, _, _, _, _, _, _, _, _, rfl, _⟩ := h; rfl) | (obtain ⟨_, _, _, _, _, _, _, _, _, _, _, _, _, _, _, rfl, _⟩ := h; rfl)
theorem cc_first_useless (Z : Fz mg) (D : Dfs K mg) : Cal P w K mg base 5 "first_useless" G_first_useless := cal_first_useless (k := 4) Z D.x_first_useless (cc_told_of Z D) len_first_useless d_first_useless
theorem len_place_in : ∀ ds μ Q, G_place_in ds μ Q → ds.length = 3 := by
  intro ds μ Q h
  unfold G_place_in at h
  first | (split at h <;> first | rfl | exact h.elim) | (obtain ⟨rfl, _⟩ := h; rfl) | (obtain ⟨_, rfl, _⟩ := h; rfl) | (obtain ⟨_, _, rfl, _⟩ := h; rfl) | (obtain ⟨_, _, _, rfl, _⟩ := h; rfl) | (obtain ⟨_, _, _, _, rfl, _⟩ := h; rfl) | (obtain ⟨_, _, _, _, _, rfl, _⟩ := h; rfl) | (obtain ⟨_, _, _, _, _, _, rfl, _⟩ := h; rfl) | (obtain ⟨_, _, _, _, _, _, _, rfl, _⟩ := h; rfl) | (obtain ⟨_, _, _, _, _, _, _, _, rfl, _⟩ := h; rfl) | (obtain ⟨_, _, _, _, _, _, _, _, _, rfl, _⟩ := h; rfl) | (obtain ⟨_, _, _, _, _, _, _, _, _, _, rfl, _⟩ := h; rfl) | (obtain ⟨_, _, _, _, _, _, _, _, _, _, _, rfl, _⟩ := h; rfl) | (obtain ⟨_, _, _, _, _, _, _, _, _, _, _, _, rfl, _⟩ := h; rfl) | (obtain ⟨_, _, _, _, _, _, _, _, _, _, _, _, _, rfl, _⟩ := h; rfl) | (obtain ⟨_, _, _, _, _, _, _, _, _, _, _, _, _, _, rfl, _⟩ := h; rfl) | (obtain ⟨_, _, _, _, _, _, _, _, _, _, _, _, _, _, _, rfl, _⟩ := h; rfl)
theorem cc_place_in (Z : Fz mg) (D : Dfs K mg) : Cal P w K mg base 2 "place_in" G_place_in := cal_place_in (k := 1) Z D.x_place_in (cc_floor_of Z D) len_place_in d_place_in
theorem len_raised : ∀ ds μ Q, G_raised ds μ Q → ds.length = 3 := by
  intro ds μ Q h
  unfold G_raised at h
  first | (split at h <;> first | rfl | exact h.elim) | (obtain ⟨rfl, _⟩ := h; rfl) | (obtain ⟨_, rfl, _⟩ := h; rfl) | (obtain ⟨_, _, rfl, _⟩ := h; rfl) | (obtain ⟨_, _, _, rfl, _⟩ := h; rfl) | (obtain ⟨_, _, _, _, rfl, _⟩ := h; rfl) | (obtain ⟨_, _, _, _, _, rfl, _⟩ := h; rfl) | (obtain ⟨_, _, _, _, _, _, rfl, _⟩ := h; rfl) | (obtain ⟨_, _, _, _, _, _, _, rfl, _⟩ := h; rfl) | (obtain ⟨_, _, _, _, _, _, _, _, rfl, _⟩ := h; rfl) | (obtain ⟨_, _, _, _, _, _, _, _, _, rfl, _⟩ := h; rfl) | (obtain ⟨_, _, _, _, _, _, _, _, _, _, rfl, _⟩ := h; rfl) | (obtain ⟨_, _, _, _, _, _, _, _, _, _, _, rfl, _⟩ := h; rfl) | (obtain ⟨_, _, _, _, _, _, _, _, _, _, _, _, rfl, _⟩ := h; rfl) | (obtain ⟨_, _, _, _, _, _, _, _, _, _, _, _, _, rfl, _⟩ := h; rfl) | (obtain ⟨_, _, _, _, _, _, _, _, _, _, _, _, _, _, rfl, _⟩ := h; rfl) | (obtain ⟨_, _, _, _, _, _, _, _, _, _, _, _, _, _, _, rfl, _⟩ := h; rfl)
theorem cc_raised (Z : Fz mg) (D : Dfs K mg) : Cal P w K mg base 1 "raised" G_raised := cal_raised (k := 0) Z D.x_raised  len_raised d_raised
theorem len_numbers_of : ∀ ds μ Q, G_numbers_of ds μ Q → ds.length = 4 := by
  intro ds μ Q h
  unfold G_numbers_of at h
  first | (split at h <;> first | rfl | exact h.elim) | (obtain ⟨rfl, _⟩ := h; rfl) | (obtain ⟨_, rfl, _⟩ := h; rfl) | (obtain ⟨_, _, rfl, _⟩ := h; rfl) | (obtain ⟨_, _, _, rfl, _⟩ := h; rfl) | (obtain ⟨_, _, _, _, rfl, _⟩ := h; rfl) | (obtain ⟨_, _, _, _, _, rfl, _⟩ := h; rfl) | (obtain ⟨_, _, _, _, _, _, rfl, _⟩ := h; rfl) | (obtain ⟨_, _, _, _, _, _, _, rfl, _⟩ := h; rfl) | (obtain ⟨_, _, _, _, _, _, _, _, rfl, _⟩ := h; rfl) | (obtain ⟨_, _, _, _, _, _, _, _, _, rfl, _⟩ := h; rfl) | (obtain ⟨_, _, _, _, _, _, _, _, _, _, rfl, _⟩ := h; rfl) | (obtain ⟨_, _, _, _, _, _, _, _, _, _, _, rfl, _⟩ := h; rfl) | (obtain ⟨_, _, _, _, _, _, _, _, _, _, _, _, rfl, _⟩ := h; rfl) | (obtain ⟨_, _, _, _, _, _, _, _, _, _, _, _, _, rfl, _⟩ := h; rfl) | (obtain ⟨_, _, _, _, _, _, _, _, _, _, _, _, _, _, rfl, _⟩ := h; rfl) | (obtain ⟨_, _, _, _, _, _, _, _, _, _, _, _, _, _, _, rfl, _⟩ := h; rfl)
theorem cc_numbers_of (Z : Fz mg) (D : Dfs K mg) : Cal P w K mg base 9 "numbers_of" G_numbers_of := cal_numbers_of (k := 8) Z D.x_numbers_of (cc_trips Z D) ((cc_first_useless Z D).mono (by decide)) ((cc_is_whole_trip Z D).mono (by decide)) ((cc_place_in Z D).mono (by decide)) ((cc_raised Z D).mono (by decide)) len_numbers_of d_numbers_of
theorem len_is_form_of : ∀ ds μ Q, G_is_form_of ds μ Q → ds.length = 2 := by
  intro ds μ Q h
  unfold G_is_form_of at h
  first | (split at h <;> first | rfl | exact h.elim) | (obtain ⟨rfl, _⟩ := h; rfl) | (obtain ⟨_, rfl, _⟩ := h; rfl) | (obtain ⟨_, _, rfl, _⟩ := h; rfl) | (obtain ⟨_, _, _, rfl, _⟩ := h; rfl) | (obtain ⟨_, _, _, _, rfl, _⟩ := h; rfl) | (obtain ⟨_, _, _, _, _, rfl, _⟩ := h; rfl) | (obtain ⟨_, _, _, _, _, _, rfl, _⟩ := h; rfl) | (obtain ⟨_, _, _, _, _, _, _, rfl, _⟩ := h; rfl) | (obtain ⟨_, _, _, _, _, _, _, _, rfl, _⟩ := h; rfl) | (obtain ⟨_, _, _, _, _, _, _, _, _, rfl, _⟩ := h; rfl) | (obtain ⟨_, _, _, _, _, _, _, _, _, _, rfl, _⟩ := h; rfl) | (obtain ⟨_, _, _, _, _, _, _, _, _, _, _, rfl, _⟩ := h; rfl) | (obtain ⟨_, _, _, _, _, _, _, _, _, _, _, _, rfl, _⟩ := h; rfl) | (obtain ⟨_, _, _, _, _, _, _, _, _, _, _, _, _, rfl, _⟩ := h; rfl) | (obtain ⟨_, _, _, _, _, _, _, _, _, _, _, _, _, _, rfl, _⟩ := h; rfl) | (obtain ⟨_, _, _, _, _, _, _, _, _, _, _, _, _, _, _, rfl, _⟩ := h; rfl)
theorem cc_is_form_of (Z : Fz mg) (D : Dfs K mg) : Cal P w K mg base 2 "is_form_of" G_is_form_of := cal_is_form_of (k := 1) Z D.x_is_form_of (cc_is_number Z D) len_is_form_of d_is_form_of
theorem len_ask_trip : ∀ ds μ Q, G_ask_trip ds μ Q → ds.length = 3 := by
  intro ds μ Q h
  unfold G_ask_trip at h
  first | (split at h <;> first | rfl | exact h.elim) | (obtain ⟨rfl, _⟩ := h; rfl) | (obtain ⟨_, rfl, _⟩ := h; rfl) | (obtain ⟨_, _, rfl, _⟩ := h; rfl) | (obtain ⟨_, _, _, rfl, _⟩ := h; rfl) | (obtain ⟨_, _, _, _, rfl, _⟩ := h; rfl) | (obtain ⟨_, _, _, _, _, rfl, _⟩ := h; rfl) | (obtain ⟨_, _, _, _, _, _, rfl, _⟩ := h; rfl) | (obtain ⟨_, _, _, _, _, _, _, rfl, _⟩ := h; rfl) | (obtain ⟨_, _, _, _, _, _, _, _, rfl, _⟩ := h; rfl) | (obtain ⟨_, _, _, _, _, _, _, _, _, rfl, _⟩ := h; rfl) | (obtain ⟨_, _, _, _, _, _, _, _, _, _, rfl, _⟩ := h; rfl) | (obtain ⟨_, _, _, _, _, _, _, _, _, _, _, rfl, _⟩ := h; rfl) | (obtain ⟨_, _, _, _, _, _, _, _, _, _, _, _, rfl, _⟩ := h; rfl) | (obtain ⟨_, _, _, _, _, _, _, _, _, _, _, _, _, rfl, _⟩ := h; rfl) | (obtain ⟨_, _, _, _, _, _, _, _, _, _, _, _, _, _, rfl, _⟩ := h; rfl) | (obtain ⟨_, _, _, _, _, _, _, _, _, _, _, _, _, _, _, rfl, _⟩ := h; rfl)
theorem cc_ask_trip (Z : Fz mg) (D : Dfs K mg) : Cal P w K mg base 3 "ask_trip" G_ask_trip := cal_ask_trip (k := 2) Z D.x_ask_trip (cc_place_in Z D) len_ask_trip d_ask_trip
theorem len_numbers_asked : ∀ ds μ Q, G_numbers_asked ds μ Q → ds.length = 5 := by
  intro ds μ Q h
  unfold G_numbers_asked at h
  first | (split at h <;> first | rfl | exact h.elim) | (obtain ⟨rfl, _⟩ := h; rfl) | (obtain ⟨_, rfl, _⟩ := h; rfl) | (obtain ⟨_, _, rfl, _⟩ := h; rfl) | (obtain ⟨_, _, _, rfl, _⟩ := h; rfl) | (obtain ⟨_, _, _, _, rfl, _⟩ := h; rfl) | (obtain ⟨_, _, _, _, _, rfl, _⟩ := h; rfl) | (obtain ⟨_, _, _, _, _, _, rfl, _⟩ := h; rfl) | (obtain ⟨_, _, _, _, _, _, _, rfl, _⟩ := h; rfl) | (obtain ⟨_, _, _, _, _, _, _, _, rfl, _⟩ := h; rfl) | (obtain ⟨_, _, _, _, _, _, _, _, _, rfl, _⟩ := h; rfl) | (obtain ⟨_, _, _, _, _, _, _, _, _, _, rfl, _⟩ := h; rfl) | (obtain ⟨_, _, _, _, _, _, _, _, _, _, _, rfl, _⟩ := h; rfl) | (obtain ⟨_, _, _, _, _, _, _, _, _, _, _, _, rfl, _⟩ := h; rfl) | (obtain ⟨_, _, _, _, _, _, _, _, _, _, _, _, _, rfl, _⟩ := h; rfl) | (obtain ⟨_, _, _, _, _, _, _, _, _, _, _, _, _, _, rfl, _⟩ := h; rfl) | (obtain ⟨_, _, _, _, _, _, _, _, _, _, _, _, _, _, _, rfl, _⟩ := h; rfl)
theorem cc_numbers_asked (Z : Fz mg) (D : Dfs K mg) : Cal P w K mg base 9 "numbers_asked" G_numbers_asked := cal_numbers_asked (k := 8) Z D.x_numbers_asked ((cc_is_form_of Z D).mono (by decide)) (cc_trips Z D) ((cc_is_whole_trip Z D).mono (by decide)) ((cc_ask_trip Z D).mono (by decide)) len_numbers_asked d_numbers_asked
theorem len__law_feed : ∀ ds μ Q, G__law_feed ds μ Q → ds.length = 1 := by
  intro ds μ Q h
  unfold G__law_feed at h
  first | (split at h <;> first | rfl | exact h.elim) | (obtain ⟨rfl, _⟩ := h; rfl) | (obtain ⟨_, rfl, _⟩ := h; rfl) | (obtain ⟨_, _, rfl, _⟩ := h; rfl) | (obtain ⟨_, _, _, rfl, _⟩ := h; rfl) | (obtain ⟨_, _, _, _, rfl, _⟩ := h; rfl) | (obtain ⟨_, _, _, _, _, rfl, _⟩ := h; rfl) | (obtain ⟨_, _, _, _, _, _, rfl, _⟩ := h; rfl) | (obtain ⟨_, _, _, _, _, _, _, rfl, _⟩ := h; rfl) | (obtain ⟨_, _, _, _, _, _, _, _, rfl, _⟩ := h; rfl) | (obtain ⟨_, _, _, _, _, _, _, _, _, rfl, _⟩ := h; rfl) | (obtain ⟨_, _, _, _, _, _, _, _, _, _, rfl, _⟩ := h; rfl) | (obtain ⟨_, _, _, _, _, _, _, _, _, _, _, rfl, _⟩ := h; rfl) | (obtain ⟨_, _, _, _, _, _, _, _, _, _, _, _, rfl, _⟩ := h; rfl) | (obtain ⟨_, _, _, _, _, _, _, _, _, _, _, _, _, rfl, _⟩ := h; rfl) | (obtain ⟨_, _, _, _, _, _, _, _, _, _, _, _, _, _, rfl, _⟩ := h; rfl) | (obtain ⟨_, _, _, _, _, _, _, _, _, _, _, _, _, _, _, rfl, _⟩ := h; rfl)
theorem cc__law_feed (Z : Fz mg) (D : Dfs K mg) : Cal P w K mg base 1 "_law_feed" G__law_feed := cal__law_feed (k := 0) Z D.x__law_feed  len__law_feed d__law_feed
theorem len__law_draw : ∀ ds μ Q, G__law_draw ds μ Q → ds.length = 2 := by
  intro ds μ Q h
  unfold G__law_draw at h
  first | (split at h <;> first | rfl | exact h.elim) | (obtain ⟨rfl, _⟩ := h; rfl) | (obtain ⟨_, rfl, _⟩ := h; rfl) | (obtain ⟨_, _, rfl, _⟩ := h; rfl) | (obtain ⟨_, _, _, rfl, _⟩ := h; rfl) | (obtain ⟨_, _, _, _, rfl, _⟩ := h; rfl) | (obtain ⟨_, _, _, _, _, rfl, _⟩ := h; rfl) | (obtain ⟨_, _, _, _, _, _, rfl, _⟩ := h; rfl) | (obtain ⟨_, _, _, _, _, _, _, rfl, _⟩ := h; rfl) | (obtain ⟨_, _, _, _, _, _, _, _, rfl, _⟩ := h; rfl) | (obtain ⟨_, _, _, _, _, _, _, _, _, rfl, _⟩ := h; rfl) | (obtain ⟨_, _, _, _, _, _, _, _, _, _, rfl, _⟩ := h; rfl) | (obtain ⟨_, _, _, _, _, _, _, _, _, _, _, rfl, _⟩ := h; rfl) | (obtain ⟨_, _, _, _, _, _, _, _, _, _, _, _, rfl, _⟩ := h; rfl) | (obtain ⟨_, _, _, _, _, _, _, _, _, _, _, _, _, rfl, _⟩ := h; rfl) | (obtain ⟨_, _, _, _, _, _, _, _, _, _, _, _, _, _, rfl, _⟩ := h; rfl) | (obtain ⟨_, _, _, _, _, _, _, _, _, _, _, _, _, _, _, rfl, _⟩ := h; rfl)
theorem cc__law_draw (Z : Fz mg) (D : Dfs K mg) : Cal P w K mg base 1 "_law_draw" G__law_draw := cal__law_draw (k := 0) Z D.x__law_draw  len__law_draw d__law_draw
theorem len__law_rule : ∀ ds μ Q, G__law_rule ds μ Q → ds.length = 2 := by
  intro ds μ Q h
  unfold G__law_rule at h
  first | (split at h <;> first | rfl | exact h.elim) | (obtain ⟨rfl, _⟩ := h; rfl) | (obtain ⟨_, rfl, _⟩ := h; rfl) | (obtain ⟨_, _, rfl, _⟩ := h; rfl) | (obtain ⟨_, _, _, rfl, _⟩ := h; rfl) | (obtain ⟨_, _, _, _, rfl, _⟩ := h; rfl) | (obtain ⟨_, _, _, _, _, rfl, _⟩ := h; rfl) | (obtain ⟨_, _, _, _, _, _, rfl, _⟩ := h; rfl) | (obtain ⟨_, _, _, _, _, _, _, rfl, _⟩ := h; rfl) | (obtain ⟨_, _, _, _, _, _, _, _, rfl, _⟩ := h; rfl) | (obtain ⟨_, _, _, _, _, _, _, _, _, rfl, _⟩ := h; rfl) | (obtain ⟨_, _, _, _, _, _, _, _, _, _, rfl, _⟩ := h; rfl) | (obtain ⟨_, _, _, _, _, _, _, _, _, _, _, rfl, _⟩ := h; rfl) | (obtain ⟨_, _, _, _, _, _, _, _, _, _, _, _, rfl, _⟩ := h; rfl) | (obtain ⟨_, _, _, _, _, _, _, _, _, _, _, _, _, rfl, _⟩ := h; rfl) | (obtain ⟨_, _, _, _, _, _, _, _, _, _, _, _, _, _, rfl, _⟩ := h; rfl) | (obtain ⟨_, _, _, _, _, _, _, _, _, _, _, _, _, _, _, rfl, _⟩ := h; rfl)
theorem cc__law_rule (Z : Fz mg) (D : Dfs K mg) : Cal P w K mg base 2 "_law_rule" G__law_rule := cal__law_rule (k := 1) Z D.x__law_rule (cc__law_draw Z D) len__law_rule d__law_rule
theorem len__law_form : ∀ ds μ Q, G__law_form ds μ Q → ds.length = 1 := by
  intro ds μ Q h
  unfold G__law_form at h
  first | (split at h <;> first | rfl | exact h.elim) | (obtain ⟨rfl, _⟩ := h; rfl) | (obtain ⟨_, rfl, _⟩ := h; rfl) | (obtain ⟨_, _, rfl, _⟩ := h; rfl) | (obtain ⟨_, _, _, rfl, _⟩ := h; rfl) | (obtain ⟨_, _, _, _, rfl, _⟩ := h; rfl) | (obtain ⟨_, _, _, _, _, rfl, _⟩ := h; rfl) | (obtain ⟨_, _, _, _, _, _, rfl, _⟩ := h; rfl) | (obtain ⟨_, _, _, _, _, _, _, rfl, _⟩ := h; rfl) | (obtain ⟨_, _, _, _, _, _, _, _, rfl, _⟩ := h; rfl) | (obtain ⟨_, _, _, _, _, _, _, _, _, rfl, _⟩ := h; rfl) | (obtain ⟨_, _, _, _, _, _, _, _, _, _, rfl, _⟩ := h; rfl) | (obtain ⟨_, _, _, _, _, _, _, _, _, _, _, rfl, _⟩ := h; rfl) | (obtain ⟨_, _, _, _, _, _, _, _, _, _, _, _, rfl, _⟩ := h; rfl) | (obtain ⟨_, _, _, _, _, _, _, _, _, _, _, _, _, rfl, _⟩ := h; rfl) | (obtain ⟨_, _, _, _, _, _, _, _, _, _, _, _, _, _, rfl, _⟩ := h; rfl) | (obtain ⟨_, _, _, _, _, _, _, _, _, _, _, _, _, _, _, rfl, _⟩ := h; rfl)
theorem cc__law_form (Z : Fz mg) (D : Dfs K mg) : Cal P w K mg base 3 "_law_form" G__law_form := cal__law_form (k := 2) Z D.x__law_form ((cc__law_draw Z D).mono (by decide)) (cc__law_rule Z D) len__law_form d__law_form
theorem len__law_base : ∀ ds μ Q, G__law_base ds μ Q → ds.length = 2 := by
  intro ds μ Q h
  unfold G__law_base at h
  first | (split at h <;> first | rfl | exact h.elim) | (obtain ⟨rfl, _⟩ := h; rfl) | (obtain ⟨_, rfl, _⟩ := h; rfl) | (obtain ⟨_, _, rfl, _⟩ := h; rfl) | (obtain ⟨_, _, _, rfl, _⟩ := h; rfl) | (obtain ⟨_, _, _, _, rfl, _⟩ := h; rfl) | (obtain ⟨_, _, _, _, _, rfl, _⟩ := h; rfl) | (obtain ⟨_, _, _, _, _, _, rfl, _⟩ := h; rfl) | (obtain ⟨_, _, _, _, _, _, _, rfl, _⟩ := h; rfl) | (obtain ⟨_, _, _, _, _, _, _, _, rfl, _⟩ := h; rfl) | (obtain ⟨_, _, _, _, _, _, _, _, _, rfl, _⟩ := h; rfl) | (obtain ⟨_, _, _, _, _, _, _, _, _, _, rfl, _⟩ := h; rfl) | (obtain ⟨_, _, _, _, _, _, _, _, _, _, _, rfl, _⟩ := h; rfl) | (obtain ⟨_, _, _, _, _, _, _, _, _, _, _, _, rfl, _⟩ := h; rfl) | (obtain ⟨_, _, _, _, _, _, _, _, _, _, _, _, _, rfl, _⟩ := h; rfl) | (obtain ⟨_, _, _, _, _, _, _, _, _, _, _, _, _, _, rfl, _⟩ := h; rfl) | (obtain ⟨_, _, _, _, _, _, _, _, _, _, _, _, _, _, _, rfl, _⟩ := h; rfl)
theorem cc__law_base (Z : Fz mg) (D : Dfs K mg) : Cal P w K mg base 2 "_law_base" G__law_base := cal__law_base (k := 1) Z D.x__law_base (cc__law_draw Z D) len__law_base d__law_base
theorem len__law_begun : ∀ ds μ Q, G__law_begun ds μ Q → ds.length = 2 := by
  intro ds μ Q h
  unfold G__law_begun at h
  first | (split at h <;> first | rfl | exact h.elim) | (obtain ⟨rfl, _⟩ := h; rfl) | (obtain ⟨_, rfl, _⟩ := h; rfl) | (obtain ⟨_, _, rfl, _⟩ := h; rfl) | (obtain ⟨_, _, _, rfl, _⟩ := h; rfl) | (obtain ⟨_, _, _, _, rfl, _⟩ := h; rfl) | (obtain ⟨_, _, _, _, _, rfl, _⟩ := h; rfl) | (obtain ⟨_, _, _, _, _, _, rfl, _⟩ := h; rfl) | (obtain ⟨_, _, _, _, _, _, _, rfl, _⟩ := h; rfl) | (obtain ⟨_, _, _, _, _, _, _, _, rfl, _⟩ := h; rfl) | (obtain ⟨_, _, _, _, _, _, _, _, _, rfl, _⟩ := h; rfl) | (obtain ⟨_, _, _, _, _, _, _, _, _, _, rfl, _⟩ := h; rfl) | (obtain ⟨_, _, _, _, _, _, _, _, _, _, _, rfl, _⟩ := h; rfl) | (obtain ⟨_, _, _, _, _, _, _, _, _, _, _, _, rfl, _⟩ := h; rfl) | (obtain ⟨_, _, _, _, _, _, _, _, _, _, _, _, _, rfl, _⟩ := h; rfl) | (obtain ⟨_, _, _, _, _, _, _, _, _, _, _, _, _, _, rfl, _⟩ := h; rfl) | (obtain ⟨_, _, _, _, _, _, _, _, _, _, _, _, _, _, _, rfl, _⟩ := h; rfl)
theorem cc__law_begun (Z : Fz mg) (D : Dfs K mg) : Cal P w K mg base 1 "_law_begun" G__law_begun := cal__law_begun (k := 0) Z D.x__law_begun  len__law_begun d__law_begun
theorem len__law_move : ∀ ds μ Q, G__law_move ds μ Q → ds.length = 3 := by
  intro ds μ Q h
  unfold G__law_move at h
  first | (split at h <;> first | rfl | exact h.elim) | (obtain ⟨rfl, _⟩ := h; rfl) | (obtain ⟨_, rfl, _⟩ := h; rfl) | (obtain ⟨_, _, rfl, _⟩ := h; rfl) | (obtain ⟨_, _, _, rfl, _⟩ := h; rfl) | (obtain ⟨_, _, _, _, rfl, _⟩ := h; rfl) | (obtain ⟨_, _, _, _, _, rfl, _⟩ := h; rfl) | (obtain ⟨_, _, _, _, _, _, rfl, _⟩ := h; rfl) | (obtain ⟨_, _, _, _, _, _, _, rfl, _⟩ := h; rfl) | (obtain ⟨_, _, _, _, _, _, _, _, rfl, _⟩ := h; rfl) | (obtain ⟨_, _, _, _, _, _, _, _, _, rfl, _⟩ := h; rfl) | (obtain ⟨_, _, _, _, _, _, _, _, _, _, rfl, _⟩ := h; rfl) | (obtain ⟨_, _, _, _, _, _, _, _, _, _, _, rfl, _⟩ := h; rfl) | (obtain ⟨_, _, _, _, _, _, _, _, _, _, _, _, rfl, _⟩ := h; rfl) | (obtain ⟨_, _, _, _, _, _, _, _, _, _, _, _, _, rfl, _⟩ := h; rfl) | (obtain ⟨_, _, _, _, _, _, _, _, _, _, _, _, _, _, rfl, _⟩ := h; rfl) | (obtain ⟨_, _, _, _, _, _, _, _, _, _, _, _, _, _, _, rfl, _⟩ := h; rfl)
theorem cc__law_move (Z : Fz mg) (D : Dfs K mg) : Cal P w K mg base 1 "_law_move" G__law_move := cal__law_move (k := 0) Z D.x__law_move  len__law_move d__law_move
theorem len__law_do : ∀ ds μ Q, G__law_do ds μ Q → ds.length = 2 := by
  intro ds μ Q h
  unfold G__law_do at h
  first | (split at h <;> first | rfl | exact h.elim) | (obtain ⟨rfl, _⟩ := h; rfl) | (obtain ⟨_, rfl, _⟩ := h; rfl) | (obtain ⟨_, _, rfl, _⟩ := h; rfl) | (obtain ⟨_, _, _, rfl, _⟩ := h; rfl) | (obtain ⟨_, _, _, _, rfl, _⟩ := h; rfl) | (obtain ⟨_, _, _, _, _, rfl, _⟩ := h; rfl) | (obtain ⟨_, _, _, _, _, _, rfl, _⟩ := h; rfl) | (obtain ⟨_, _, _, _, _, _, _, rfl, _⟩ := h; rfl) | (obtain ⟨_, _, _, _, _, _, _, _, rfl, _⟩ := h; rfl) | (obtain ⟨_, _, _, _, _, _, _, _, _, rfl, _⟩ := h; rfl) | (obtain ⟨_, _, _, _, _, _, _, _, _, _, rfl, _⟩ := h; rfl) | (obtain ⟨_, _, _, _, _, _, _, _, _, _, _, rfl, _⟩ := h; rfl) | (obtain ⟨_, _, _, _, _, _, _, _, _, _, _, _, rfl, _⟩ := h; rfl) | (obtain ⟨_, _, _, _, _, _, _, _, _, _, _, _, _, rfl, _⟩ := h; rfl) | (obtain ⟨_, _, _, _, _, _, _, _, _, _, _, _, _, _, rfl, _⟩ := h; rfl) | (obtain ⟨_, _, _, _, _, _, _, _, _, _, _, _, _, _, _, rfl, _⟩ := h; rfl)
theorem cc__law_do (Z : Fz mg) (D : Dfs K mg) : Cal P w K mg base 2 "_law_do" G__law_do := cal__law_do (k := 1) Z D.x__law_do (cc__law_move Z D) len__law_do d__law_do
theorem len__law_deed : ∀ ds μ Q, G__law_deed ds μ Q → ds.length = 2 := by
  intro ds μ Q h
  unfold G__law_deed at h
  first | (split at h <;> first | rfl | exact h.elim) | (obtain ⟨rfl, _⟩ := h; rfl) | (obtain ⟨_, rfl, _⟩ := h; rfl) | (obtain ⟨_, _, rfl, _⟩ := h; rfl) | (obtain ⟨_, _, _, rfl, _⟩ := h; rfl) | (obtain ⟨_, _, _, _, rfl, _⟩ := h; rfl) | (obtain ⟨_, _, _, _, _, rfl, _⟩ := h; rfl) | (obtain ⟨_, _, _, _, _, _, rfl, _⟩ := h; rfl) | (obtain ⟨_, _, _, _, _, _, _, rfl, _⟩ := h; rfl) | (obtain ⟨_, _, _, _, _, _, _, _, rfl, _⟩ := h; rfl) | (obtain ⟨_, _, _, _, _, _, _, _, _, rfl, _⟩ := h; rfl) | (obtain ⟨_, _, _, _, _, _, _, _, _, _, rfl, _⟩ := h; rfl) | (obtain ⟨_, _, _, _, _, _, _, _, _, _, _, rfl, _⟩ := h; rfl) | (obtain ⟨_, _, _, _, _, _, _, _, _, _, _, _, rfl, _⟩ := h; rfl) | (obtain ⟨_, _, _, _, _, _, _, _, _, _, _, _, _, rfl, _⟩ := h; rfl) | (obtain ⟨_, _, _, _, _, _, _, _, _, _, _, _, _, _, rfl, _⟩ := h; rfl) | (obtain ⟨_, _, _, _, _, _, _, _, _, _, _, _, _, _, _, rfl, _⟩ := h; rfl)
theorem cc__law_deed (Z : Fz mg) (D : Dfs K mg) : Cal P w K mg base 2 "_law_deed" G__law_deed := cal__law_deed (k := 1) Z D.x__law_deed (cc__law_draw Z D) (cc__law_move Z D) len__law_deed d__law_deed
theorem len__law_run : ∀ ds μ Q, G__law_run ds μ Q → ds.length = 2 := by
  intro ds μ Q h
  unfold G__law_run at h
  first | (split at h <;> first | rfl | exact h.elim) | (obtain ⟨rfl, _⟩ := h; rfl) | (obtain ⟨_, rfl, _⟩ := h; rfl) | (obtain ⟨_, _, rfl, _⟩ := h; rfl) | (obtain ⟨_, _, _, rfl, _⟩ := h; rfl) | (obtain ⟨_, _, _, _, rfl, _⟩ := h; rfl) | (obtain ⟨_, _, _, _, _, rfl, _⟩ := h; rfl) | (obtain ⟨_, _, _, _, _, _, rfl, _⟩ := h; rfl) | (obtain ⟨_, _, _, _, _, _, _, rfl, _⟩ := h; rfl) | (obtain ⟨_, _, _, _, _, _, _, _, rfl, _⟩ := h; rfl) | (obtain ⟨_, _, _, _, _, _, _, _, _, rfl, _⟩ := h; rfl) | (obtain ⟨_, _, _, _, _, _, _, _, _, _, rfl, _⟩ := h; rfl) | (obtain ⟨_, _, _, _, _, _, _, _, _, _, _, rfl, _⟩ := h; rfl) | (obtain ⟨_, _, _, _, _, _, _, _, _, _, _, _, rfl, _⟩ := h; rfl) | (obtain ⟨_, _, _, _, _, _, _, _, _, _, _, _, _, rfl, _⟩ := h; rfl) | (obtain ⟨_, _, _, _, _, _, _, _, _, _, _, _, _, _, rfl, _⟩ := h; rfl) | (obtain ⟨_, _, _, _, _, _, _, _, _, _, _, _, _, _, _, rfl, _⟩ := h; rfl)
theorem cc__law_run (Z : Fz mg) (D : Dfs K mg) : Cal P w K mg base 4 "_law_run" G__law_run := cal__law_run (k := 3) Z D.x__law_run (cc__law_form Z D) ((cc__law_begun Z D).mono (by decide)) ((cc__law_base Z D).mono (by decide)) ((cc__law_draw Z D).mono (by decide)) ((cc__law_do Z D).mono (by decide)) ((cc__law_deed Z D).mono (by decide)) len__law_run d__law_run
theorem len__law_choices : ∀ ds μ Q, G__law_choices ds μ Q → ds.length = 2 := by
  intro ds μ Q h
  unfold G__law_choices at h
  first | (split at h <;> first | rfl | exact h.elim) | (obtain ⟨rfl, _⟩ := h; rfl) | (obtain ⟨_, rfl, _⟩ := h; rfl) | (obtain ⟨_, _, rfl, _⟩ := h; rfl) | (obtain ⟨_, _, _, rfl, _⟩ := h; rfl) | (obtain ⟨_, _, _, _, rfl, _⟩ := h; rfl) | (obtain ⟨_, _, _, _, _, rfl, _⟩ := h; rfl) | (obtain ⟨_, _, _, _, _, _, rfl, _⟩ := h; rfl) | (obtain ⟨_, _, _, _, _, _, _, rfl, _⟩ := h; rfl) | (obtain ⟨_, _, _, _, _, _, _, _, rfl, _⟩ := h; rfl) | (obtain ⟨_, _, _, _, _, _, _, _, _, rfl, _⟩ := h; rfl) | (obtain ⟨_, _, _, _, _, _, _, _, _, _, rfl, _⟩ := h; rfl) | (obtain ⟨_, _, _, _, _, _, _, _, _, _, _, rfl, _⟩ := h; rfl) | (obtain ⟨_, _, _, _, _, _, _, _, _, _, _, _, rfl, _⟩ := h; rfl) | (obtain ⟨_, _, _, _, _, _, _, _, _, _, _, _, _, rfl, _⟩ := h; rfl) | (obtain ⟨_, _, _, _, _, _, _, _, _, _, _, _, _, _, rfl, _⟩ := h; rfl) | (obtain ⟨_, _, _, _, _, _, _, _, _, _, _, _, _, _, _, rfl, _⟩ := h; rfl)
theorem cc__law_choices (Z : Fz mg) (D : Dfs K mg) : Cal P w K mg base 2 "_law_choices" G__law_choices := cal__law_choices (k := 1) Z D.x__law_choices (cc__law_draw Z D) len__law_choices d__law_choices
theorem len__law_wanted : ∀ ds μ Q, G__law_wanted ds μ Q → ds.length = 2 := by
  intro ds μ Q h
  unfold G__law_wanted at h
  first | (split at h <;> first | rfl | exact h.elim) | (obtain ⟨rfl, _⟩ := h; rfl) | (obtain ⟨_, rfl, _⟩ := h; rfl) | (obtain ⟨_, _, rfl, _⟩ := h; rfl) | (obtain ⟨_, _, _, rfl, _⟩ := h; rfl) | (obtain ⟨_, _, _, _, rfl, _⟩ := h; rfl) | (obtain ⟨_, _, _, _, _, rfl, _⟩ := h; rfl) | (obtain ⟨_, _, _, _, _, _, rfl, _⟩ := h; rfl) | (obtain ⟨_, _, _, _, _, _, _, rfl, _⟩ := h; rfl) | (obtain ⟨_, _, _, _, _, _, _, _, rfl, _⟩ := h; rfl) | (obtain ⟨_, _, _, _, _, _, _, _, _, rfl, _⟩ := h; rfl) | (obtain ⟨_, _, _, _, _, _, _, _, _, _, rfl, _⟩ := h; rfl) | (obtain ⟨_, _, _, _, _, _, _, _, _, _, _, rfl, _⟩ := h; rfl) | (obtain ⟨_, _, _, _, _, _, _, _, _, _, _, _, rfl, _⟩ := h; rfl) | (obtain ⟨_, _, _, _, _, _, _, _, _, _, _, _, _, rfl, _⟩ := h; rfl) | (obtain ⟨_, _, _, _, _, _, _, _, _, _, _, _, _, _, rfl, _⟩ := h; rfl) | (obtain ⟨_, _, _, _, _, _, _, _, _, _, _, _, _, _, _, rfl, _⟩ := h; rfl)
theorem cc__law_wanted (Z : Fz mg) (D : Dfs K mg) : Cal P w K mg base 2 "_law_wanted" G__law_wanted := cal__law_wanted (k := 1) Z D.x__law_wanted (cc__law_draw Z D) len__law_wanted d__law_wanted
theorem len__law_machine : ∀ ds μ Q, G__law_machine ds μ Q → ds.length = 2 := by
  intro ds μ Q h
  unfold G__law_machine at h
  first | (split at h <;> first | rfl | exact h.elim) | (obtain ⟨rfl, _⟩ := h; rfl) | (obtain ⟨_, rfl, _⟩ := h; rfl) | (obtain ⟨_, _, rfl, _⟩ := h; rfl) | (obtain ⟨_, _, _, rfl, _⟩ := h; rfl) | (obtain ⟨_, _, _, _, rfl, _⟩ := h; rfl) | (obtain ⟨_, _, _, _, _, rfl, _⟩ := h; rfl) | (obtain ⟨_, _, _, _, _, _, rfl, _⟩ := h; rfl) | (obtain ⟨_, _, _, _, _, _, _, rfl, _⟩ := h; rfl) | (obtain ⟨_, _, _, _, _, _, _, _, rfl, _⟩ := h; rfl) | (obtain ⟨_, _, _, _, _, _, _, _, _, rfl, _⟩ := h; rfl) | (obtain ⟨_, _, _, _, _, _, _, _, _, _, rfl, _⟩ := h; rfl) | (obtain ⟨_, _, _, _, _, _, _, _, _, _, _, rfl, _⟩ := h; rfl) | (obtain ⟨_, _, _, _, _, _, _, _, _, _, _, _, rfl, _⟩ := h; rfl) | (obtain ⟨_, _, _, _, _, _, _, _, _, _, _, _, _, rfl, _⟩ := h; rfl) | (obtain ⟨_, _, _, _, _, _, _, _, _, _, _, _, _, _, rfl, _⟩ := h; rfl) | (obtain ⟨_, _, _, _, _, _, _, _, _, _, _, _, _, _, _, rfl, _⟩ := h; rfl)
theorem cc__law_machine (Z : Fz mg) (D : Dfs K mg) : Cal P w K mg base 1 "_law_machine" G__law_machine := cal__law_machine (k := 0) Z D.x__law_machine  len__law_machine d__law_machine
theorem len__law_can : ∀ ds μ Q, G__law_can ds μ Q → ds.length = 2 := by
  intro ds μ Q h
  unfold G__law_can at h
  first | (split at h <;> first | rfl | exact h.elim) | (obtain ⟨rfl, _⟩ := h; rfl) | (obtain ⟨_, rfl, _⟩ := h; rfl) | (obtain ⟨_, _, rfl, _⟩ := h; rfl) | (obtain ⟨_, _, _, rfl, _⟩ := h; rfl) | (obtain ⟨_, _, _, _, rfl, _⟩ := h; rfl) | (obtain ⟨_, _, _, _, _, rfl, _⟩ := h; rfl) | (obtain ⟨_, _, _, _, _, _, rfl, _⟩ := h; rfl) | (obtain ⟨_, _, _, _, _, _, _, rfl, _⟩ := h; rfl) | (obtain ⟨_, _, _, _, _, _, _, _, rfl, _⟩ := h; rfl) | (obtain ⟨_, _, _, _, _, _, _, _, _, rfl, _⟩ := h; rfl) | (obtain ⟨_, _, _, _, _, _, _, _, _, _, rfl, _⟩ := h; rfl) | (obtain ⟨_, _, _, _, _, _, _, _, _, _, _, rfl, _⟩ := h; rfl) | (obtain ⟨_, _, _, _, _, _, _, _, _, _, _, _, rfl, _⟩ := h; rfl) | (obtain ⟨_, _, _, _, _, _, _, _, _, _, _, _, _, rfl, _⟩ := h; rfl) | (obtain ⟨_, _, _, _, _, _, _, _, _, _, _, _, _, _, rfl, _⟩ := h; rfl) | (obtain ⟨_, _, _, _, _, _, _, _, _, _, _, _, _, _, _, rfl, _⟩ := h; rfl)
theorem cc__law_can (Z : Fz mg) (D : Dfs K mg) : Cal P w K mg base 1 "_law_can" G__law_can := cal__law_can (k := 0) Z D.x__law_can  len__law_can d__law_can
theorem len__law_other_order : ∀ ds μ Q, G__law_other_order ds μ Q → ds.length = 2 := by
  intro ds μ Q h
  unfold G__law_other_order at h
  first | (split at h <;> first | rfl | exact h.elim) | (obtain ⟨rfl, _⟩ := h; rfl) | (obtain ⟨_, rfl, _⟩ := h; rfl) | (obtain ⟨_, _, rfl, _⟩ := h; rfl) | (obtain ⟨_, _, _, rfl, _⟩ := h; rfl) | (obtain ⟨_, _, _, _, rfl, _⟩ := h; rfl) | (obtain ⟨_, _, _, _, _, rfl, _⟩ := h; rfl) | (obtain ⟨_, _, _, _, _, _, rfl, _⟩ := h; rfl) | (obtain ⟨_, _, _, _, _, _, _, rfl, _⟩ := h; rfl) | (obtain ⟨_, _, _, _, _, _, _, _, rfl, _⟩ := h; rfl) | (obtain ⟨_, _, _, _, _, _, _, _, _, rfl, _⟩ := h; rfl) | (obtain ⟨_, _, _, _, _, _, _, _, _, _, rfl, _⟩ := h; rfl) | (obtain ⟨_, _, _, _, _, _, _, _, _, _, _, rfl, _⟩ := h; rfl) | (obtain ⟨_, _, _, _, _, _, _, _, _, _, _, _, rfl, _⟩ := h; rfl) | (obtain ⟨_, _, _, _, _, _, _, _, _, _, _, _, _, rfl, _⟩ := h; rfl) | (obtain ⟨_, _, _, _, _, _, _, _, _, _, _, _, _, _, rfl, _⟩ := h; rfl) | (obtain ⟨_, _, _, _, _, _, _, _, _, _, _, _, _, _, _, rfl, _⟩ := h; rfl)
theorem cc__law_other_order (Z : Fz mg) (D : Dfs K mg) : Cal P w K mg base 3 "_law_other_order" G__law_other_order := cal__law_other_order (k := 2) Z D.x__law_other_order ((cc__law_machine Z D).mono (by decide)) ((cc__law_begun Z D).mono (by decide)) ((cc__law_can Z D).mono (by decide)) (cc__law_do Z D) ((cc__law_draw Z D).mono (by decide)) len__law_other_order d__law_other_order
end
section
variable {K : PySem.W.Frag} {mg : Str → Option Value} {h : Heap}
theorem df_of (X : K.In h) (G : h.Ns mainGlobals mg) (c : He.SaysD fa fn K) {x : Str} {i : Nat} (j : Nat) (h1 : fn[j]? = some (dd x i)) (h2 : fa[j]? = some (.glo x)) : Df K mg x (top i) := by
  obtain ⟨fd, F⟩ := c.def_ j h1
  exact ⟨_, fd, F, He.glo_ok X G (c.fact j h2)⟩
theorem dfs_of (X : K.In h) (G : h.Ns mainGlobals mg) (c : He.SaysD fa fn K) : Dfs K mg where
  x_up_to := df_of X G c 0 rfl rfl
  x_floor_of := df_of X G c 1 rfl rfl
  x_next_of := df_of X G c 2 rfl rfl
  x_is_whole := df_of X G c 3 rfl rfl
  x_is_within := df_of X G c 4 rfl rfl
  x_is_word := df_of X G c 5 rfl rfl
  x_is_sign := df_of X G c 6 rfl rfl
  x_is_tuple := df_of X G c 7 rfl rfl
  x_answer := df_of X G c 8 rfl rfl
  x_waits := df_of X G c 9 rfl rfl
  x_is_plain := df_of X G c 10 rfl rfl
  x_machine_of := df_of X G c 11 rfl rfl
  x_cause_of := df_of X G c 12 rfl rfl
  x_answered := df_of X G c 13 rfl rfl
  x_can := df_of X G c 14 rfl rfl
  x_taken_out := df_of X G c 15 rfl rfl
  x_sent_out := df_of X G c 16 rfl rfl
  x_done := df_of X G c 17 rfl rfl
  x_run := df_of X G c 18 rfl rfl
  x_events_of := df_of X G c 19 rfl rfl
  x_letters_of := df_of X G c 20 rfl rfl
  x_event_number := df_of X G c 21 rfl rfl
  x_trips := df_of X G c 22 rfl rfl
  x_was_sent := df_of X G c 23 rfl rfl
  x_has_come := df_of X G c 24 rfl rfl
  x_is_whole_trip := df_of X G c 25 rfl rfl
  x_is_number := df_of X G c 26 rfl rfl
  x_is_letters := df_of X G c 27 rfl rfl
  x_crossing := df_of X G c 28 rfl rfl
  x_lowered := df_of X G c 29 rfl rfl
  x_latest := df_of X G c 30 rfl rfl
  x_wrong_place := df_of X G c 31 rfl rfl
  x_ends_at := df_of X G c 32 rfl rfl
  x_ask_line := df_of X G c 33 rfl rfl
  x_ask_right := df_of X G c 34 rfl rfl
  x_ask_rows := df_of X G c 35 rfl rfl
  x_line_asked := df_of X G c 36 rfl rfl
  x_told_of := df_of X G c 37 rfl rfl
  x_extended := df_of X G c 38 rfl rfl
  x_ask_way := df_of X G c 39 rfl rfl
  x_extended_asked := df_of X G c 40 rfl rfl
  x_first_useless := df_of X G c 41 rfl rfl
  x_place_in := df_of X G c 42 rfl rfl
  x_raised := df_of X G c 43 rfl rfl
  x_numbers_of := df_of X G c 44 rfl rfl
  x_is_form_of := df_of X G c 45 rfl rfl
  x_ask_trip := df_of X G c 46 rfl rfl
  x_numbers_asked := df_of X G c 47 rfl rfl
  x__law_feed := df_of X G c 48 rfl rfl
  x__law_draw := df_of X G c 49 rfl rfl
  x__law_rule := df_of X G c 50 rfl rfl
  x__law_form := df_of X G c 51 rfl rfl
  x__law_base := df_of X G c 52 rfl rfl
  x__law_begun := df_of X G c 53 rfl rfl
  x__law_move := df_of X G c 54 rfl rfl
  x__law_do := df_of X G c 55 rfl rfl
  x__law_deed := df_of X G c 56 rfl rfl
  x__law_run := df_of X G c 57 rfl rfl
  x__law_choices := df_of X G c 58 rfl rfl
  x__law_wanted := df_of X G c 59 rfl rfl
  x__law_machine := df_of X G c 60 rfl rfl
  x__law_can := df_of X G c 61 rfl rfl
  x__law_other_order := df_of X G c 62 rfl rfl
theorem fz_of (X : K.In h) (G : h.Ns mainGlobals mg) (c : He.SaysD fa fn K) : Fz mg where
  isinstance := He.free_ok X G (c.fact 64 (f := .free "isinstance") rfl)
  int := He.free_ok X G (c.fact 65 (f := .free "int") rfl)
  bool := He.free_ok X G (c.fact 66 (f := .free "bool") rfl)
  len := He.free_ok X G (c.fact 67 (f := .free "len") rfl)
  str := He.free_ok X G (c.fact 68 (f := .free "str") rfl)
  tuple := He.free_ok X G (c.fact 69 (f := .free "tuple") rfl)
  list := He.free_ok X G (c.fact 70 (f := .free "list") rfl)
  enumerate := He.free_ok X G (c.fact 71 (f := .free "enumerate") rfl)
  range := He.free_ok X G (c.fact 72 (f := .free "range") rfl)
  max := He.free_ok X G (c.fact 73 (f := .free "max") rfl)
  all := He.free_ok X G (c.fact 74 (f := .free "all") rfl)
  any := He.free_ok X G (c.fact 75 (f := .free "any") rfl)
  sorted := He.free_ok X G (c.fact 76 (f := .free "sorted") rfl)
  min := He.free_ok X G (c.fact 77 (f := .free "min") rfl)
  zip := He.free_ok X G (c.fact 78 (f := .free "zip") rfl)
  dict := He.free_ok X G (c.fact 79 (f := .free "dict") rfl)
  repr := He.free_ok X G (c.fact 80 (f := .free "repr") rfl)
  letters := He.str_ok X G (c.fact 81 (f := .str "LETTERS" "abcdefghijklmnopqrstuvwxyz") rfl)
  most := He.int_ok X G (c.fact 82 (f := .int "MOST_LONG" 8) rfl)
end
/-! ### the law's call, where the caller is the row's own (printed behind the join) -/
theorem law_goes {P : Program} {w : PySem.World} {K : PySem.W.Frag} {mg mb : Str → Option Value} {fa a : Addr} {s₁ : Shared} {vs : List Value} {ns : List Int}
    (KX : K.In s₁.heap) (hns : s₁.heap.Ns mainGlobals mg) (hb : s₁.heap.Ns builtinsNs mb) (hbb : ∀ x : Str, x ≠ "__name__" → mb x = bootBuiltins x) (hlim : s₁.heap.NoLimit) (hg : s₁.gens = #[])
    (ha : s₁.heap.get? a = some { cls := .type "list", data := .seq vs.toArray }) (hi : IntsAre vs ns) (hl : ns.length ≤ 63) (hno : K.lookup a = none)
    (Z : Fz mg) (DD : Dfs K mg) (F : Df K mg "law" (top 81)) (hm : mg "law" = some (.ref fa)) :
    codeAny (model P w) callerA (.call (.ref fa) ⟨[.ref a], []⟩) (fun r s' => r = .ok (.ret (.bool true)) ∧ OldK s₁.heap s'.heap ∧ s'.os = s₁.os ∧ AllBare s'.gens) s₁ := by
  obtain ⟨f, fd, FF, hf⟩ := F
  have ef : f = fa := by
    have z := hf.symm.trans hm
    simpa using z
  subst ef
  -- the script alone is known
  let H : Hp := fun b => if b = a then some (.frz { cls := .type "list", data := .seq vs.toArray } (.lst (ns.map V.int))) else none
  have Ha : H a = some (.frz { cls := .type "list", data := .seq vs.toArray } (.lst (ns.map V.int))) := if_pos rfl
  have Hn : ∀ {b : Addr}, b ≠ a → H b = none := fun h => if_neg h
  have ne_of : ∀ {b : Addr} {o : Obj} {es : Array DictEntry} {n : Nat}, s₁.heap.get? b = some o → o.data = .dict es n → b ≠ a := fun {b o es n} e d z => by
    rw [z, ha] at e
    cases e
    cases d
  have hok : HOk P w H s₁.heap := fun b u z => by
    by_cases e : b = a
    · subst e
      rw [Ha] at z
      cases z
      exact ⟨ha, by rw [List.length_map]; exact Nat.le_trans hl (by decide), vs, _, vals_ints hi, ha⟩
    · rw [Hn e] at z
      cases z
  have nsB : ∀ {b : Addr} {m : Str → Option Value}, s₁.heap.Ns b m → (hidT s₁.heap H).Ns b m := fun ⟨o, es, n, g1, g2, g3⟩ => ⟨o, es, n, hidT_get g1 (Hn (ne_of g1 g2)), g2, g3⟩
  have KB : K.In (hidT s₁.heap H) := fun b o e => hidT_get (KX b o e) (Hn fun z => by rw [z, hno] at e; cases e)
  have md : Mod K mg (hidT s₁.heap H) := ⟨KB, nsB hns, ⟨mb, nsB hb, hbb⟩, by
    obtain ⟨mc, g1, g2⟩ := hlim
    exact ⟨mc, nsB g1, g2⟩⟩
  have e0 : Env0 P w K mg (hidT s₁.heap H) callerA [] s₁ H := {
    frames := rfl
    mod := md
    bs := fun b o e => of_hidT e
    bsz := Nat.le_of_eq (hidT_size _ _)
    funs := trivial
    frf := fun b hb => by cases hb
    hok := hok
    bare := .of_eq hg }
  have room : Room 11 callerA := ⟨rfl, by decide, by decide⟩
  have hbn : BindsTo s₁ fd ⟨[.ref a], []⟩ [("_law_script", .ref a)] := FunD.bindsA (ps := ["_law_script"]) FF (fun _ _ _ _ _ _ us hl => match us, hl with | [_], _ => rfl) s₁ [.ref a] rfl
  obtain ⟨oc, od, dV, kV, doc, pm, an, cdv, ct, osl, rfl, lk, hcd, _, _⟩ := FF.ex
  -- the call
  refine codeAny_mono (R := CR CX0 [] P w H s₁ (fun v _ => v = .bl true) fun _ _ _ => False) ?_ fun r s' h => ?_
  case refine_2 =>
    cases r with
    | error e => exact False.elim h
    | ok fl =>
      cases fl with
      | next => exact False.elim h
      | brk => exact False.elim h
      | cont => exact False.elim h
      | ret u =>
        obtain ⟨v, H', hos, hbare, un, hok', rv, q⟩ := h
        have q' : v = .bl true := q
        subst q'
        have eu : u = Value.bool true := rv
        subst eu
        refine ⟨rfl, OldK.of_keep fun b o e => ?_, hos, hbare⟩
        by_cases h : b = a
        · subst h
          have z := un.frzs b _ _ Ha
          rw [ha] at e
          cases e
          exact (hok' b _ z).1
        · exact un.keep b o e (Hn h) (by intro z; cases z) (by intro z; cases z)
  refine codeAny_call_function room.depth (KX _ _ lk) rfl sc_law.co sc_law.gen rfl (PySem.W.codeRec_of KX hcd) (hbn _ _ _ _ ?_)
  refine wpAny_newFunctionEnv_cells sc_law.kind (fun ⟨n, v⟩ hy => ?_) fun env he s1 x => ?_
  · rcases sc_law.par n (List.of_mem_zip (l₁ := [("_law_script" : Str)]) (l₂ := [Value.ref a]) hy).1 with q | q
    · exact .inl q
    · exact .inr ⟨q, PySem.W.cellsFrom_some _ _ _ (.inl q)⟩
  subst he
  refine ⟨hlim.keeps x.toInCall.keep, codeAny_func ?_⟩
  have I : Inv (cxOf CX0 P w K mg (hidT s₁.heap H) N_law "law" (defScope (top 81)) f cdv callerA [] s₁ H fun _ _ _ => False) [] (start N_law [.ref a]) H s1 :=
    inv_start sc_law rfl e0 rfl (.cons rfl .nil) x
  have ms := MSs.nox (ms_law (P := P) (w := w) (K := K) (mg := mg) (base := hidT s₁.heap H) (k := 10) Z (f := f) (cdv := cdv) (A := callerA) (outer := []) (s := s₁) (H := H) (E := fun _ _ _ => False) rfl (room.deeper _) ((cc__law_feed Z DD).mono (by decide)) ((cc__law_run Z DD).mono (by decide)) ((cc__law_choices Z DD).mono (by decide)) ((cc__law_wanted Z DD).mono (by decide)) ((cc__law_other_order Z DD).mono (by decide)) ((cc_latest Z DD).mono (by decide)) ((cc_line_asked Z DD).mono (by decide)) ((cc_extended Z DD).mono (by decide)) (cc_extended_asked Z DD) ((cc_numbers_of Z DD).mono (by decide)) ((cc_numbers_asked Z DD).mono (by decide)))
  let μ : Mu := fun b => if b = a then some (.fL (ns.map D.int)) else none
  have R : Rel μ H := fun b c e => by
    by_cases h : b = a
    · subst h
      have e' : (C.fL (ns.map D.int)) = c := Option.some.inj ((if_pos rfl).symm.trans e)
      subst e'
      exact ⟨_, _, Ha, Iss.map D.int V.int (fun _ => is_int.mpr rfl) ns⟩
    · have e' : none = some c := (if_neg h).symm.trans e
      cases e'
  have bd := d_law [.ref a] μ (fun d _ => d = .bl true) ⟨a, ns, rfl, (show (if a = a then some (C.fL (ns.map D.int)) else none) = _ from if_pos rfl), hl, fun _ => rfl⟩
  refine wpAny_mono (ms.run [] s1 (start N_law [.ref a]) H { nx := fun _ _ => False, rt := fun v _ => v = .bl true } I
    ⟨_, μ, _, S.start (iss_cons.mpr ⟨_, _, rfl, is_ref.mpr rfl, iss_nil.mpr rfl⟩) R, bd,
      ⟨fun ρ' μ' σ' H' ⟨μ2, _, p⟩ _ _ => (by cases p), fun d μ' v H' ⟨μ2, _, p⟩ _ i' _ => (by subst p; exact is_bl.mp i'), fun _ _ _ _ p => p.elim, fun _ _ _ _ p => p.elim⟩⟩) (fun fl s' hs => ?_) fun e s' hs => hs
  cases fl with
  | next =>
    obtain ⟨_, _, _, q⟩ := hs
    exact False.elim q
  | brk =>
    obtain ⟨_, _, _, q⟩ := hs
    exact False.elim q
  | cont =>
    obtain ⟨_, _, _, q⟩ := hs
    exact False.elim q
  | ret u =>
    obtain ⟨v, σ', H', J, rv, q⟩ := hs
    exact ⟨v, H', J.os, J.bare, J.base, J.hok, rv, q⟩
end Cs
open PySem PySem.W PySem.Calls PyProof.Rows
theorem PySem.Challenge.cw_cutstand_k54_whole_in_any_order_holds : PySem.Challenge.rw_cutstand_k54_whole_in_any_order.Holds := by
  w_on; o_law
  refine HandSHeadRun.head_any (r := OpenLaw.row PySem.Challenge.rw_cutstand_k54_whole_in_any_order) (q := view (OpenLaw.row PySem.Challenge.rw_cutstand_k54_whole_in_any_order).prog [81]) (H := Cs.hk) (ob := Cs.ob) (M := 4000) (loose := Cs.nm0 ++ Cs.nm1 ++ Cs.nm2) (d := HandSHeadRun.topDef (OpenLaw.row PySem.Challenge.rw_cutstand_k54_whole_in_any_order).prog 81) (kwd := []) Cs.ob_eq
    (by kernel_rfl) (fun s => by kernel_rfl) Cs.run (by kernel_rfl) (by kernel_rfl) (by kernel_rfl) (by rfl) (by first | assumption | decide +kernel) (by decide +kernel) ⟨rfl, rfl, rfl, rfl, rfl, by decide +kernel⟩ ?hw ?hc
  case hw => w_witness2
  case hc =>
    refine Att.attach_call (n := 63) rfl (by kernel_rfl) fun w s₀ s₁ mg mb fa o pm cd doc a vs ns G Y ho hd hcd hmg0 hobj hints hlen hg => ?_
    obtain ⟨K, KX, c, hno⟩ := Y
    have hmg : mg ("law" : PySem.Str) = some (.ref fa) := by
      have e : (HandSHeadRun.topDef (OpenLaw.row PySem.Challenge.rw_cutstand_k54_whole_in_any_order).prog 81).name = ("law" : PySem.Str) := by kernel_rfl
      rw [← e]
      exact hmg0
    have na : K.lookup a = none := by
      cases q : K.lookup a with
      | none => rfl
      | some ob =>
        have e := KX a ob q
        rw [hobj] at e
        cases e
        exact absurd (hno a _ q) (by simp [Cs.isLst])
    exact Cs.law_goes KX G.T.g G.T.b G.T.builtins G.T.nolimit hg hobj hints hlen na (Cs.fz_of KX G.T.g c) (Cs.dfs_of KX G.T.g c) (Cs.df_of KX G.T.g c 63 rfl rfl) hmg


