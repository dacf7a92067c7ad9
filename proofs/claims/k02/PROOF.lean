import PyProof.Rows.All
import Wide.All
import OpenK.AllK
import Wide.FinOn
import PyProof.EqAt
import PyProof.EqKinds
import PyProof.TupleCall
import PyProof.ReprRoads
import HandS.ForMost
import HandS.Walk
import HandS.IsInst
import HandS.Exc
import HandS.ExcInit
import HandS.ExcField
import HandS.TryMany
import HandS.WordsExc
import HandS.Wide
import HandS.Conv
import PyProof.CallFns
import KE.GoesEnum
import HandS.Defaults
import HandS.Dict
import KE.KStateDown
import HandS.Ends
import HandS.Head0
import HandS.Head1
import HandS.Head2
import HandS.HeadEnd
import HandS.HeadHook1
import HandS.HeadHook2
import PyProof.ReprBulk
import PyProof.Rows.ReprShort
import PyProof.P3Eq
import KE.BitLaws
import PySem.Challenge.RW_beatflows_k02_bits_of_worths
set_option Elab.async false
set_option linter.all false
set_option maxRecDepth 100000
set_option maxHeartbeats 4000001
/-! The data layer: what a def does, told by data alone. D: trees of data; Mem: the lists (and dicts) that may change, by address; all else stays as it is. -/
namespace DL
open PySem PySem.Spec
open PyProof.Rows L2

/-- data: a value as it is (None, a truth, a number, a text, a thing by its address), or a list, tuple, dict that does not change any more -/
inductive D where
  | v (x : V)
  | lst (l : List D)
  | tup (l : List D)
  | dct (l : List (Key × D))
  /-- a caught exception: where it stands, where its dict, its fields -/
  | exn (a dd : Addr) (fs : List (Str × D))
abbrev D.non : D := .v .non
abbrev D.bl (b : Bool) : D := .v (.bl b)
abbrev D.int (i : Int) : D := .v (.int i)
abbrev D.str (s : Str) : D := .v (.str s)
abbrev D.ref (a : Addr) : D := .v (.ref a)

/-- what may change -/
inductive MO where
  | lst (l : List D)
  | dct (l : List (Key × D))
abbrev Mem := Addr → Option MO
def mput (M : Mem) (a : Addr) (o : MO) : Mem := fun b => if b = a then some o else M b
def mdel (M : Mem) (a : Addr) : Mem := fun b => if b = a then none else M b
theorem mput_same {M : Mem} {a : Addr} {o : MO} : mput M a o a = some o := if_pos rfl
theorem mput_ne {M : Mem} {a b : Addr} {o : MO} (h : b ≠ a) : mput M a o b = M b := if_neg h
theorem mdel_same {M : Mem} {a : Addr} : mdel M a a = none := if_pos rfl
theorem mdel_ne {M : Mem} {a b : Addr} (h : b ≠ a) : mdel M a b = M b := if_neg h
theorem mput_mput {M : Mem} {a : Addr} {o u : MO} : mput (mput M a o) a u = mput M a u := by
  funext b
  unfold mput
  split <;> rfl
theorem mdel_mput {M : Mem} {a : Addr} {o : MO} (h : M a = none) : mdel (mput M a o) a = M := by
  funext b
  unfold mdel mput
  by_cases e : b = a
  · rw [if_pos e, e, h]
  · rw [if_neg e, if_neg e]

/-- the heap without what may change -/
def off (M : Mem) (H : Hp) : Hp := fun b => match M b with
  | none => H b
  | some _ => none
theorem off_none {M : Mem} {H : Hp} {b : Addr} (h : M b = none) : off M H b = H b := by
  unfold off
  rw [h]
theorem off_some {M : Mem} {H : Hp} {b : Addr} {o : MO} (h : M b = some o) : off M H b = none := by
  unfold off
  rw [h]
theorem of_off {M : Mem} {H : Hp} {b : Addr} {o : HO} (h : off M H b = some o) : H b = some o ∧ M b = none := by
  cases e : M b with
  | some x =>
    rw [off_some e] at h
    cases h
  | none =>
    rw [off_none e] at h
    exact ⟨h, rfl⟩

/-! ### data at a value -/
mutual
def rep (K : PySem.W.Frag) (G : Hp) : D → V → Prop
  | .v x, u => u = x
  | .lst l, u => ∃ a vs, u = .ref a ∧ SqL K G a vs ∧ reps K G l vs
  | .tup l, u => ∃ a vs, u = .ref a ∧ SqT K G a vs ∧ reps K G l vs
  | .dct l, u => ∃ a kvs, u = .ref a ∧ G a = some (.dK kvs) ∧ repk K G l kvs
  | .exn a dd l, u => ∃ vs, u = .ref a ∧ G dd = some (.xd vs) ∧ repf K G l vs
def reps (K : PySem.W.Frag) (G : Hp) : List D → List V → Prop
  | [], vs => vs = []
  | d :: ds, vs => ∃ u us, vs = u :: us ∧ rep K G d u ∧ reps K G ds us
def repk (K : PySem.W.Frag) (G : Hp) : List (Key × D) → List (Key × V) → Prop
  | [], vs => vs = []
  | (k, d) :: ds, vs => ∃ u us, vs = (k, u) :: us ∧ rep K G d u ∧ repk K G ds us
def repf (K : PySem.W.Frag) (G : Hp) : List (Str × D) → List (Str × V) → Prop
  | [], vs => vs = []
  | (k, d) :: ds, vs => ∃ u us, vs = (k, u) :: us ∧ rep K G d u ∧ repf K G ds us
end
theorem sqT_same {K : PySem.W.Frag} {H H' : Hp} {a : Addr} {xs : List V} (e : Same H H') (h : SqT K H a xs) : SqT K H' a xs := by
  obtain (h | ⟨o, h⟩) | h := h
  · exact .inl (.inl (e _ _ h))
  · exact (.inl (.inr ⟨o, e _ _ h⟩))
  · exact .inr h
mutual
theorem rep_same {K : PySem.W.Frag} {G G' : Hp} (e : Same G G') : ∀ (d : D) (u : V), rep K G d u → rep K G' d u
  | .v x, u, h => h
  | .lst l, u, h => by
    obtain ⟨a, vs, h1, h2, h3⟩ := h
    exact ⟨a, vs, h1, e.seq h2, reps_same e l vs h3⟩
  | .tup l, u, h => by
    obtain ⟨a, vs, h1, h2, h3⟩ := h
    exact ⟨a, vs, h1, sqT_same e h2, reps_same e l vs h3⟩
  | .dct l, u, h => by
    obtain ⟨a, vs, h1, h2, h3⟩ := h
    exact ⟨a, vs, h1, e _ _ h2, repk_same e l vs h3⟩
  | .exn a dd l, u, h => by
    obtain ⟨vs, h1, h2, h3⟩ := h
    exact ⟨vs, h1, e _ _ h2, repf_same e l vs h3⟩
theorem reps_same {K : PySem.W.Frag} {G G' : Hp} (e : Same G G') : ∀ (l : List D) (us : List V), reps K G l us → reps K G' l us
  | [], us, h => h
  | d :: ds, us, h => by
    obtain ⟨u, r, h1, h2, h3⟩ := h
    exact ⟨u, r, h1, rep_same e d u h2, reps_same e ds r h3⟩
theorem repk_same {K : PySem.W.Frag} {G G' : Hp} (e : Same G G') : ∀ (l : List (Key × D)) (us : List (Key × V)), repk K G l us → repk K G' l us
  | [], us, h => h
  | (k, d) :: ds, us, h => by
    obtain ⟨u, r, h1, h2, h3⟩ := h
    exact ⟨u, r, h1, rep_same e d u h2, repk_same e ds r h3⟩
theorem repf_same {K : PySem.W.Frag} {G G' : Hp} (e : Same G G') : ∀ (l : List (Str × D)) (us : List (Str × V)), repf K G l us → repf K G' l us
  | [], us, h => h
  | (k, d) :: ds, us, h => by
    obtain ⟨u, r, h1, h2, h3⟩ := h
    exact ⟨u, r, h1, rep_same e d u h2, repf_same e ds r h3⟩
end
theorem reps_length {K : PySem.W.Frag} {G : Hp} : ∀ {l : List D} {us : List V}, reps K G l us → us.length = l.length
  | [], us, h => by
    cases h
    rfl
  | d :: ds, us, h => by
    obtain ⟨u, r, rfl, _, h3⟩ := h
    rw [List.length_cons, List.length_cons, reps_length h3]
theorem reps_get {K : PySem.W.Frag} {G : Hp} : ∀ {l : List D} {us : List V} {i : Nat} {d : D}, reps K G l us → l[i]? = some d → ∃ u, us[i]? = some u ∧ rep K G d u
  | [], _, i, d, _, e => by simp at e
  | x :: ds, us, 0, d, h, e => by
    obtain ⟨u, r, rfl, h2, _⟩ := h
    simp at e
    subst e
    exact ⟨u, rfl, h2⟩
  | x :: ds, us, i + 1, d, h, e => by
    obtain ⟨u, r, rfl, _, h3⟩ := h
    obtain ⟨w, e1, e2⟩ := reps_get (i := i) h3 (by simpa using e)
    exact ⟨w, by simpa using e1, e2⟩
theorem reps_append {K : PySem.W.Frag} {G : Hp} : ∀ {l m : List D} {us ws : List V}, reps K G l us → reps K G m ws → reps K G (l ++ m) (us ++ ws)
  | [], m, us, ws, h, k => by
    cases h
    exact k
  | d :: ds, m, us, ws, h, k => by
    obtain ⟨u, r, rfl, h2, h3⟩ := h
    exact ⟨u, r ++ ws, rfl, h2, reps_append h3 k⟩
theorem reps_take {K : PySem.W.Frag} {G : Hp} : ∀ {l : List D} {us : List V} (n : Nat), reps K G l us → reps K G (l.take n) (us.take n)
  | [], us, n, h => by
    cases h
    simp [reps]
  | d :: ds, us, 0, h => by simp [reps]
  | d :: ds, us, n + 1, h => by
    obtain ⟨u, r, rfl, h2, h3⟩ := h
    exact ⟨u, r.take n, rfl, h2, reps_take n h3⟩
theorem reps_drop {K : PySem.W.Frag} {G : Hp} : ∀ {l : List D} {us : List V} (n : Nat), reps K G l us → reps K G (l.drop n) (us.drop n)
  | [], us, n, h => by
    cases h
    simp [reps]
  | d :: ds, us, 0, h => h
  | d :: ds, us, n + 1, h => by
    obtain ⟨u, r, rfl, h2, h3⟩ := h
    exact reps_drop n h3
theorem reps_set {K : PySem.W.Frag} {G : Hp} {x : D} {w : V} (hx : rep K G x w) : ∀ {l : List D} {us : List V} (i : Nat), reps K G l us → reps K G (l.set i x) (us.set i w)
  | [], us, i, h => by
    cases h
    simp [reps]
  | d :: ds, us, 0, h => by
    obtain ⟨u, r, rfl, h2, h3⟩ := h
    exact ⟨w, r, rfl, hx, h3⟩
  | d :: ds, us, i + 1, h => by
    obtain ⟨u, r, rfl, h2, h3⟩ := h
    exact ⟨u, r.set i w, rfl, h2, reps_set hx i h3⟩
theorem reps_map {K : PySem.W.Frag} {G : Hp} : ∀ (vs : List V), reps K G (vs.map D.v) vs
  | [] => rfl
  | v :: vs => ⟨v, vs, rfl, rfl, reps_map vs⟩
theorem reps_vals {K : PySem.W.Frag} {G : Hp} : ∀ {vs : List V} {us : List V}, reps K G (vs.map D.v) us → us = vs
  | [], us, h => h
  | v :: vs, us, h => by
    obtain ⟨u, r, rfl, h2, h3⟩ := h
    have e : u = v := h2
    rw [e, reps_vals h3]

/-! ### the memory, the names, a step -/
def moAt (K : PySem.W.Frag) (G H : Hp) (a : Addr) : MO → Prop
  | .lst l => ∃ vs, H a = some (.lst vs) ∧ reps K G l vs
  | .dct l => ∃ kvs, H a = some (.dK kvs) ∧ repk K G l kvs
def MemOk (K : PySem.W.Frag) (M : Mem) (H : Hp) : Prop := ∀ a o, M a = some o → moAt K (off M H) H a o
/-- what has happened to the heap: what could not change stands, and what may change newly was not there -/
structure Stp (M : Mem) (H : Hp) (M' : Mem) (H' : Hp) : Prop where
  keep : ∀ b o, H b = some o → M b = none → H' b = some o
  fresh : ∀ b, M' b ≠ none → M b ≠ none ∨ H b = none
theorem Stp.refl (M : Mem) (H : Hp) : Stp M H M H := ⟨fun _ _ h _ => h, fun _ h => .inl h⟩
theorem Stp.stays {M M' : Mem} {H H' : Hp} (s : Stp M H M' H') {b : Addr} {o : HO} (h : H b = some o) (n : M b = none) : M' b = none := by
  cases e : M' b with
  | none => rfl
  | some x =>
    rcases s.fresh b (by rw [e]; simp) with z | z
    · exact absurd n z
    · rw [h] at z
      cases z
theorem Stp.trans {M M1 M2 : Mem} {H H1 H2 : Hp} (a : Stp M H M1 H1) (b : Stp M1 H1 M2 H2) : Stp M H M2 H2 := by
  refine ⟨fun c o h n => b.keep c o (a.keep c o h n) (a.stays h n), fun c h => ?_⟩
  rcases b.fresh c h with z | z
  · exact a.fresh c z
  · cases e : H c with
    | none => exact .inr rfl
    | some o =>
      left
      intro n
      rw [a.keep c o e n] at z
      cases z
theorem Stp.same {M M' : Mem} {H H' : Hp} (s : Stp M H M' H') : Same (off M H) (off M' H') := fun b o h => by
  obtain ⟨h1, h2⟩ := of_off h
  rw [off_none (s.stays h1 h2)]
  exact s.keep b o h1 h2
theorem Stp.rep {K : PySem.W.Frag} {M M' : Mem} {H H' : Hp} (s : Stp M H M' H') {d : D} {u : V} (h : rep K (off M H) d u) : rep K (off M' H') d u := rep_same s.same d u h
theorem Stp.reps {K : PySem.W.Frag} {M M' : Mem} {H H' : Hp} (s : Stp M H M' H') {d : List D} {u : List V} (h : reps K (off M H) d u) : reps K (off M' H') d u := reps_same s.same d u h

abbrev EnvD := List (Option D)
structure Rel (K : PySem.W.Frag) (env : EnvD) (M : Mem) (σ : L2.St) (H : Hp) : Prop where
  len : env.length = σ.length
  get : ∀ (i : Nat) (d : D), env[i]? = some (some d) → ∃ u, σ[i]? = some (some u) ∧ rep K (off M H) d u
  mem : MemOk K M H
theorem Rel.to {K : PySem.W.Frag} {env : EnvD} {M M' : Mem} {σ : L2.St} {H H' : Hp} (r : Rel K env M σ H) (s : Stp M H M' H') (m : MemOk K M' H') : Rel K env M' σ H' :=
  ⟨r.len, fun i d e => let ⟨u, h1, h2⟩ := r.get i d e; ⟨u, h1, s.rep h2⟩, m⟩
theorem Rel.set {K : PySem.W.Frag} {env : EnvD} {M : Mem} {σ : L2.St} {H : Hp} (r : Rel K env M σ H) (i : Nat) {d : D} {u : V} (h : rep K (off M H) d u) : Rel K (env.set i (some d)) M (σ.set i (some u)) H := by
  refine ⟨by rw [List.length_set, List.length_set, r.len], fun j e hj => ?_, r.mem⟩
  by_cases hij : i = j
  · subst hij
    by_cases hl : i < env.length
    · rw [List.getElem?_set_self hl] at hj
      cases hj
      exact ⟨u, List.getElem?_set_self (by rw [← r.len]; exact hl), h⟩
    · rw [List.getElem?_eq_none (by rw [List.length_set]; omega)] at hj
      cases hj
  · rw [List.getElem?_set_ne hij] at hj
    obtain ⟨w, h1, h2⟩ := r.get j e hj
    exact ⟨w, by rw [List.getElem?_set_ne hij]; exact h1, h2⟩
theorem Rel.unset {K : PySem.W.Frag} {env : EnvD} {M : Mem} {σ : L2.St} {H : Hp} (r : Rel K env M σ H) (i : Nat) : Rel K (env.set i none) M (σ.set i none) H := by
  refine ⟨by rw [List.length_set, List.length_set, r.len], fun j e hj => ?_, r.mem⟩
  by_cases hij : i = j
  · subst hij
    by_cases hl : i < env.length
    · rw [List.getElem?_set_self hl] at hj
      cases hj
    · rw [List.getElem?_eq_none (by rw [List.length_set]; omega)] at hj
      cases hj
  · rw [List.getElem?_set_ne hij] at hj
    obtain ⟨w, h1, h2⟩ := r.get j e hj
    exact ⟨w, by rw [List.getElem?_set_ne hij]; exact h1, h2⟩
/-- a slot forgotten by the data alone -/
theorem Rel.unsetD {K : PySem.W.Frag} {env : EnvD} {M : Mem} {σ : L2.St} {H : Hp} (r : Rel K env M σ H) (i : Nat) {x : V} (_ : True) : Rel K (env.set i none) M (σ.set i (some x)) H := by
  refine ⟨by rw [List.length_set, List.length_set, r.len], fun j e hj => ?_, r.mem⟩
  by_cases hij : i = j
  · subst hij
    by_cases hl : i < env.length
    · rw [List.getElem?_set_self hl] at hj
      cases hj
    · rw [List.getElem?_eq_none (by rw [List.length_set]; omega)] at hj
      cases hj
  · rw [List.getElem?_set_ne hij] at hj
    obtain ⟨w, h1, h2⟩ := r.get j e hj
    exact ⟨w, by rw [List.getElem?_set_ne hij]; exact h1, h2⟩

/-! ### changes of the heap -/
section
variable {K : PySem.W.Frag} {M : Mem} {H : Hp}
theorem moAt_same {G G' H' : Hp} {a : Addr} {o : MO} (e : Same G G') (k : ∀ u, H a = some u → H' a = some u) (h : moAt K G H a o) : moAt K G' H' a o := by
  cases o with
  | lst l =>
    obtain ⟨vs, h1, h2⟩ := h
    exact ⟨vs, k _ h1, reps_same e l vs h2⟩
  | dct l =>
    obtain ⟨vs, h1, h2⟩ := h
    exact ⟨vs, k _ h1, repk_same e l vs h2⟩
theorem MemOk.isSome (m : MemOk K M H) {a : Addr} {o : MO} (h : M a = some o) : H a ≠ none := by
  have q := m a o h
  cases o with
  | lst l =>
    obtain ⟨vs, h1, _⟩ := q
    rw [h1]
    simp
  | dct l =>
    obtain ⟨vs, h1, _⟩ := q
    rw [h1]
    simp
theorem MemOk.none (m : MemOk K M H) {a : Addr} (h : H a = none) : M a = none := by
  cases e : M a with
  | none => rfl
  | some o => exact absurd h (m.isSome e)
/-- a new thing that does not change -/
theorem stp_new {p : Addr} {o : HO} (hp : H p = none) : Stp M H M (upd H p o) :=
  ⟨fun b u h _ => by rw [upd_ne (ne_of_none h hp)]; exact h, fun _ h => .inl h⟩
theorem mem_new (m : MemOk K M H) {p : Addr} {o : HO} (hp : H p = none) : MemOk K M (upd H p o) := fun a u h => by
  have hne : a ≠ p := fun e => m.isSome h (by rw [e]; exact hp)
  exact moAt_same (stp_new hp).same (fun w q => by rw [upd_ne hne]; exact q) (m a u h)
/-- what grows only -/
theorem mem_grow {H' : Hp} (m : MemOk K M H) (e : Same H H') : MemOk K M H' := fun a u h => by
  refine moAt_same (fun b o z => ?_) (fun w q => e a w q) (m a u h)
  obtain ⟨z1, z2⟩ := of_off z
  rw [off_none z2]
  exact e b o z1
theorem stp_grow {H' : Hp} (e : Same H H') : Stp M H M H' := ⟨fun b o h _ => e b o h, fun _ h => .inl h⟩
/-- a new list that may change -/
theorem stp_put {p : Addr} {o : HO} {u : MO} (hp : H p = none) : Stp M H (mput M p u) (upd H p o) := by
  refine ⟨fun b w h _ => by rw [upd_ne (ne_of_none h hp)]; exact h, fun b h => ?_⟩
  by_cases e : b = p
  · right
    rw [e]
    exact hp
  · left
    rw [mput_ne e] at h
    exact h
theorem off_put (m : MemOk K M H) {p : Addr} {o : HO} {u : MO} (hp : H p = none) : off (mput M p u) (upd H p o) = off M H := by
  funext b
  by_cases e : b = p
  · subst e
    rw [off_some mput_same, off_none (m.none hp), hp]
  · unfold off
    rw [mput_ne e, upd_ne e]
theorem mem_put (m : MemOk K M H) {p : Addr} {l : List D} {vs : List V} (hp : H p = none) (r : reps K (off M H) l vs) : MemOk K (mput M p (.lst l)) (upd H p (.lst vs)) := fun a o h => by
  rw [off_put m hp]
  by_cases e : a = p
  · subst e
    rw [mput_same] at h
    cases h
    exact ⟨vs, upd_same, r⟩
  · rw [mput_ne e] at h
    exact moAt_same (fun _ _ z => z) (fun w q => by rw [upd_ne e]; exact q) (m a o h)
theorem mem_putD (m : MemOk K M H) {p : Addr} {l : List (Key × D)} {vs : List (Key × V)} (hp : H p = none) (r : repk K (off M H) l vs) : MemOk K (mput M p (.dct l)) (upd H p (.dK vs)) := fun a o h => by
  rw [off_put m hp]
  by_cases e : a = p
  · subst e
    rw [mput_same] at h
    cases h
    exact ⟨vs, upd_same, r⟩
  · rw [mput_ne e] at h
    exact moAt_same (fun _ _ z => z) (fun w q => by rw [upd_ne e]; exact q) (m a o h)
/-- what may change does -/
theorem off_upd {p : Addr} {o : HO} {u : MO} (hp : M p ≠ none) : off (mput M p u) (upd H p o) = off M H := by
  funext b
  by_cases e : b = p
  · subst e
    cases q : M b with
    | none => exact absurd q hp
    | some x => rw [off_some mput_same, off_some q]
  · unfold off
    rw [mput_ne e, upd_ne e]
theorem stp_upd {p : Addr} {o : HO} {u : MO} (hp : M p ≠ none) : Stp M H (mput M p u) (upd H p o) := by
  refine ⟨fun b w h n => ?_, fun b h => ?_⟩
  · rw [upd_ne (fun e => hp (by rw [← e]; exact n))]
    exact h
  · left
    by_cases e : b = p
    · rw [e]
      exact hp
    · rw [mput_ne e] at h
      exact h
theorem mem_upd (m : MemOk K M H) {p : Addr} {l : List D} {vs : List V} (hp : M p ≠ none) (r : reps K (off M H) l vs) : MemOk K (mput M p (.lst l)) (upd H p (.lst vs)) := fun a o h => by
  rw [off_upd hp]
  by_cases e : a = p
  · subst e
    rw [mput_same] at h
    cases h
    exact ⟨vs, upd_same, r⟩
  · rw [mput_ne e] at h
    exact moAt_same (fun _ _ z => z) (fun w q => by rw [upd_ne e]; exact q) (m a o h)
theorem mem_updD (m : MemOk K M H) {p : Addr} {l : List (Key × D)} {vs : List (Key × V)} (hp : M p ≠ none) (r : repk K (off M H) l vs) : MemOk K (mput M p (.dct l)) (upd H p (.dK vs)) := fun a o h => by
  rw [off_upd hp]
  by_cases e : a = p
  · subst e
    rw [mput_same] at h
    cases h
    exact ⟨vs, upd_same, r⟩
  · rw [mput_ne e] at h
    exact moAt_same (fun _ _ z => z) (fun w q => by rw [upd_ne e]; exact q) (m a o h)
/-- it does not change any more -/
theorem same_del {p : Addr} : Same (off M H) (off (mdel M p) H) := fun b o h => by
  obtain ⟨h1, h2⟩ := of_off h
  have e : mdel M p b = none := by
    unfold mdel
    split
    · rfl
    · exact h2
  rw [off_none e]
  exact h1
theorem stp_del {p : Addr} : Stp M H (mdel M p) H := by
  refine ⟨fun b o h _ => h, fun b h => .inl fun n => h ?_⟩
  unfold mdel
  split
  · rfl
  · exact n
theorem mem_del (m : MemOk K M H) {p : Addr} : MemOk K (mdel M p) H := fun a o h => by
  have hne : a ≠ p := fun e => by
    rw [e, mdel_same] at h
    cases h
  rw [mdel_ne hne] at h
  exact moAt_same same_del (fun _ q => q) (m a o h)
theorem rep_del (m : MemOk K M H) {p : Addr} {l : List D} (h : M p = some (.lst l)) : rep K (off (mdel M p) H) (.lst l) (.ref p) := by
  obtain ⟨vs, h1, h2⟩ := m p _ h
  refine ⟨p, vs, rfl, .inl (.inl ?_), reps_same same_del l vs h2⟩
  rw [off_none mdel_same]
  exact h1
theorem rep_delD (m : MemOk K M H) {p : Addr} {l : List (Key × D)} (h : M p = some (.dct l)) : rep K (off (mdel M p) H) (.dct l) (.ref p) := by
  obtain ⟨vs, h1, h2⟩ := m p _ h
  refine ⟨p, vs, rfl, ?_, repk_same same_del l vs h2⟩
  rw [off_none mdel_same]
  exact h1
end
end DL
set_option maxHeartbeats 4000001
namespace DL
open PySem PySem.Spec
open PyProof.Rows L2

/-! ### exceptions by data -/
structure Xn where
  cls : Value
  fs : List (Str × D)
theorem repf_look {K : PySem.W.Frag} {G : Hp} {f : Str} {d : D} : ∀ {l : List (Str × D)} {us : List (Str × V)}, repf K G l us → l.lookup f = some d → ∃ u, us.lookup f = some u ∧ rep K G d u
  | [], us, h, e => by cases e
  | (k, x) :: ds, us, h, e => by
    obtain ⟨u, r, rfl, h2, h3⟩ := h
    rw [List.lookup_cons] at e ⊢
    cases q : f == k with
    | true =>
      rw [q] at e
      cases e
      exact ⟨u, rfl, h2⟩
    | false =>
      rw [q] at e
      exact repf_look h3 e
/-- the exception's own dict holds its fields -/
def xrep (K : PySem.W.Frag) (G H : Hp) (dd : Option Addr) (fs : List (Str × D)) : Prop := match dd with
  | some d => ∃ vs, H d = some (.xd vs) ∧ repf K G fs vs
  | none => fs = []

/-! ### what is done, by data -/
abbrev QD := D → Mem → Prop
abbrev XD := Xn → Mem → Prop
abbrev DF := EnvD → Mem → QD → XD → Prop
abbrev DFs := EnvD → Mem → (List D → Mem → Prop) → XD → Prop
abbrev DFt := EnvD → Mem → (Bool → Mem → Prop) → XD → Prop
def XOk (K : PySem.W.Frag) (W : WX) (σ : L2.St) (M : Mem) (H : Hp) (E : XD) : Prop :=
  ∀ xn M' dd H', E xn M' → Stp M H M' H' → MemOk K M' H' → xrep K (off M' H') H' dd xn.fs → W xn.cls dd σ H'
theorem XOk.to {K : PySem.W.Frag} {W : WX} {σ : L2.St} {M M1 : Mem} {H H1 : Hp} {E : XD} (x : XOk K W σ M H E) (s : Stp M H M1 H1) : XOk K W σ M1 H1 E :=
  fun xn M' dd H' e s' m r => x xn M' dd H' e (s.trans s') m r
def SimE (K : PySem.W.Frag) (W : WX) (t : TE) (f : DF) : Prop :=
  ∀ (σ : L2.St) (H : Hp) (env : EnvD) (M : Mem) (Q : VK) (P : QD) (E : XD), Rel K env M σ H → f env M P E →
    (∀ d M' u H', P d M' → Stp M H M' H' → MemOk K M' H' → rep K (off M' H') d u → Q u H') → XOk K W σ M H E → t σ H Q
def SimA (K : PySem.W.Frag) (W : WX) (n : Nat) (t : TA) (f : DFs) : Prop :=
  ∀ (σ : L2.St) (H : Hp) (env : EnvD) (M : Mem) (Q : List V → Hp → Prop) (P : List D → Mem → Prop) (E : XD), Rel K env M σ H → f env M P E →
    (∀ d M' u H', P d M' → d.length = n → Stp M H M' H' → MemOk K M' H' → reps K (off M' H') d u → Q u H') → XOk K W σ M H E → t σ H Q
def SimT (K : PySem.W.Frag) (W : WX) (t : TT) (f : DFt) : Prop :=
  ∀ (σ : L2.St) (H : Hp) (env : EnvD) (M : Mem) (Q : Bool → Hp → Prop) (P : Bool → Mem → Prop) (E : XD), Rel K env M σ H → f env M P E →
    (∀ b M' H', P b M' → Stp M H M' H' → MemOk K M' H' → Q b H') → XOk K W σ M H E → t σ H Q
def DE (X : Cx) (W : WX) (e : Expr) (f : DF) : Prop := ∃ t, PE X e t ∧ SimE X.K W t f
def DA (X : Cx) (W : WX) (es : List Expr) (f : DFs) : Prop := ∃ t, PA X es t ∧ SimA X.K W es.length t f
def DT (X : Cx) (W : WX) (e : Expr) (f : DFt) : Prop := ∃ t, PT X e t ∧ SimT X.K W t f
def DW (X : Cx) (W : WX) (e : Expr) (f : DFt) : Prop := ∃ t, L2.PW X e t ∧ SimT X.K W t f

/-! ### the names, the constants, by data -/
def dVar (i : Nat) : DF := fun env M Q _ => match env[i]? with
  | some (some d) => Q d M
  | _ => False
def dC (d : D) : DF := fun _ M Q _ => Q d M
theorem sim_var {K : PySem.W.Frag} {W : WX} {i : Nat} : SimE K W (tVar i) (dVar i) := by
  intro σ H env M Q P E r h k _
  unfold dVar at h
  split at h
  · rename_i d e
    obtain ⟨u, h1, h2⟩ := r.get i d e
    exact ⟨u, h1, k d M u H h (Stp.refl _ _) r.mem h2⟩
  · exact h.elim
theorem sim_c {K : PySem.W.Frag} {W : WX} {d : D} {u : V} (h : ∀ G, rep K G d u) : SimE K W (tC u) (dC d) := by
  intro σ H env M Q P E r hp k _
  exact k d M u H hp (Stp.refl _ _) r.mem (h _)
section
variable {X : Cx} {W : WX}
theorem d_var (i : Nat) {x : Str} {pos : Pos} (hN : X.N[i]? = some x := by rfl) (hv : Vis X.env.scope x := by first | exact Or.inl rfl | exact Or.inr (Or.inl rfl) | exact Or.inr (Or.inr rfl)) (hd : (x == ("__debug__" : Str)) = false := by decide)
    (hcd : (x == ("__classdict__" : Str)) = false := by decide) : DE X W (.Name x pos) (dVar i) := ⟨_, pe_var hN hv hd hcd, sim_var⟩
theorem d_int {i j pos} : DE X W (.Constant (.int i) j pos) (dC (.int i)) := ⟨_, pe_int, sim_c fun _ => rfl⟩
theorem d_bl {b j pos} : DE X W (.Constant (.bool b) j pos) (dC (.bl b)) := ⟨_, pe_bl, sim_c fun _ => rfl⟩
theorem d_non {j pos} : DE X W (.Constant .none j pos) (dC .non) := ⟨_, pe_non, sim_c fun _ => rfl⟩
theorem d_str {x j pos} : DE X W (.Constant (.str x) j pos) (dC (.str x)) := ⟨_, pe_str, sim_c fun _ => rfl⟩
/-- a name of the module -/
theorem d_glob {x : Str} {d : D} {v : V} {u : Value} {pos : Pos} (hm : X.mg x = some u) (r : RelV v u) (hr : ∀ G, rep X.K G d v) (hg : Gl X x := by rfl) (hd : (x == ("__debug__" : Str)) = false := by decide) : DE X W (.Name x pos) (dC d) :=
  ⟨_, pe_glob hg hm r hd, sim_c hr⟩
/-- a built-in type as a value -/
theorem d_ty {x : Str} {n : String} {pos : Pos} (hm : X.mg x = none) (hv : bootBuiltins x = some (.type n)) (hg : Gl X x := by rfl) (hn : x ≠ "__name__" := by decide) (hd : (x == ("__debug__" : Str)) = false := by decide) : DE X W (.Name x pos) (dC (.v (.ty n))) :=
  ⟨_, pe_bltn (v := .ty n) hg hm hv rfl hn hd, sim_c fun _ => rfl⟩
end

/-! ### arguments, displays -/
def dNil : DFs := fun _ M Q _ => Q [] M
def dCons (f : DF) (g : DFs) : DFs := fun env M Q E => f env M (fun d M1 => g env M1 (fun ds M2 => Q (d :: ds) M2) E) E
def dTup (f : DFs) : DF := fun env M Q E => f env M (fun ds M1 => ds.length ≤ 1000 ∧ Q (.tup ds) M1) E
def dLstF (f : DFs) : DF := fun env M Q E => f env M (fun ds M1 => ds.length ≤ 1000 ∧ Q (.lst ds) M1) E
def dLst (f : DFs) : DF := fun env M Q E => f env M (fun ds M1 => ds.length ≤ 1000 ∧ ∀ a, M1 a = none → Q (.ref a) (mput M1 a (.lst ds))) E
section
variable {K : PySem.W.Frag} {W : WX} {te : TE} {ta : TA} {f : DF} {g : DFs}
theorem line1000 {n : Nat} (h : n ≤ 1000) : n ≤ sizeLine := Nat.le_of_lt (small1000 h)
theorem sim_nil : SimA K W 0 tNil dNil := fun σ H env M Q P E r h k _ => k [] M [] H h rfl (Stp.refl _ _) r.mem rfl
theorem sim_cons {n : Nat} (h1 : SimE K W te f) (h2 : SimA K W n ta g) : SimA K W (n + 1) (tCons te ta) (dCons f g) := by
  intro σ H env M Q P E r h k x
  refine h1 σ H env M _ _ E r h (fun d M1 u H1 p1 s1 m1 r1 => ?_) x
  refine h2 σ H1 env M1 _ _ E (r.to s1 m1) p1 (fun ds M2 us H2 p2 l2 s2 m2 r2 => ?_) (x.to s1)
  exact k _ M2 _ H2 p2 (congrArg Nat.succ l2) (s1.trans s2) m2 ⟨u, us, rfl, s2.rep r1, r2⟩
theorem sim_tup {n : Nat} (h1 : SimA K W n ta g) : SimE K W (tTup ta) (dTup g) := by
  intro σ H env M Q P E r h k x
  refine h1 σ H env M _ _ E r h (fun ds M1 us H1 p1 l1 s1 m1 r1 => ?_) x
  refine ⟨line1000 (by rw [reps_length r1]; exact p1.1), fun p hp => ?_⟩
  have s2 : Stp M1 H1 M1 (upd H1 p (.tup us)) := stp_new hp
  refine k _ M1 _ _ p1.2 (s1.trans s2) (mem_new m1 hp) ⟨p, us, rfl, .inl (.inl ?_), s2.reps r1⟩
  rw [off_none (m1.none hp)]
  exact upd_same
theorem sim_lstF {n : Nat} (h1 : SimA K W n ta g) : SimE K W (tLst ta) (dLstF g) := by
  intro σ H env M Q P E r h k x
  refine h1 σ H env M _ _ E r h (fun ds M1 us H1 p1 l1 s1 m1 r1 => ?_) x
  refine ⟨line1000 (by rw [reps_length r1]; exact p1.1), fun p hp => ?_⟩
  have s2 : Stp M1 H1 M1 (upd H1 p (.lst us)) := stp_new hp
  refine k _ M1 _ _ p1.2 (s1.trans s2) (mem_new m1 hp) ⟨p, us, rfl, .inl (.inl ?_), s2.reps r1⟩
  rw [off_none (m1.none hp)]
  exact upd_same
theorem sim_lst {n : Nat} (h1 : SimA K W n ta g) : SimE K W (tLst ta) (dLst g) := by
  intro σ H env M Q P E r h k x
  refine h1 σ H env M _ _ E r h (fun ds M1 us H1 p1 l1 s1 m1 r1 => ?_) x
  refine ⟨line1000 (by rw [reps_length r1]; exact p1.1), fun p hp => ?_⟩
  exact k _ _ _ _ (p1.2 p (m1.none hp)) (s1.trans (stp_put hp)) (mem_put m1 hp r1) rfl
end
section
variable {X : Cx} {W : WX} {f : DF} {g : DFs} {e : Expr} {es : List Expr} {pos : Pos}
theorem da_nil : DA X W [] dNil := ⟨_, pa_nil, sim_nil⟩
theorem da_cons (h1 : DE X W e f) (h2 : DA X W es g) (hs : starEach (e :: es) X.env = (false, eval e X.env) :: starEach es X.env := by rfl) : DA X W (e :: es) (dCons f g) :=
  let ⟨_, p1, s1⟩ := h1
  let ⟨_, p2, s2⟩ := h2
  ⟨_, pa_cons p1 p2 hs, sim_cons s1 s2⟩
theorem d_tup {x1} (h : DA X W es g) : DE X W (.Tuple es x1 pos) (dTup g) := let ⟨_, p, s⟩ := h; ⟨_, pe_tup p, sim_tup s⟩
theorem d_lstF (h : DA X W es g) : DE X W (.List es pos) (dLstF g) := let ⟨_, p, s⟩ := h; ⟨_, pe_lst p, sim_lstF s⟩
theorem d_lst (h : DA X W es g) : DE X W (.List es pos) (dLst g) := let ⟨_, p, s⟩ := h; ⟨_, pe_lst p, sim_lst s⟩
end

/-! ### operators by values -/
abbrev G2 := D → D → Mem → QD → Prop
def Sim2 (K : PySem.W.Frag) (r : R2) (g : G2) : Prop :=
  ∀ (x y : D) (u w : V) (M : Mem) (H : Hp) (Q : VK) (P : QD), MemOk K M H → rep K (off M H) x u → rep K (off M H) y w → g x y M P →
    (∀ d M' z H', P d M' → Stp M H M' H' → MemOk K M' H' → rep K (off M' H') d z → Q z H') → r u w H Q
def dOp (g : G2) (a b : DF) : DF := fun env M Q E => a env M (fun x M1 => b env M1 (fun y M2 => g x y M2 Q) E) E
theorem sim_op {K : PySem.W.Frag} {W : WX} {r : R2} {g : G2} {ta tb : TE} {a b : DF} (hr : Sim2 K r g) (h1 : SimE K W ta a) (h2 : SimE K W tb b) : SimE K W (tOp r ta tb) (dOp g a b) := by
  intro σ H env M Q P E rl h k x
  refine h1 σ H env M _ _ E rl h (fun d M1 u H1 p1 s1 m1 r1 => ?_) x
  refine h2 σ H1 env M1 _ _ E (rl.to s1 m1) p1 (fun d2 M2 w H2 p2 s2 m2 r2 => ?_) (x.to s1)
  exact hr d d2 u w M2 H2 _ P m2 (s2.rep r1) r2 p2 fun d3 M3 z H3 p3 s3 m3 r3 => k d3 M3 z H3 p3 ((s1.trans s2).trans s3) m3 r3
/-- two numbers -/
def gI (C : Int → Int → Prop) (h : Int → Int → V) : G2 := fun x y M Q => match x, y with
  | .v (.int i), .v (.int j) => C i j ∧ Q (.v (h i j)) M
  | _, _ => False
def gI0 (h : Int → Int → V) : G2 := fun x y M Q => match x, y with
  | .v (.int i), .v (.int j) => Q (.v (h i j)) M
  | _, _ => False
theorem sim_I {K : PySem.W.Frag} {C : Int → Int → Prop} {h : Int → Int → V} : Sim2 K (rI C h) (gI C h) := by
  intro x y u w M H Q P m rx ry hg k
  unfold gI at hg
  split at hg
  · rename_i i j
    exact ⟨i, j, rx, ry, hg.1, k _ M _ H hg.2 (Stp.refl _ _) m rfl⟩
  · exact hg.elim
theorem sim_I0 {K : PySem.W.Frag} {h : Int → Int → V} : Sim2 K (rI0 h) (gI0 h) := by
  intro x y u w M H Q P m rx ry hg k
  unfold gI0 at hg
  split at hg
  · rename_i i j
    exact ⟨i, j, rx, ry, k _ M _ H hg (Stp.refl _ _) m rfl⟩
  · exact hg.elim
section
variable {X : Cx} {W : WX} {a b : Expr} {f g : DF} {pos : Pos} {r : R2} {h : G2} {C : Int → Int → Prop} {hh : Int → Int → V}
theorem d_op {op : Operator} (ho : OpR X (binaryOp op) r) (hs : Sim2 X.K r h) (h1 : DE X W a f) (h2 : DE X W b g) : DE X W (.BinOp a op b pos) (dOp h f g) :=
  let ⟨_, p1, s1⟩ := h1
  let ⟨_, p2, s2⟩ := h2
  ⟨_, pe_op ho p1 p2, sim_op hs s1 s2⟩
theorem d_cmp {op : CmpOp} (ho : OpR X (compareOp op) r) (hs : Sim2 X.K r h) (h1 : DE X W a f) (h2 : DE X W b g) (hm : behindInMarks op b = false := by first | exact nomark _ | rfl) : DE X W (.Compare a [op] [b] pos) (dOp h f g) :=
  let ⟨_, p1, s1⟩ := h1
  let ⟨_, p2, s2⟩ := h2
  ⟨_, pe_cmpR ho p1 p2 hm, sim_op hs s1 s2⟩
theorem d_add (h1 : DE X W a f) (h2 : DE X W b g) : DE X W (.BinOp a .Add b pos) (dOp (gI0 fun i j => .int (i + j)) f g) := d_op op_add sim_I0 h1 h2
theorem d_sub (h1 : DE X W a f) (h2 : DE X W b g) : DE X W (.BinOp a .Sub b pos) (dOp (gI0 fun i j => .int (i - j)) f g) := d_op op_sub sim_I0 h1 h2
theorem d_mul (h1 : DE X W a f) (h2 : DE X W b g) : DE X W (.BinOp a .Mult b pos) (dOp (gI CMul fun i j => .int (i * j)) f g) := d_op op_mul sim_I h1 h2
theorem d_div (h1 : DE X W a f) (h2 : DE X W b g) : DE X W (.BinOp a .FloorDiv b pos) (dOp (gI CDiv fun i j => .int (i / j)) f g) := d_op op_fdiv sim_I h1 h2
theorem d_mod (h1 : DE X W a f) (h2 : DE X W b g) : DE X W (.BinOp a .Mod b pos) (dOp (gI (fun _ j => 0 < j) fun i j => .int (i % j)) f g) := d_op op_mod sim_I h1 h2
theorem d_pow (h1 : DE X W a f) (h2 : DE X W b g) : DE X W (.BinOp a .Pow b pos) (dOp (gI CPow fun i j => .int (i ^ j.toNat)) f g) := d_op op_pow sim_I h1 h2
theorem d_shl (h1 : DE X W a f) (h2 : DE X W b g) : DE X W (.BinOp a .LShift b pos) (dOp (gI CPow fun i j => .int (i * 2 ^ j.toNat)) f g) := d_op op_shl sim_I h1 h2
theorem d_shr (h1 : DE X W a f) (h2 : DE X W b g) : DE X W (.BinOp a .RShift b pos) (dOp (gI (fun _ j => 0 ≤ j) fun i j => .int (i / 2 ^ j.toNat)) f g) := d_op op_shr sim_I h1 h2
theorem d_and (h1 : DE X W a f) (h2 : DE X W b g) : DE X W (.BinOp a .BitAnd b pos) (dOp (gI0 fun i j => .int (Builtin.bitAnd i j)) f g) := d_op op_and sim_I0 h1 h2
theorem d_or (h1 : DE X W a f) (h2 : DE X W b g) : DE X W (.BinOp a .BitOr b pos) (dOp (gI0 fun i j => .int (Builtin.bitOr i j)) f g) := d_op op_or sim_I0 h1 h2
theorem d_xor (h1 : DE X W a f) (h2 : DE X W b g) : DE X W (.BinOp a .BitXor b pos) (dOp (gI0 fun i j => .int (Builtin.bitXor i j)) f g) := d_op op_xor sim_I0 h1 h2
theorem d_lt (h1 : DE X W a f) (h2 : DE X W b g) : DE X W (.Compare a [.Lt] [b] pos) (dOp (gI0 fun i j => .bl (decide (i < j))) f g) := d_cmp op_lt sim_I0 h1 h2
theorem d_le (h1 : DE X W a f) (h2 : DE X W b g) : DE X W (.Compare a [.LtE] [b] pos) (dOp (gI0 fun i j => .bl (decide (i ≤ j))) f g) := d_cmp op_le sim_I0 h1 h2
theorem d_gt (h1 : DE X W a f) (h2 : DE X W b g) : DE X W (.Compare a [.Gt] [b] pos) (dOp (gI0 fun i j => .bl (decide (j < i))) f g) := d_cmp op_gt sim_I0 h1 h2
theorem d_ge (h1 : DE X W a f) (h2 : DE X W b g) : DE X W (.Compare a [.GtE] [b] pos) (dOp (gI0 fun i j => .bl (decide (j ≤ i))) f g) := d_cmp op_ge sim_I0 h1 h2
end

/-! ### truths: by both ways -/
def bsel (b : Bool) (A B : Prop) : Prop := (b = true → A) ∧ (b = false → B)
theorem bsel.ite {b : Bool} {A B : Prop} (h : bsel b A B) : if b = true then A else B := by
  cases b with
  | true => exact iteT (h.1 rfl)
  | false => exact iteF (h.2 rfl)
def asB (d : D) (P : Bool → Prop) : Prop := match d with
  | .v (.bl b) => P b
  | _ => False
/-- a < b < c -/
def dChain (g1 g2 : G2) (a b c : DF) : DF := fun env M Q E => a env M (fun x M1 => b env M1 (fun y M2 => g1 x y M2 (fun z M3 => asB z fun k => bsel k (c env M3 (fun w M4 => g2 y w M4 Q) E) (Q (.bl false) M3))) E) E
def dAnd (a b : DF) : DF := fun env M Q E => a env M (fun x M1 => asB x fun k => bsel k (b env M1 Q E) (Q (.bl false) M1)) E
def dOr (a b : DF) : DF := fun env M Q E => a env M (fun x M1 => asB x fun k => bsel k (Q (.bl true) M1) (b env M1 Q E)) E
def dNot (a : DF) : DF := fun env M Q E => a env M (fun x M1 => asB x fun k => Q (.bl (!k)) M1) E
def dIf (c : DFt) (a b : DF) : DF := fun env M Q E => c env M (fun k M1 => bsel k (a env M1 Q E) (b env M1 Q E)) E
def dVal (a : DF) : DFt := fun env M Q E => a env M (fun x M1 => asB x fun k => Q k M1) E
def dAndT (a b : DFt) : DFt := fun env M Q E => a env M (fun k M1 => bsel k (b env M1 Q E) (Q false M1)) E
def dOrT (a b : DFt) : DFt := fun env M Q E => a env M (fun k M1 => bsel k (Q true M1) (b env M1 Q E)) E
def dNotT (a : DFt) : DFt := fun env M Q E => a env M (fun k M1 => Q (!k) M1) E
theorem of_asB {d : D} {P : Bool → Prop} (h : asB d P) : ∃ b, d = .bl b ∧ P b := by
  unfold asB at h
  split at h
  · exact ⟨_, rfl, h⟩
  · exact h.elim
section
variable {K : PySem.W.Frag} {W : WX} {ta tb tc : TE} {ua ub : TT} {a b c : DF} {p q : DFt} {r r' : R2} {g g' : G2}
theorem sim_chain (hr : Sim2 K r g) (hr' : Sim2 K r' g') (h1 : SimE K W ta a) (h2 : SimE K W tb b) (h3 : SimE K W tc c) : SimE K W (tChain r r' ta tb tc) (dChain g g' a b c) := by
  intro σ H env M Q P E rl h k x
  refine h1 σ H env M _ _ E rl h (fun d M1 u H1 p1 s1 m1 r1 => ?_) x
  refine h2 σ H1 env M1 _ _ E (rl.to s1 m1) p1 (fun d2 M2 w H2 p2 s2 m2 r2 => ?_) (x.to s1)
  refine hr d d2 u w M2 H2 _ _ m2 (s2.rep r1) r2 p2 fun d3 M3 z H3 p3 s3 m3 r3 => ?_
  obtain ⟨bb, rfl, hb⟩ := of_asB p3
  have s123 := (s1.trans s2).trans s3
  refine ⟨bb, r3, ?_⟩
  cases bb with
  | true =>
    refine iteT (h3 σ H3 env M3 _ _ E (rl.to s123 m3) (hb.1 rfl) (fun d4 M4 w4 H4 p4 s4 m4 r4 => ?_) (x.to s123))
    exact hr' d2 d4 w w4 M4 H4 _ P m4 (s4.rep (s3.rep r2)) r4 p4 fun d5 M5 z5 H5 p5 s5 m5 r5 => k d5 M5 z5 H5 p5 ((s123.trans s4).trans s5) m5 r5
  | false => exact iteF (k _ M3 _ H3 (hb.2 rfl) s123 m3 rfl)
theorem sim_and (h1 : SimE K W ta a) (h2 : SimE K W tb b) : SimE K W (tAndV ta tb) (dAnd a b) := by
  intro σ H env M Q P E rl h k x
  refine h1 σ H env M _ _ E rl h (fun d M1 u H1 p1 s1 m1 r1 => ?_) x
  obtain ⟨bb, rfl, hb⟩ := of_asB p1
  refine ⟨bb, r1, ?_⟩
  cases bb with
  | true => exact iteT (h2 σ H1 env M1 _ _ E (rl.to s1 m1) (hb.1 rfl) (fun d2 M2 w H2 p2 s2 m2 r2 => k d2 M2 w H2 p2 (s1.trans s2) m2 r2) (x.to s1))
  | false => exact iteF (k _ M1 _ H1 (hb.2 rfl) s1 m1 rfl)
theorem sim_or (h1 : SimE K W ta a) (h2 : SimE K W tb b) : SimE K W (tOrV ta tb) (dOr a b) := by
  intro σ H env M Q P E rl h k x
  refine h1 σ H env M _ _ E rl h (fun d M1 u H1 p1 s1 m1 r1 => ?_) x
  obtain ⟨bb, rfl, hb⟩ := of_asB p1
  refine ⟨bb, r1, ?_⟩
  cases bb with
  | false => exact iteF (h2 σ H1 env M1 _ _ E (rl.to s1 m1) (hb.2 rfl) (fun d2 M2 w H2 p2 s2 m2 r2 => k d2 M2 w H2 p2 (s1.trans s2) m2 r2) (x.to s1))
  | true => exact iteT (k _ M1 _ H1 (hb.1 rfl) s1 m1 rfl)
theorem sim_not (h1 : SimE K W ta a) : SimE K W (tNotV ta) (dNot a) := by
  intro σ H env M Q P E rl h k x
  refine h1 σ H env M _ _ E rl h (fun d M1 u H1 p1 s1 m1 r1 => ?_) x
  obtain ⟨bb, rfl, hb⟩ := of_asB p1
  exact ⟨bb, r1, k _ M1 _ H1 hb s1 m1 rfl⟩
theorem sim_if (h0 : SimT K W ua p) (h1 : SimE K W ta a) (h2 : SimE K W tb b) : SimE K W (tIf ua ta tb) (dIf p a b) := by
  intro σ H env M Q P E rl h k x
  refine h0 σ H env M _ _ E rl h (fun bb M1 H1 p1 s1 m1 => ?_) x
  cases bb with
  | true => exact iteT (h1 σ H1 env M1 _ _ E (rl.to s1 m1) (p1.1 rfl) (fun d2 M2 w H2 p2 s2 m2 r2 => k d2 M2 w H2 p2 (s1.trans s2) m2 r2) (x.to s1))
  | false => exact iteF (h2 σ H1 env M1 _ _ E (rl.to s1 m1) (p1.2 rfl) (fun d2 M2 w H2 p2 s2 m2 r2 => k d2 M2 w H2 p2 (s1.trans s2) m2 r2) (x.to s1))
theorem sim_val (h1 : SimE K W ta a) : SimT K W (tB ta) (dVal a) := by
  intro σ H env M Q P E rl h k x
  refine h1 σ H env M _ _ E rl h (fun d M1 u H1 p1 s1 m1 r1 => ?_) x
  obtain ⟨bb, rfl, hb⟩ := of_asB p1
  exact ⟨bb, r1, k bb M1 H1 hb s1 m1⟩
theorem sim_test (h1 : SimE K W ta a) : SimT K W (tTest ta) (dVal a) := sim_val h1
theorem sim_andT (h1 : SimT K W ua p) (h2 : SimT K W ub q) : SimT K W (tAnd ua ub) (dAndT p q) := by
  intro σ H env M Q P E rl h k x
  refine h1 σ H env M _ _ E rl h (fun bb M1 H1 p1 s1 m1 => ?_) x
  cases bb with
  | true => exact iteT (h2 σ H1 env M1 _ _ E (rl.to s1 m1) (p1.1 rfl) (fun d2 M2 H2 p2 s2 m2 => k d2 M2 H2 p2 (s1.trans s2) m2) (x.to s1))
  | false => exact iteF (k _ M1 H1 (p1.2 rfl) s1 m1)
theorem sim_orT (h1 : SimT K W ua p) (h2 : SimT K W ub q) : SimT K W (tOr ua ub) (dOrT p q) := by
  intro σ H env M Q P E rl h k x
  refine h1 σ H env M _ _ E rl h (fun bb M1 H1 p1 s1 m1 => ?_) x
  cases bb with
  | false => exact iteF (h2 σ H1 env M1 _ _ E (rl.to s1 m1) (p1.2 rfl) (fun d2 M2 H2 p2 s2 m2 => k d2 M2 H2 p2 (s1.trans s2) m2) (x.to s1))
  | true => exact iteT (k _ M1 H1 (p1.1 rfl) s1 m1)
theorem sim_notT (h1 : SimT K W ua p) : SimT K W (tNot ua) (dNotT p) := by
  intro σ H env M Q P E rl h k x
  exact h1 σ H env M _ _ E rl h (fun bb M1 H1 p1 s1 m1 => k _ M1 H1 p1 s1 m1) x
end
section
variable {X : Cx} {W : WX} {a b c : Expr} {rest : List Expr} {f g h : DF} {p q : DFt} {pos : Pos} {r r' : R2} {j j' : G2}
theorem d_chain {op op' : CmpOp} (ho : OpR X (compareOp op) r) (ho' : OpR X (compareOp op') r') (hs : Sim2 X.K r j) (hs' : Sim2 X.K r' j') (h1 : DE X W a f) (h2 : DE X W b g) (h3 : DE X W c h) (hm : lastMarks [op, op'] [b, c] = false := by rfl) : DE X W (.Compare a [op, op'] [b, c] pos) (dChain j j' f g h) :=
  let ⟨_, p1, s1⟩ := h1
  let ⟨_, p2, s2⟩ := h2
  let ⟨_, p3, s3⟩ := h3
  ⟨_, pe_chain ho ho' p1 p2 p3 hm, sim_chain hs hs' s1 s2 s3⟩
theorem d_leLe (h1 : DE X W a f) (h2 : DE X W b g) (h3 : DE X W c h) (hm : lastMarks [.LtE, .LtE] [b, c] = false := by rfl) : DE X W (.Compare a [.LtE, .LtE] [b, c] pos) (dChain (gI0 fun i j => .bl (decide (i ≤ j))) (gI0 fun i j => .bl (decide (i ≤ j))) f g h) := d_chain op_le op_le sim_I0 sim_I0 h1 h2 h3 hm
theorem d_one {op} (h1 : DE X W a f) : DE X W (.BoolOp op [a] pos) f := let ⟨_, p1, s1⟩ := h1; ⟨_, pe_one p1, s1⟩
theorem d_andV (h1 : DE X W a f) (h2 : DE X W (.BoolOp .And (b :: rest) pos) g) : DE X W (.BoolOp .And (a :: b :: rest) pos) (dAnd f g) :=
  let ⟨_, p1, s1⟩ := h1
  let ⟨_, p2, s2⟩ := h2
  ⟨_, pe_and p1 p2, sim_and s1 s2⟩
theorem d_orV (h1 : DE X W a f) (h2 : DE X W (.BoolOp .Or (b :: rest) pos) g) : DE X W (.BoolOp .Or (a :: b :: rest) pos) (dOr f g) :=
  let ⟨_, p1, s1⟩ := h1
  let ⟨_, p2, s2⟩ := h2
  ⟨_, pe_or p1 p2, sim_or s1 s2⟩
theorem d_notV (h1 : DE X W a f) : DE X W (.UnaryOp .Not a pos) (dNot f) := let ⟨_, p1, s1⟩ := h1; ⟨_, pe_not p1, sim_not s1⟩
theorem d_ifE (h0 : DT X W c p) (h1 : DE X W a f) (h2 : DE X W b g) : DE X W (.IfExp c a b pos) (dIf p f g) :=
  let ⟨_, p0, s0⟩ := h0
  let ⟨_, p1, s1⟩ := h1
  let ⟨_, p2, s2⟩ := h2
  ⟨_, pe_ifExp p0 p1 p2, sim_if s0 s1 s2⟩
/-- tests -/
theorem dt_val (h1 : DE X W a f) (he : ∀ whole, isTrue a X.env whole = (do let v ← whole; standAt a.pos; holding [v] (truthy v)) := by intro _; rfl) : DT X W a (dVal f) := let ⟨_, p1, s1⟩ := h1; ⟨_, pt_val p1 he, sim_val s1⟩
theorem dt_cmp {op : CmpOp} (ho : OpR X (compareOp op) r) (hs : Sim2 X.K r j) (h1 : DE X W a f) (h2 : DE X W b g) (hm : behindInMarks op b = false := by first | exact nomark _ | rfl) : DT X W (.Compare a [op] [b] pos) (dVal (dOp j f g)) :=
  let ⟨_, p1, s1⟩ := h1
  let ⟨_, p2, s2⟩ := h2
  ⟨_, pt_cmpR ho p1 p2 hm, sim_test (sim_op hs s1 s2)⟩
theorem dt_chain {op op' : CmpOp} (ho : OpR X (compareOp op) r) (ho' : OpR X (compareOp op') r') (hs : Sim2 X.K r j) (hs' : Sim2 X.K r' j') (h1 : DE X W a f) (h2 : DE X W b g) (h3 : DE X W c h) (hm : lastMarks [op, op'] [b, c] = false := by rfl) : DT X W (.Compare a [op, op'] [b, c] pos) (dVal (dChain j j' f g h)) :=
  let ⟨_, p1, s1⟩ := h1
  let ⟨_, p2, s2⟩ := h2
  let ⟨_, p3, s3⟩ := h3
  ⟨_, pt_chain ho ho' p1 p2 p3 hm, sim_test (sim_chain hs hs' s1 s2 s3)⟩
theorem dt_w (h1 : DW X W a p) : DT X W a p := let ⟨_, p1, s1⟩ := h1; ⟨_, p1.pt, s1⟩
theorem dw_and1 (h1 : DT X W a p) : DW X W (.BoolOp .And [a] pos) p := let ⟨_, p1, s1⟩ := h1; ⟨_, pw_and1 p1, s1⟩
theorem dw_or1 (h1 : DT X W a p) : DW X W (.BoolOp .Or [a] pos) p := let ⟨_, p1, s1⟩ := h1; ⟨_, pw_or1 p1, s1⟩
theorem dw_and (h1 : DT X W a p) (h2 : DW X W (.BoolOp .And (b :: rest) pos) q) : DW X W (.BoolOp .And (a :: b :: rest) pos) (dAndT p q) :=
  let ⟨_, p1, s1⟩ := h1
  let ⟨_, p2, s2⟩ := h2
  ⟨_, pw_and p1 p2, sim_andT s1 s2⟩
theorem dw_or (h1 : DT X W a p) (h2 : DW X W (.BoolOp .Or (b :: rest) pos) q) : DW X W (.BoolOp .Or (a :: b :: rest) pos) (dOrT p q) :=
  let ⟨_, p1, s1⟩ := h1
  let ⟨_, p2, s2⟩ := h2
  ⟨_, pw_or p1 p2, sim_orT s1 s2⟩
theorem dt_not (h1 : DT X W a p) : DT X W (.UnaryOp .Not a pos) (dNotT p) := let ⟨_, p1, s1⟩ := h1; ⟨_, pt_not p1, sim_notT s1⟩
end
end DL
set_option maxHeartbeats 4000001
namespace DL
open PySem PySem.Spec
open PyProof.Rows L2

/-! ### things read at any depth -/
mutual
inductive Rp (K : PySem.W.Frag) (H : Hp) : V → PyData → Prop
  | non : Rp K H .non .none
  | bl (b : Bool) : Rp K H (.bl b) (.bool b)
  | int (i : Int) : Rp K H (.int i) (.int i)
  | str (x : Str) : Rp K H (.str x) (.str x)
  | lst {a : Addr} {xs : List V} {ds : List PyData} : SqL K H a xs → RpAll K H xs ds → Rp K H (.ref a) (.list ds)
  | tup {a : Addr} {xs : List V} {ds : List PyData} : SqT K H a xs → RpAll K H xs ds → Rp K H (.ref a) (.tuple ds)
  | dct {a : Addr} : H a = some (.dK []) → Rp K H (.ref a) (.dict [])
inductive RpAll (K : PySem.W.Frag) (H : Hp) : List V → List PyData → Prop
  | nil : RpAll K H [] []
  | cons {v : V} {vs : List V} {d : PyData} {ds : List PyData} : Rp K H v d → RpAll K H vs ds → RpAll K H (v :: vs) (d :: ds)
end
/-- the modules' dict stands ahead of all -/
def Sys (base : Heap) : Prop := ∃ mm, base.Ns sysModules mm
section
variable {X : Cx} {pins : List (Addr × Obj)}
variable {σ : L2.St} {H : Hp} {s : Shared}
theorem sys_ne (S : Sys X.base) (I : Inv X pins σ H s) {a : Addr} {o : HO} (h : H a = some o) : a ≠ sysModules := fun e => by
  obtain ⟨mm, ob, es, ep, ho, _⟩ := S
  have q := (I.bs _ _ ho).2
  rw [← e, h] at q
  cases q
theorem sys_rd (S : Sys X.base) (I : Inv X pins σ H s) {a : Addr} {u : HO} (h : Rd H a u) : a ≠ sysModules := by
  rcases h with h | ⟨o, h⟩
  · exact sys_ne S I h
  · exact sys_ne S I h
theorem sys_sq (S : Sys X.base) (I : Inv X pins σ H s) {a : Addr} {xs : List V} (h : SqL X.K H a xs) : a ≠ sysModules := by
  obtain h | ⟨o, its, n, hk, hc, hd, hs, hz, r⟩ := h
  · exact sys_rd S I h
  · intro e
    obtain ⟨mm, ob, es, ep, ho, hdat, _⟩ := S
    have q := I.ok.mod.kin a o hk
    rw [e, ho] at q
    cases q
    rw [hdat] at hs
    cases hs
mutual
theorem Rp.reads (S : Sys X.base) (I : Inv X pins σ H s) : ∀ (d : PyData) (v : V) (u : Value), Rp X.K H v d → RelV v u → ∃ as, Reads s.heap u d as ∧ sysModules ∉ as
  | .none, _, _, h, r => by
    cases h
    cases r
    exact ⟨_, Reads.none, by simp⟩
  | .bool b, _, _, h, r => by
    cases h
    cases r
    exact ⟨_, Reads.bool b, by simp⟩
  | .int i, _, _, h, r => by
    cases h
    obtain ⟨t, rfl⟩ := r
    exact ⟨_, Reads.int i t, by simp⟩
  | .str x, _, _, h, r => by
    cases h
    obtain ⟨t, rfl⟩ := r
    exact ⟨_, Reads.str x t, by simp⟩
  | .list ds, _, _, h, r => by
    cases h with
    | lst hs ha =>
      cases r
      have hne := sys_sq S I hs
      rcases I.list hs with ⟨its, rv, ⟨o, n, ho, hc, _, hd⟩, _⟩
      obtain ⟨as, hr, hm⟩ := Rp.readsAll S I ds _ its ha rv
      refine ⟨_, Reads.list ho hc hd hr, fun z => ?_⟩
      obtain z | z := List.mem_cons.mp z
      · exact hne z.symm
      · exact hm z
  | .tuple ds, _, _, h, r => by
    cases h with
    | tup hs ha =>
      cases r
      rcases I.tuple hs with ⟨its, rv, ⟨o, ho, hc, n, hd⟩, _⟩
      obtain ⟨as, hr, hm⟩ := Rp.readsAll S I ds _ its ha rv
      exact ⟨_, Reads.tuple ho hc hd hr, hm⟩
  | .dict kvs, _, _, h, r => by
    cases h with
    | dct hs =>
      cases r
      have hne := sys_ne S I hs
      obtain ⟨_, _, vs, kv, o, es, ep, h1, h2, h3, _, h4, _⟩ := I.hok _ _ hs
      cases kv
      have he : es = #[] := by
        cases e : es.toList with
        | nil => exact Array.toList_eq_nil_iff.mp e
        | cons x l =>
          rw [e] at h4
          cases h4
      subst he
      exact ⟨_, Reads.dict (kvs := []) h1 h2.1 h3 ReadsAll.nil ReadsAll.nil, fun z => by
        simp at z
        exact hne z.symm⟩
theorem Rp.readsAll (S : Sys X.base) (I : Inv X pins σ H s) : ∀ (ds : List PyData) (vs : List V) (us : List Value), RpAll X.K H vs ds → Vals vs us → ∃ as, ReadsAll s.heap us ds as ∧ sysModules ∉ as
  | [], _, _, h, r => by
    cases h
    cases r
    exact ⟨_, ReadsAll.nil, by simp⟩
  | d :: ds, _, _, h, r => by
    cases h with
    | cons h1 h2 =>
      cases r with
      | cons r1 r2 =>
        obtain ⟨as, q1, m1⟩ := Rp.reads S I d _ _ h1 r1
        obtain ⟨bs, q2, m2⟩ := Rp.readsAll S I ds _ _ h2 r2
        refine ⟨_, ReadsAll.cons q1 q2, fun z => ?_⟩
        rcases List.mem_append.mp z with z | z
        · exact m1 z
        · exact m2 z
end
end
/-! == and != -/
def rEqP (K : PySem.W.Frag) (neg : Bool) : R2 := fun x y H Q => ∃ d e, Rp K H x d ∧ Rp K H y e ∧ SeqAt.shaped d = true ∧ SeqAt.shaped e = true ∧ Q (.bl (if neg then !PyData.eqv d e else PyData.eqv d e)) H
section
variable {X : Cx}
theorem op_eqP (S : Sys X.base) (hu : X.A.units + 64 < cLine) : OpR X (compareOp .Eq) (rEqP X.K false) := by
  rintro pins s σ H x y v u Q I rx ry h
  rcases h with ⟨d, e, hd, he, sd, se, q⟩
  obtain ⟨as, r1, _⟩ := Rp.reads S I d x v hd rx
  obtain ⟨bs, r2, _⟩ := Rp.reads S I e y u he ry
  exact (SeqAt.compareEq_shaped r1 r2 sd se hu ⟨.bl _, H, I, rfl, q⟩)
theorem op_neP (S : Sys X.base) (hu : X.A.units + 64 < cLine) : OpR X (compareOp .NotEq) (rEqP X.K true) := by
  rintro pins s σ H x y v u Q I rx ry h
  rcases h with ⟨d, e, hd, he, sd, se, q⟩
  obtain ⟨as, r1, _⟩ := Rp.reads S I d x v hd rx
  obtain ⟨bs, r2, _⟩ := Rp.reads S I e y u he ry
  exact (SeqAt.compareNe_shaped r1 r2 sd se hu ⟨.bl _, H, I, rfl, q⟩)
end
/-! repr -/
def rRepr (K : PySem.W.Frag) : List V → Hp → VK → Prop := fun xs H Q => ∃ x p, xs = [x] ∧ Rp K H x p ∧ p.showable = true ∧ p.shown.length ≤ sizeLine ∧ p.depth ≤ 100 ∧ Q (.str p.shown) H
theorem call_repr {X : Cx} (S : Sys X.base) (hG : X.A.guards = some []) (hu : X.A.units + 128 < cLine) : CallR X (.builtin "repr") (rRepr X.K) := by
  rintro pins s σ H xs us Q I r h
  obtain ⟨x, p, rfl, hp, hs, hz, hd, q⟩ := h
  rcases vals1 r with ⟨u, rfl, rx⟩
  obtain ⟨as, rd, hm⟩ := Rp.reads S I p x u hp rx
  have atom : EP X pins σ Q (.str p.shown s.toks) { s with toks := s.toks + 1 } := ⟨.str _, H, I.tok _, ⟨_, rfl⟩, q⟩
  have big : ∀ a, u = .ref a → wpAny (model X.prog X.w) X.A (call (.builtin "repr") [u]) (EP X pins σ Q) X.xe s := fun a e => by
    subst e
    refine repr_of_reads' rd hs (fun _ => hm) hG (by omega) (fun _ _ e => e) (fun h' t tk hk => ?_) hz
    exact ⟨.str _, H, I.kept hk, ⟨_, rfl⟩, q⟩
  cases rd with
  | none => exact P.repr_of_none (by simpa only [PyData.shown] using atom)
  | bool b => exact P.repr_of_bool (by simpa only [PyData.shown] using atom)
  | int i t => exact P.repr_of_int (by simpa [PyData.showable] using hs) (by simpa only [PyData.shown] using atom)
  | str y t => exact P.repr_of_str (by simpa only [PyData.shown] using atom) (by simpa only [PyData.shown] using hz)
  | list => exact big _ rfl
  | tuple => exact big _ rfl
  | dict => exact big _ rfl

/-! ### the same by data -/
mutual
def pdW (res : Addr → Option PyData) : D → Option PyData
  | .v .non => some .none
  | .v (.bl b) => some (.bool b)
  | .v (.int i) => some (.int i)
  | .v (.str x) => some (.str x)
  | .v (.ref a) => res a
  | .v _ => none
  | .lst l => match pdsW res l with
    | some ps => some (.list ps)
    | none => none
  | .tup l => match pdsW res l with
    | some ps => some (.tuple ps)
    | none => none
  | .dct [] => some (.dict [])
  | .dct _ => none
  | .exn _ _ _ => none
def pdsW (res : Addr → Option PyData) : List D → Option (List PyData)
  | [] => some []
  | d :: ds => match pdW res d, pdsW res ds with
    | some p, some ps => some (p :: ps)
    | _, _ => none
end
def resM (M : Mem) : Nat → Addr → Option PyData
  | 0, _ => none
  | n + 1, a => match M a with
    | some (.lst l) => match pdsW (resM M n) l with
      | some ps => some (.list ps)
      | none => none
    | some (.dct []) => some (.dict [])
    | _ => none
/-- what a thing is, as data -/
def pdM (M : Mem) (d : D) : Option PyData := pdW (resM M 3) d
theorem off_le {M : Mem} {H : Hp} : Same (off M H) H := fun b o h => (of_off h).1
mutual
theorem pdW_rp {K : PySem.W.Frag} {H G : Hp} {res : Addr → Option PyData} (hG : Same G H) (hr : ∀ a p, res a = some p → Rp K H (.ref a) p) : ∀ (d : D) (p : PyData) (u : V), pdW res d = some p → rep K G d u → Rp K H u p
  | .v x, p, u, h, r => by
    have e : u = x := r
    subst e
    cases u with
    | non => cases h; exact .non
    | bl b => cases h; exact .bl b
    | int i => cases h; exact .int i
    | str z => cases h; exact .str z
    | ref a => exact hr a p h
    | byt _ => cases h
    | flt _ => cases h
    | ty _ => cases h
  | .lst l, p, u, h, r => by
    obtain ⟨a, vs, rfl, h1, h2⟩ := r
    simp only [pdW] at h
    split at h
    · rename_i ps e
      cases h
      exact .lst (hG.seq h1) (pdsW_rp hG hr l ps vs e h2)
    · cases h
  | .tup l, p, u, h, r => by
    obtain ⟨a, vs, rfl, h1, h2⟩ := r
    simp only [pdW] at h
    split at h
    · rename_i ps e
      cases h
      exact .tup (sqT_same hG h1) (pdsW_rp hG hr l ps vs e h2)
    · cases h
  | .dct [], p, u, h, r => by
    obtain ⟨a, kvs, rfl, h1, h2⟩ := r
    cases h
    cases h2
    exact .dct (hG _ _ h1)
  | .dct (_ :: _), p, u, h, r => by cases h
  | .exn _ _ _, p, u, h, r => by cases h
theorem pdsW_rp {K : PySem.W.Frag} {H G : Hp} {res : Addr → Option PyData} (hG : Same G H) (hr : ∀ a p, res a = some p → Rp K H (.ref a) p) : ∀ (l : List D) (ps : List PyData) (us : List V), pdsW res l = some ps → reps K G l us → RpAll K H us ps
  | [], ps, us, h, r => by
    cases h
    cases r
    exact .nil
  | d :: ds, ps, us, h, r => by
    obtain ⟨u, w, rfl, h1, h2⟩ := r
    simp only [pdsW] at h
    split at h
    · rename_i p qs e1 e2
      cases h
      exact .cons (pdW_rp hG hr d p u e1 h1) (pdsW_rp hG hr ds qs w e2 h2)
    · cases h
end
theorem resM_rp {K : PySem.W.Frag} {M : Mem} {H : Hp} (m : MemOk K M H) : ∀ (n : Nat) (a : Addr) (p : PyData), resM M n a = some p → Rp K H (.ref a) p
  | 0, a, p, h => by cases h
  | n + 1, a, p, h => by
    unfold resM at h
    split at h
    · rename_i l e
      split at h
      · rename_i ps e2
        cases h
        obtain ⟨vs, h1, h2⟩ := m a _ e
        exact .lst (.inl (.inl h1)) (pdsW_rp off_le (resM_rp m n) l ps vs e2 h2)
      · cases h
    · rename_i e
      cases h
      obtain ⟨vs, h1, h2⟩ := m a _ e
      cases h2
      exact .dct h1
    · cases h
theorem pdM_rp {K : PySem.W.Frag} {M : Mem} {H : Hp} (m : MemOk K M H) {d : D} {p : PyData} {u : V} (h : pdM M d = some p) (r : rep K (off M H) d u) : Rp K H u p := pdW_rp off_le (resM_rp m 3) d p u h r

/-! data of Lean's PyData kind -/
mutual
def ofP : PyData → D
  | .none => .non
  | .bool b => .bl b
  | .int i => .int i
  | .str x => .str x
  | .list l => .lst (ofPs l)
  | .tuple l => .tup (ofPs l)
  | .dict _ => .dct []
def ofPs : List PyData → List D
  | [] => []
  | p :: ps => ofP p :: ofPs ps
end
mutual
/-- no dict but the empty one -/
def plainP : PyData → Bool
  | .list l => plainPs l
  | .tuple l => plainPs l
  | .dict [] => true
  | .dict _ => false
  | _ => true
def plainPs : List PyData → Bool
  | [] => true
  | p :: ps => plainP p && plainPs ps
end
mutual
theorem pdW_ofP (res : Addr → Option PyData) : ∀ p : PyData, plainP p = true → pdW res (ofP p) = some p
  | .none, _ => rfl
  | .bool _, _ => rfl
  | .int _, _ => rfl
  | .str _, _ => rfl
  | .list l, h => by
    have e := pdsW_ofPs res l h
    simp only [ofP, pdW, e]
  | .tuple l, h => by
    have e := pdsW_ofPs res l h
    simp only [ofP, pdW, e]
  | .dict [], _ => rfl
  | .dict (_ :: _), h => by cases h
theorem pdsW_ofPs (res : Addr → Option PyData) : ∀ l : List PyData, plainPs l = true → pdsW res (ofPs l) = some l
  | [], _ => rfl
  | p :: ps, h => by
    simp only [plainPs, Bool.and_eq_true] at h
    simp only [ofPs, pdsW, pdW_ofP res p h.1, pdsW_ofPs res ps h.2]
end
theorem pdM_ofP {M : Mem} {p : PyData} (h : plainP p = true) : pdM M (ofP p) = some p := pdW_ofP _ p h
theorem ofPs_map : ∀ l : List PyData, ofPs l = l.map ofP
  | [] => rfl
  | p :: ps => by rw [ofPs, ofPs_map ps]; rfl

def gEq (neg : Bool) : G2 := fun x y M Q => ∃ p q, pdM M x = some p ∧ pdM M y = some q ∧ SeqAt.shaped p = true ∧ SeqAt.shaped q = true ∧ Q (.bl (if neg then !PyData.eqv p q else PyData.eqv p q)) M
theorem sim_eq {K : PySem.W.Frag} {neg : Bool} : Sim2 K (rEqP K neg) (gEq neg) := by
  intro x y u w M H Q P m rx ry hg k
  obtain ⟨p, q, h1, h2, h3, h4, h5⟩ := hg
  exact ⟨p, q, pdM_rp m h1 rx, pdM_rp m h2 ry, h3, h4, k _ M _ H h5 (Stp.refl _ _) m rfl⟩

/-! ### built-ins by values -/
abbrev GC := List D → Mem → QD → Prop
def SimC (K : PySem.W.Frag) (r : List V → Hp → VK → Prop) (g : GC) : Prop :=
  ∀ (xs : List D) (us : List V) (M : Mem) (H : Hp) (Q : VK) (P : QD), MemOk K M H → reps K (off M H) xs us → g xs M P →
    (∀ d M' z H', P d M' → Stp M H M' H' → MemOk K M' H' → rep K (off M' H') d z → Q z H') → r us H Q
def dCB (g : GC) (f : DFs) : DF := fun env M Q E => f env M (fun xs M1 => g xs M1 Q) E
theorem sim_CB {K : PySem.W.Frag} {W : WX} {r : List V → Hp → VK → Prop} {g : GC} {ta : TA} {f : DFs} {n : Nat} (hr : SimC K r g) (h1 : SimA K W n ta f) : SimE K W (tCB r ta) (dCB g f) := by
  intro σ H env M Q P E rl h k x
  refine h1 σ H env M _ _ E rl h (fun d M1 u H1 p1 l1 s1 m1 r1 => ?_) x
  exact hr d u M1 H1 _ P m1 r1 p1 fun d3 M3 z H3 p3 s3 m3 r3 => k d3 M3 z H3 p3 (s1.trans s3) m3 r3
section
variable {X : Cx} {W : WX} {r : List V → Hp → VK → Prop} {g : GC} {f : DFs} {x : Str} {id T : String} {e : Expr} {es : List Expr} {p pos : Pos}
theorem d_callB (hc : CallR X (.builtin id) r) (hs : SimC X.K r g) (hm : X.mg x = none) (hv : bootBuiltins x = some (.builtin id)) (ha : DA X W (e :: es) f) (hg : Gl X x := by rfl) (hn : x ≠ "__name__" := by decide) (hdb : (x == ("__debug__" : Str)) = false := by decide)
    (he : starEach (e :: es) X.env = (false, eval e X.env) :: starEach es X.env := by rfl) (hpl : (backTo pos (starEach es X.env)).any (·.1) = false := by rfl) : DE X W (.Call (.Name x p) (e :: es) [] pos) (dCB g f) :=
  let ⟨_, p1, s1⟩ := ha
  ⟨_, pe_callB hc hg hm hv p1 hn hdb he hpl, sim_CB hs s1⟩
theorem d_callTy (hc : CallR X (.type T) r) (hs : SimC X.K r g) (hm : X.mg x = none) (hv : bootBuiltins x = some (.type T)) (ha : DA X W (e :: es) f) (hg : Gl X x := by rfl) (hn : x ≠ "__name__" := by decide) (hdb : (x == ("__debug__" : Str)) = false := by decide)
    (he : starEach (e :: es) X.env = (false, eval e X.env) :: starEach es X.env := by rfl) (hpl : (backTo pos (starEach es X.env)).any (·.1) = false := by rfl) : DE X W (.Call (.Name x p) (e :: es) [] pos) (dCB g f) :=
  let ⟨_, p1, s1⟩ := ha
  ⟨_, pe_callTy hc hg hm hv p1 hn hdb he hpl, sim_CB hs s1⟩
end
/-- a list or a tuple -/
def seqD (M : Mem) : D → Option (Bool × List D)
  | .lst l => some (true, l)
  | .tup l => some (false, l)
  | .v (.ref a) => match M a with
    | some (.lst l) => some (true, l)
    | _ => none
  | _ => none
def Sq (K : PySem.W.Frag) (H : Hp) (b : Bool) (a : Addr) (vs : List V) : Prop := match b with
  | true => SqL K H a vs
  | false => SqT K H a vs
theorem seq_rep {K : PySem.W.Frag} {M : Mem} {H : Hp} (m : MemOk K M H) {d : D} {b : Bool} {l : List D} {u : V} (h : seqD M d = some (b, l)) (r : rep K (off M H) d u) : ∃ a vs, u = .ref a ∧ Sq K H b a vs ∧ reps K (off M H) l vs := by
  cases d with
  | lst l' =>
    cases h
    obtain ⟨a, vs, h1, h2, h3⟩ := r
    exact ⟨a, vs, h1, off_le.seq h2, h3⟩
  | tup l' =>
    cases h
    obtain ⟨a, vs, h1, h2, h3⟩ := r
    exact ⟨a, vs, h1, sqT_same off_le h2, h3⟩
  | dct _ => cases h
  | exn _ _ _ => cases h
  | v x =>
    cases x with
    | ref a =>
      simp only [seqD] at h
      split at h
      · rename_i l2 e
        cases h
        obtain ⟨vs, h1, h2⟩ := m a _ e
        exact ⟨a, vs, r, .inl (.inl h1), h2⟩
      · cases h
    | _ => cases h
theorem Sq.or {K : PySem.W.Frag} {H : Hp} {b : Bool} {a : Addr} {vs : List V} (h : Sq K H b a vs) : SqL K H a vs ∨ SqT K H a vs := by
  cases b with
  | true => exact .inl h
  | false => exact .inr h
/-! len -/
def gLen : GC := fun xs M Q => match xs with
  | [x] => match seqD M x with
    | some (_, l) => Q (.int l.length) M
    | none => match x with
      | .v (.str z) => z.length ≤ sizeLine ∧ Q (.int z.length) M
      | _ => False
  | _ => False
theorem sim_len {K : PySem.W.Frag} : SimC K (fun xs H Q => ∃ x n, xs = [x] ∧ LenV K x H n ∧ Q (.int n) H) gLen := by
  intro xs us M H Q P m r h k
  unfold gLen at h
  split at h
  · rename_i x
    obtain ⟨u, w, rfl, r1, r2⟩ := r
    cases r2
    split at h
    · rename_i b l e
      obtain ⟨a, vs, rfl, h1, h2⟩ := seq_rep m e r1
      refine ⟨.ref a, vs.length, rfl, ?_, k _ M _ H h (Stp.refl _ _) m (by show V.int _ = V.int _; rw [reps_length h2])⟩
      cases b with
      | true => exact .inl ⟨vs, h1, rfl⟩
      | false => exact .inr ⟨vs, h1, rfl⟩
    · split at h
      · rename_i z e
        have eu : u = .str z := r1
        subst eu
        exact ⟨.str z, z.length, rfl, ⟨h.1, rfl⟩, k _ M _ H h.2 (Stp.refl _ _) m rfl⟩
      · exact h.elim
  · exact h.elim
/-! x[i] -/
theorem reps_at {K : PySem.W.Frag} {G : Hp} {l : List D} {us : List V} {i : Int} {d : D} (r : reps K G l us) (h : atI l i = some d) : ∃ u, atI us i = some u ∧ rep K G d u := by
  unfold atI at h ⊢
  rw [reps_length r]
  cases e : ixN l.length i with
  | none =>
    rw [e] at h
    cases h
  | some j =>
    rw [e] at h
    exact reps_get r h
def gIx : G2 := fun x y M Q => match y with
  | .v (.int i) => match seqD M x with
    | some (_, l) => ∃ d, atI l i = some d ∧ Q d M
    | none => match x with
      | .v (.str z) => z.length ≤ sizeLine ∧ ∃ c, atI z.cps.toList i = some c ∧ Q (.str ⟨#[c]⟩) M
      | _ => False
  | _ => False
theorem sim_ix {K : PySem.W.Frag} : Sim2 K (rIx K) gIx := by
  intro x y u w M H Q P m rx ry hg k
  unfold gIx at hg
  split at hg
  · rename_i i
    have ew : w = .int i := ry
    subst ew
    split at hg
    · rename_i b l e
      obtain ⟨d, h1, h2⟩ := hg
      obtain ⟨a, vs, rfl, q1, q2⟩ := seq_rep m e rx
      obtain ⟨z, e1, e2⟩ := reps_at q2 h1
      have fin := k _ M z H h2 (Stp.refl _ _) m e2
      cases b with
      | true => exact .inl ⟨a, vs, i, z, rfl, rfl, q1, e1, fin⟩
      | false => exact .inr (.inl ⟨a, vs, i, z, rfl, rfl, q1, e1, fin⟩)
    · split at hg
      · rename_i z e
        have eu : u = .str z := rx
        subst eu
        obtain ⟨h1, c, h2, h3⟩ := hg
        exact .inr (.inr ⟨z, i, c, rfl, rfl, h1, h2, k _ M _ H h3 (Stp.refl _ _) m rfl⟩)
      · exact hg.elim
  · exact hg.elim
theorem d_ix {X : Cx} {W : WX} {a b : Expr} {f g : DF} {pos : Pos} (h1 : DE X W a f) (h2 : DE X W b g) (hs : PlainIx b := by exact fun _ _ => rfl) : DE X W (.Subscript a b pos) (dOp gIx f g) :=
  let ⟨_, p1, s1⟩ := h1
  let ⟨_, p2, s2⟩ := h2
  ⟨_, pe_ix ix_seq p1 p2 hs, sim_op sim_ix s1 s2⟩
/-! repr -/
def gRepr : GC := fun xs M Q => match xs with
  | [x] => ∃ p, pdM M x = some p ∧ p.showable = true ∧ p.shown.length ≤ sizeLine ∧ p.depth ≤ 100 ∧ Q (.str p.shown) M
  | _ => False
theorem sim_repr {K : PySem.W.Frag} : SimC K (rRepr K) gRepr := by
  intro xs us M H Q P m r h k
  unfold gRepr at h
  split at h
  · rename_i x
    obtain ⟨u, w, rfl, r1, r2⟩ := r
    cases r2
    obtain ⟨p, h1, h2, h3, h4, h5⟩ := h
    exact ⟨u, p, rfl, pdM_rp m h1 r1, h2, h3, h4, k _ M _ H h5 (Stp.refl _ _) m rfl⟩
  · exact h.elim
/-! isinstance -/
def tyD (M : Mem) : D → Option String
  | .v .non => some "NoneType"
  | .v (.bl _) => some "bool"
  | .v (.int _) => some "int"
  | .v (.str _) => some "str"
  | .v (.ref a) => match M a with
    | some (.lst _) => (some "list")
    | some (.dct _) => some "dict"
    | none => none
  | .v _ => none
  | .lst _ => some "list"
  | .tup _ => some "tuple"
  | .dct _ => some "dict"
  | .exn _ _ _ => none
def tyNs : List String := ["NoneType", "bool", "int", "str", "list", "tuple", "dict"]
def isiB (t c : String) : Bool := t == c || (t == "bool" && c == "int")
theorem kit_all : (tyNs.all fun t => tyNs.all fun c => decide (kitB t c = some (isiB t c))) = true := by decide +kernel
theorem kit_isi {K : PySem.W.Frag} {t c : String} (ht : t ∈ tyNs) (hc : c ∈ tyNs) : PySem.W.kitOne K (.type t) (.type c) = some (isiB t c) := by
  have h := List.all_eq_true.mp kit_all t ht
  exact kit_ty (of_decide_eq_true (List.all_eq_true.mp h c hc))
theorem tyD_mem {M : Mem} {d : D} {t : String} (h : tyD M d = some t) : t ∈ tyNs := by
  cases d with
  | v x =>
    cases x with
    | ref a =>
      simp only [tyD] at h
      split at h
      · cases h; decide
      · cases h; decide
      · cases h
    | non => cases h; decide
    | bl _ => cases h; decide
    | int _ => cases h; decide
    | str _ => cases h; decide
    | _ => cases h
  | lst _ => cases h; decide
  | tup _ => cases h; decide
  | dct _ => cases h; decide
  | exn _ _ _ => cases h
theorem tyx_L {K : PySem.W.Frag} {H : Hp} {a : Addr} {xs : List V} (h : SqL K H a xs) : TyX K H (.ref a) (.type "list") := by
  rcases h with (h | ⟨o, h⟩) | ⟨o, its, n, hk, hc, _⟩
  · exact .base (.lst h)
  · exact .base (.frz h)
  · exact .kList hk hc
theorem tyx_T {K : PySem.W.Frag} {H : Hp} {a : Addr} {xs : List V} (h : SqT K H a xs) : TyX K H (.ref a) (.type "tuple") := by
  rcases h with (h | ⟨o, h⟩) | ⟨o, its, n, hk, hc, _⟩
  · exact .base (.tup h)
  · exact .fTuple h
  · exact .kTuple hk hc
theorem tyD_x {K : PySem.W.Frag} {M : Mem} {H : Hp} (m : MemOk K M H) {d : D} {t : String} {u : V} (h : tyD M d = some t) (r : rep K (off M H) d u) : TyX K H u (.type t) := by
  cases d with
  | v x =>
    have e : u = x := r
    subst e
    cases u with
    | ref a =>
      simp only [tyD] at h
      split at h
      · rename_i l e
        cases h
        obtain ⟨vs, h1, _⟩ := m a _ e
        exact .base (.lst h1)
      · rename_i l e
        cases h
        obtain ⟨vs, h1, _⟩ := m a _ e
        exact .base (.dK h1)
      · cases h
    | non => cases h; exact .base .non
    | bl b => cases h; exact .base (.bl b)
    | int i => cases h; exact .base (.int i)
    | str z => cases h; exact .base (.str z)
    | byt _ => cases h
    | flt _ => cases h
    | ty _ => cases h
  | lst l =>
    cases h
    obtain ⟨a, vs, rfl, h1, _⟩ := r
    exact tyx_L (off_le.seq h1)
  | tup l =>
    cases h
    obtain ⟨a, vs, rfl, h1, _⟩ := r
    exact tyx_T (sqT_same off_le h1)
  | exn _ _ _ => cases h
  | dct l =>
    cases h
    obtain ⟨a, vs, rfl, h1, _⟩ := r
    exact .base (.dK (off_le _ _ h1))
def gIsi : GC := fun xs M Q => match xs with
  | [x, .v (.ty c)] => match tyD M x with
    | some t => tyNs.contains c = true ∧ Q (.bl (isiB t c)) M
    | none => False
  | _ => False
theorem sim_isi {K : PySem.W.Frag} : SimC K (rIsi K) gIsi := by
  intro xs us M H Q P m r h k
  unfold gIsi at h
  split at h
  · rename_i x c
    obtain ⟨u, w, rfl, r1, u2, w2, rfl, r2, r3⟩ := r
    cases r3
    have e2 : u2 = .ty c := r2
    subst e2
    split at h
    · rename_i t e
      exact ⟨u, .ty c, _, _, _, rfl, .ty c, tyD_x m e r1, kit_isi (tyD_mem e) (by simpa using h.1), k _ M _ H h.2 (Stp.refl _ _) m rfl⟩
    · exact h.elim
  · exact h.elim
/-- isinstance(x, (c1, c2)) -/
def dIsi2 (c1 c2 : String) (f : DF) : DF := fun env M Q E => f env M (fun x M1 => match tyD M1 x with
  | some t => Q (.bl (isiB t c1 || isiB t c2)) M1
  | none => False) E
theorem kit_any2 {K : PySem.W.Frag} {t c1 c2 : String} (ht : t ∈ tyNs) (h1 : c1 ∈ tyNs) (h2 : c2 ∈ tyNs) : PySem.W.kitAny K (.type t) [.type c1, .type c2] = some (isiB t c1 || isiB t c2) := by
  refine kitAny_cons (kit_isi ht h1) (fun e => ?_) (fun e => by rw [e]; rfl)
  rw [e, Bool.false_or]
  refine kitAny_cons (kit_isi ht h2) (fun e => by rw [e]; exact kitAny_nil) (fun e => e)
theorem d_isi2 {X : Cx} {W : WX} {a : Expr} {f : DF} {x y1 y2 : Str} {c1 c2 : String} {p p1 p2 p3 pos : Pos} {k1} (hm : X.mg x = none) (hv : bootBuiltins x = some (.builtin "isinstance")) (m1 : X.mg y1 = none) (v1 : bootBuiltins y1 = some (.type c1)) (m2 : X.mg y2 = none) (v2 : bootBuiltins y2 = some (.type c2))
    (ha : DE X W a f) (hc1 : tyNs.contains c1 = true := by decide) (hc2 : tyNs.contains c2 = true := by decide) (hg : Gl X x := by rfl) (g1 : Gl X y1 := by rfl) (g2 : Gl X y2 := by rfl) (hn : x ≠ "__name__" := by decide) (n1 : y1 ≠ "__name__" := by decide) (n2 : y2 ≠ "__name__" := by decide)
    (hdb : (x == ("__debug__" : Str)) = false := by decide) (d1 : (y1 == ("__debug__" : Str)) = false := by decide) (d2 : (y2 == ("__debug__" : Str)) = false := by decide)
    (he : starEach (a :: [.Tuple [.Name y1 p1, .Name y2 p2] k1 p3]) X.env = (false, eval a X.env) :: starEach [.Tuple [.Name y1 p1, .Name y2 p2] k1 p3] X.env := by rfl)
    (hpl : (backTo pos (starEach [.Tuple [.Name y1 p1, .Name y2 p2] k1 p3] X.env)).any (·.1) = false := by rfl) :
    DE X W (.Call (.Name x p) [a, .Tuple [.Name y1 p1, .Name y2 p2] k1 p3] [] pos) (dIsi2 c1 c2 f) := by
  obtain ⟨te, pe, se⟩ := ha
  have q1 : PE X (.Name y1 p1) (tC (.ty c1)) := pe_bltn (v := .ty c1) g1 m1 v1 rfl n1 d1
  have q2 : PE X (.Name y2 p2) (tC (.ty c2)) := pe_bltn (v := .ty c2) g2 m2 v2 rfl n2 d2
  refine ⟨_, pe_callB call_isiT hg hm hv (pa_cons pe (pa_cons (pe_tup (x1 := k1) (pos := p3) (pa_cons q1 (pa_cons q2 pa_nil))) pa_nil) he) hn hdb he hpl, ?_⟩
  intro σ H env M Q P E rl h k xo
  refine se σ H env M _ _ E rl h (fun d M1 u H1 h1 s1 m1 r1 => ?_) xo
  split at h1
  · rename_i t e
    refine ⟨line1000 (by simp), fun T hT => ?_⟩
    have s2 : Stp M1 H1 M1 (upd H1 T (.tup [.ty c1, .ty c2])) := stp_new hT
    refine ⟨u, T, _, _, _, _, rfl, upd_same, .cons (.ty c1) (.cons (.ty c2) .nil), tyD_x (mem_new m1 hT) e (s2.rep r1), kit_any2 (tyD_mem e) (by simpa using hc1) (by simpa using hc2), ?_⟩
    exact k _ M1 _ _ h1 (s1.trans s2) (mem_new m1 hT) rfl
  · exact h1.elim
end DL
set_option maxHeartbeats 4000001
/-! rules of the machine that the layer below lacks -/
namespace PySem
open Sem (wp)
open AutoSeq1
  (wpAny_loadPart')
set_option maxHeartbeats 1000001 in
theorem dl_enum_meets {v : Value} {o : Obj} {H : Heap → Prop} (B : Begins v o H) :
    Meets (Builtin.«enumerate.__new__» ⟨[.type "enumerate", v], []⟩) (fun _ R s => H s.heap ∧
      R (.ok (.ret (.ref (s.heap.push o).objs.size))) { s with heap := (s.heap.push o).push { cls := .type "enumerate", data := .fields #[.none, .bool false, .ref s.heap.objs.size, rawInt 0, .none, .none] } }) :=
  .of_wp fun pr ww AA RR ss hh => by
    obtain ⟨hp, g, d, tk, os⟩ := ss
    obtain ⟨h1, h2⟩ := hh
    have hsub := sub_enumerate
    have begin_ : ∀ {A' : Around} {E : Value → Shared → Prop} {Q : Value → Shared → Prop}, Q (.ref hp.objs.size) ⟨hp.push o, g, d, tk, os⟩ → wpAny (model pr ww) A' (pyIter v) Q E ⟨hp, g, d, tk, os⟩ :=
      fun z => B.iter pr ww _ _ ⟨hp, g, d, tk, os⟩ _ h1 z
    wp_walk using begin_
    refine (wpAny_stack_any fun st => wpAny_pure ?_)
    split
    · rename_i c _ _ _ _ _
      cases (c == .type "enumerate")
      · wp_walk using begin_
        exact ⟨_, rfl, h2⟩
      · wp_walk using begin_
        exact ⟨_, rfl, h2⟩
    · wp_walk using begin_
      exact ⟨_, rfl, h2⟩
theorem dl_enum_call {prog : Program} {w : World} {A : Around} {E : Value → Shared → Prop} {s : Shared} {v : Value} {o : Obj} {H : Heap → Prop} {Q : Value → Shared → Prop} (B : Begins v o H) (h1 : H s.heap)
    (h : ∀ h', IsEnum h' (s.heap.objs.size + 1) s.heap.objs.size 0 .none → h'.get? s.heap.objs.size = some o → (∀ b u, s.heap.get? b = some u → h'.get? b = some u) → Q (.ref (s.heap.objs.size + 1)) { s with heap := h' }) :
    wpAny (model prog w) A (call (.type "enumerate") [v]) Q E s := by
  refine callType_new F.called_enumerate (by decide) (F.typeCall_enumerate_1 _) (F.newCall_enumerate_1 _) (fun obj => F.args_object_init_2 obj _) F.entry_enumerate_new (dl_enum_meets B) ⟨h1, ?_⟩
  have size1 : (s.heap.push o).objs.size = s.heap.objs.size + 1 := Heap.size_push ..
  show _ ∧ _
  rw [size1]
  have made : IsEnum ((s.heap.push o).push { cls := .type "enumerate", data := .fields #[.none, .bool false, .ref s.heap.objs.size, rawInt 0, .none, .none] }) (s.heap.objs.size + 1) s.heap.objs.size 0 .none := by
    have z := Heap.get?_push_size (s.heap.push o) (o := { cls := .type "enumerate", data := .fields #[.none, .bool false, .ref s.heap.objs.size, rawInt 0, .none, .none] }) rfl
    rw [size1] at z
    exact z
  exact ⟨⟨_, made, rfl⟩, h _ made (Heap.get?_push_of_some _ (Heap.get?_push_size _ B.free)) fun b u x => Heap.get?_push_of_some _ (Heap.get?_push_of_some _ x)⟩
end PySem

namespace DL
open PySem PySem.Spec
open PyProof.Rows L2

/-! ### a list or a tuple, walked -/
def iSeq (K : PySem.W.Frag) (tl : TE) : TI := fun σ H R => tl σ H fun x H1 => ∃ a, x = .ref a ∧ (((∃ xs, SqL K H1 a xs) ∧ R (Itl K a) H1) ∨ ((∃ xs, SqT K H1 a xs) ∧ R (Itt K a) H1))
theorem pi_seq {X : Cx} {tg : Expr} {l : Expr} {tl : TE} (hl : PE X l tl) : PI X tg l (iSeq X.K tl) := by
  refine ⟨fun pins s σ H R I h => thn (hl.run pins s σ H _ I h) ?_⟩
  rintro v s1 ⟨x, H1, I1, r1, a, ex, q1⟩
  subst ex
  cases r1
  have own : ∀ b ∈ [s1.heap.objs.size], FpOk X pins H1 b := fun b hb => by
    rw [List.mem_singleton.mp hb]
    exact (I1.fpOk (Nat.le_refl _) (I1.hok.fresh (Nat.le_refl _)))
  have kept : ∀ o : Obj, Inv X pins σ H1 { s1 with heap := s1.heap.push o } := fun o => I1.kept (t' := s1.toks) fun b u e => Heap.get?_push_of_some _ e
  rcases q1 with ⟨⟨xs, hq⟩, q⟩ | ⟨⟨xs, hq⟩, q⟩
  · obtain ⟨its, rv, p, hz⟩ := I1.list hq
    exact wpAny_pyIter_list p.isList ⟨s1.heap.objs.size, [s1.heap.objs.size], _, _, H1, rfl, kept _, turn_list a _, ⟨_, Heap.get?_push_size _ rfl, rfl, rfl⟩, own, q⟩
  · obtain ⟨its, rv, p, hz⟩ := I1.tuple hq
    exact wpAny_pyIter_tuple (show s1.heap.IsTuple a its.toArray from p) ⟨s1.heap.objs.size, [s1.heap.objs.size], _, _, H1, rfl, kept _, turn_tuple a _, ⟨_, Heap.get?_push_size _ rfl, rfl, rfl⟩, own, q⟩

/-! ### enumerate(tuple), enumerate(list) -/
def IteT (K : PySem.W.Frag) (a : Addr) : It :=
  ⟨fun i H => ∃ (xs : List V) (x : V), SqT K H a xs ∧ xs[i]? = some x, fun i H v H' => ∃ T x, v = .ref T ∧ H T = none ∧ H' = upd H T (.tup [.int (i : Nat), x]) ∧ ∀ xs, SqT K H a xs → xs[i]? = some x, fun i H => ∃ xs : List V, SqT K H a xs ∧ xs.length = i⟩
theorem turn_enumT {P : Program} {w : World} {K : PySem.W.Frag} {elts : List Expr} {kk : Nat} {tpos : Pos} (a e it : Addr) :
    Turn P w K (.Tuple elts kk tpos) (IteT K a) [e, it] e (fun i h => (∃ old, IsEnum h e it ((i : Nat) : Int) old) ∧ h.IsTupleIter it a i ∧ e ≠ it ∧ a ≠ it ∧ a ≠ e) where
  mem := List.mem_cons_self
  obj := fun i h st b hb => by
    rcases st with ⟨⟨old, he⟩, ⟨o, ho, hc, hd⟩, _⟩
    obtain z | z := List.mem_cons.mp hb
    · rw [z]
      exact ⟨_, he, fun v q => nomatch q⟩
    · rw [(List.mem_singleton.mp z)]
      exact ⟨o, ho, fun v q => by rw [hd] at q; cases q⟩
  keep := fun i h h' st k => let ⟨⟨old, he⟩, hi, r⟩ := st; ⟨⟨old, k e List.mem_cons_self _ he⟩, hi.at fun o q => k it (List.mem_cons_of_mem _ List.mem_cons_self) o q, r⟩
  item := by
    rintro X hP hw hK hc i pins s σ H E I hf st hg
    subst hP hw hK
    obtain ⟨⟨old, he⟩, hit, hne, hai, hae⟩ := st
    obtain ⟨xs, x, hq, hx⟩ := hg
    rcases I.tuple hq with ⟨its, rv, p, hz⟩
    have el : e < s.heap.objs.size := Heap.lt_size he
    have il : it < s.heap.objs.size := by
      obtain ⟨_, q, _⟩ := hit
      exact Heap.lt_size q
    have hlt : i < its.toArray.size := by
      obtain ⟨u, hu, _⟩ := rv.get hx
      have z := (List.getElem?_eq_some_iff.mp hu).1
      simpa using z
    have D := Draws.tuple (prog := X.prog) (w := X.w) (A := X.A.in1) (I.ok.hd hc) it a hai its.toArray
    refine wpAny_pyNext_enum_itemC D he ⟨hit, p⟩ hlt hne (by simp [hne, Ne.symm hae]) fun y h' tk hy ho hit' hT hsz hk => ?_
    refine ⟨_, rfl, wpAny_letOwnedTupleGo_enum (s := { s with heap := h', toks := tk + 1 }) ho fun h2 he2 sb => ?_⟩
    have ru : RelV x y := by
      rcases rv.get hx with ⟨u, hu, ru⟩
      have e1 : its.toArray[i]? = some u := by simpa using hu
      rw [e1] at hy
      cases hy
      exact ru
    have hT2 : h2.get? s.heap.objs.size = some { cls := .type "tuple", data := .seq #[.int i tk, y] } := (sb.2 _ (Nat.ne_of_gt el)).trans hT
    have made : ObjOk X.prog X.w (upd H s.heap.objs.size (.tup [.int (i : Nat), x])) h2 s.heap.objs.size (.tup [.int (i : Nat), x]) :=
      ⟨line1000 (by simp), [.int i tk, y], .cons ⟨_, rfl⟩ (.cons ru .nil), ⟨_, hT2, rfl, _, rfl⟩⟩
    have I1 : Inv X pins σ (upd H s.heap.objs.size (.tup [.int (i : Nat), x])) { s with heap := h2, toks := tk + 1 } :=
      I.turnedNew (ch := [e, it]) (fun b ob hb q => (sb.2 b (fun z => hb (by rw [z]; exact List.mem_cons_self))).trans (hk b ob (fun z => hb (by rw [z]; exact List.mem_cons_self)) (fun z => hb (by rw [z]; exact List.mem_cons_of_mem _ List.mem_cons_self)) q)) hf (Nat.le_refl _) made
    refine ⟨.ref s.heap.objs.size, _, I1, rfl, ⟨_, x, rfl, I.hok.fresh (Nat.le_refl _), rfl, fun ys hy => by rw [I.tuple_inj hy hq]; exact hx⟩, ⟨⟨y, ?_⟩, hit'.1.at fun o q => (sb.2 it (Ne.symm hne)).trans q, hne, hai, hae⟩, fun b hb => ?_⟩
    · have z : ((i + 1 : Nat) : Int) = (i : Int) + 1 := Int.natCast_succ i
      rw [z]
      exact he2
    · have lt : b < s.heap.objs.size := by
        obtain z | z := List.mem_cons.mp hb
        · rw [z]
          exact el
        · rw [(List.mem_singleton.mp z)]
          exact il
      rw [upd_ne (Nat.ne_of_lt lt)]
      exact (hf b hb).1
  done := by
    rintro X hP hw hK hc i pins s σ H E I hf st hg
    subst hP hw hK
    obtain ⟨⟨old, he⟩, hit, hne, hai, hae⟩ := st
    obtain ⟨xs, hq, hx⟩ := hg
    rcases I.tuple hq with ⟨its, rv, p, hz⟩
    obtain ⟨f0, f1, f2, f3, f4, f5⟩ := hf it (List.mem_cons_of_mem _ List.mem_cons_self)
    have hl := rv.length
    have D := Draws.tuple (prog := X.prog) (w := X.w) (A := X.A.in1) (I.ok.hd hc) it a hai its.toArray
    have e1 : i = its.toArray.size := by rw [List.size_toArray, ← hl, hx]
    subst e1
    exact wpAny_pyNext_enum_endD D he ⟨hit, p⟩ fun h' eb => ⟨rfl, I.turned (t' := s.toks) (fun b o hb q => eb b o hb q) f0 f1 f3 f4 f5⟩
  self := fun A j s Q E st q => let ⟨⟨_, he⟩, _⟩ := st; wpAny_pyIter_enum he q
theorem walk_enumT {K : PySem.W.Frag} {a : Addr} {xs : List V} : Walk (IteT K a) xs.length (fun H => SqT K H a xs) (YPair (fun i => some (.int (i : Nat))) (fun i => xs[i]?)) := by
  refine ⟨fun i _ hi q => ⟨xs, xs[i], q, by simp [hi]⟩, fun _ q => ⟨xs, q, rfl⟩, fun i H v H' _ q y => ?_⟩
  obtain ⟨T, x, g1, g2, g3, g4⟩ := y
  exact ⟨T, .int (i : Nat), x, g1, g2, g3, rfl, g4 xs q⟩
def iEnumA (K : PySem.W.Frag) (ta : TA) : TI := fun σ H R => ta σ H fun vs H1 => ∃ a xs, vs = [.ref a] ∧ ((SqL K H1 a xs ∧ R (Ite K a) H1) ∨ (SqT K H1 a xs ∧ R (IteT K a) H1))
theorem pi_enumA {X : Cx} {e : Expr} {ta : TA} {p pos tpos : Pos} {elts : List Expr} {kk : Nat} (hg : Gl X "enumerate") (hm : X.mg "enumerate" = none) (ha : PA X [e] ta) (hs : starEach [e] X.env = [(false, eval e X.env)] := by rfl) :
    PI X (.Tuple elts kk tpos) (.Call (.Name "enumerate" p) [e] [] pos) (iEnumA X.K ta) := by
  refine ⟨fun pins s σ H R I h => Call_ (ld_blt I hg hm boot_enumerate (PyProof.Rows.callWith_type1 (thn (ha.run pos pins s σ H _ I h) ?_) hs rfl))⟩
  rintro us s1 ⟨vs, H1, I1, r1, a, xs, rfl, q1⟩
  cases r1 with
  | cons r rr =>
    cases rr
    cases r
    have low : ∀ b ∈ [s1.heap.objs.size + 1, s1.heap.objs.size], FpOk X pins H1 b := fun b hb => by
      have hle :
        s1.heap.objs.size ≤ b := by
        obtain z | z := List.mem_cons.mp hb
        · omega
        · exact Nat.le_of_eq (List.mem_singleton.mp z).symm
      exact (I1.fpOk hle (I1.hok.fresh hle))
    rcases q1 with ⟨hq, q⟩ | ⟨hq, q⟩
    · rcases I1.list hq with ⟨its, rv, p', hz⟩
      refine dl_enum_call (begins_list a its.toArray) p'.isList fun h' he hit hk => wpAny_pyIter_enum he ?_
      exact ⟨s1.heap.objs.size + 1, [s1.heap.objs.size + 1, s1.heap.objs.size], _, _, H1, rfl, I1.kept (t' := s1.toks) hk, turn_enum a (s1.heap.objs.size + 1) s1.heap.objs.size, ⟨⟨.none, he⟩, ⟨_, hit, rfl, rfl⟩, Nat.succ_ne_self _⟩, low, q⟩
    · rcases I1.tuple hq with ⟨its, rv, p', hz⟩
      have al : a < s1.heap.objs.size := p'.lt
      refine dl_enum_call (begins_tuple a its.toArray) p' fun h' he hit hk => wpAny_pyIter_enum he ?_
      exact ⟨s1.heap.objs.size + 1, [s1.heap.objs.size + 1, s1.heap.objs.size], _, _, H1, rfl, I1.kept (t' := s1.toks) hk, turn_enumT a (s1.heap.objs.size + 1) s1.heap.objs.size, ⟨⟨.none, he⟩, ⟨_, hit, rfl, rfl⟩, Nat.succ_ne_self _, Nat.ne_of_lt al, Nat.ne_of_lt (Nat.lt_succ_of_lt al)⟩, low, q⟩
end DL
set_option maxHeartbeats 4000001
namespace DL
open PySem PySem.Spec
open PyProof.Rows L2

/-! ### defs, where no repr is under way -/
structure GnOk (P : Program) (w : World) (K : PySem.W.Frag) (mg : Str → Option Value) (base : Heap) (k : Nat) (f : Addr) (fd : FuncData) (ps : List Str) (sp : Sp) : Prop where
  len : ∀ ws H Q E, sp ws H Q E → ws.length = ps.length
  run : ∀ (A : Around) (outer : List Env) (s : Shared) (H : Hp) (args : Args) (us : List Value) (vs : List V) (Q : VK) (E : XK), Room k A → A.guards = some [] → Env0 P w K mg base A outer s H → BindsTo s fd args (ps.zip us) → Vals vs us →
    sp vs H Q E → codeAny (model P w) A (.call (.ref f) args) (CR (L2.CX P w) outer P w H s Q E) s
theorem GnOk.mono {P : Program} {w : World} {K : PySem.W.Frag} {mg : Str → Option Value} {base : Heap} {j k : Nat} {f : Addr} {fd : FuncData} {ps : List Str} {sp : Sp} (F : GnOk P w K mg base j f fd ps sp) (h : j ≤ k) : GnOk P w K mg base k f fd ps sp :=
  ⟨F.len, fun A outer s H args us vs Q E hr => F.run A outer s H args us vs Q E (hr.mono h)⟩
theorem GnOk.imp {P : Program} {w : World} {K : PySem.W.Frag} {mg : Str → Option Value} {base : Heap} {k : Nat} {f : Addr} {fd : FuncData} {ps : List Str} {sp sp' : Sp} (F : GnOk P w K mg base k f fd ps sp) (h : ∀ vs H Q E, sp' vs H Q E → sp vs H Q E) :
    GnOk P w K mg base k f fd ps sp' :=
  ⟨fun vs H Q E q => F.len vs H Q E (h _ _ _ _ q), fun A outer s H args us vs Q E hr hg he hb hv hs => F.run A outer s H args us vs Q E hr hg he hb hv (h _ _ _ _ hs)⟩
/-- a def by its body -/
theorem gn_of {P : Program} {w : World} {K : PySem.W.Frag} {mg : Str → Option Value} {base : Heap} {k : Nat} {x qual : Str} {params : Arguments} {body : List Stmt} {scope : Scope} {dvs : List V} {kws : List (Str × V)} {f : Addr} {fd : FuncData} {N ps : List Str} {sp : Sp}
    (F : FunD K x qual params body scope dvs kws f fd) (S : FnScope N ps scope) (len : ∀ vs H Q E, sp vs H Q E → vs.length = ps.length)
    (hbody : ∀ (cdv : Value) (A : Around) (outer : List Env) (s : Shared) (H : Hp) (vs : List V) (Q : VK) (E : XK), Room k (A.deeper (envOfC qual scope s.heap.objs.size f cdv)) → A.guards = some [] → sp vs H Q E →
      ∃ t, PSs (cxOf (L2.CX P w) P w K mg base N qual scope f cdv A outer s H E) body t ∧ t { nx := fun _ H' => Q .non H', rt := Q } (start N vs) H) : GnOk P w K mg base (k + 1) f fd ps sp := by
  rcases F.ex with ⟨oc, od, dV, kV, doc, pm, an, cdv, ct, osl, rfl, lk, hcd, _, _⟩
  constructor
  · exact len
  intro A outer s H args us vs Q E room hG e0 bound rv hsp
  have KIn : K.In s.heap := e0.mod.kin.keeps fun b o e => (e0.bs b o e).1
  have free : s.heap.NoLimit := e0.mod.nolimit.keeps fun b o e => (e0.bs b o e).1
  have kinds : ∀ y ∈ ps.zip us, scope.names.lookup y.1 = some .local ∨ (scope.names.lookup y.1 = some .cell ∧ ((cellsFrom (s.heap.objs.size + 1) scope.names []).lookup y.1).isSome = true) := by
    rintro ⟨n, v⟩ hy
    exact (S.par n (List.of_mem_zip hy).1).imp (fun q => q) fun q => ⟨q, PySem.W.cellsFrom_some _ _ _ (.inl q)⟩
  refine codeAny_call_function room.depth (KIn _ _ lk) rfl S.co S.gen rfl (PySem.W.codeRec_of KIn hcd) (bound _ _ _ _ (wpAny_newFunctionEnv_cells S.kind kinds fun env he s1 ic => ?_))
  subst he
  obtain ⟨t, ht, hq⟩ := hbody cdv A outer s H vs Q E (room.deeper _) hG hsp
  refine ⟨free.keeps ic.toInCall.keep, codeAny_func (wpAny_mono (ht.run [] s1 (start N vs) H _ (inv_start S room.hd e0 (len _ _ _ _ hsp) rv ic) hq) (fun fl s' hs => ?_) fun e s' hs => hs)⟩
  cases fl with
  | ret u =>
    obtain ⟨v, σ', H', J, r, q⟩ := hs
    exact ⟨v, H', J.os, J.bare, J.base, J.hok, r, q⟩
  | next =>
    obtain ⟨σ', H', J, q⟩ := hs
    exact ⟨.non, H', J.os, J.bare, J.base, J.hok, rfl, q⟩
  | brk =>
    obtain ⟨_, _, _, z⟩ := hs
    exact False.elim z
  | cont =>
    obtain ⟨_, _, _, z⟩ := hs
    exact False.elim z
/-- the callee runs -/
theorem run_gn {X : Cx} {k n : Nat} {f : Addr} {fd : FuncData} {ps ks : List Str} {sp : Sp} {g : List Value → List Value → List Value} {gV : List V → List V → List V} {W : WX} {pins : List (Addr × Obj)} {σ : L2.St} {H : Hp} {s : Shared} {Q : VK} {us ws : List Value} {vs zs : List V}
    (F : GnOk X.prog X.w X.K X.mg X.base k f fd ps sp) (hr : Room k X.A) (hG : X.A.guards = some []) (hb : KBn X.K fd ps n ks g gV) (tk : Takes X W) (I : Inv X pins σ H s) (r : Vals vs us) (rz : Vals zs ws) (l1 : vs.length = n) (l2 : zs.length = ks.length)
    (h : sp (gV vs zs) H Q (WE W σ)) : wpAny (model X.prog X.w) X.A (call (.ref f) us (ks.zip ws)) (EP X pins σ Q) X.xe s := by
  have both := hb.rel r rz
  refine wpAny_call (codeAny_mono (F.run X.A X.stack s H ⟨us, ks.zip ws⟩ (g us ws) (gV vs zs) Q (WE W σ) hr hG I.env0 (hb.to s us ws I.kIn (r.length.symm.trans l1) (rz.length.symm.trans l2)) both h) fun res s' out => ?_)
  match res, out with
  | .error e, out => exact passAt tk σ pins H s e s' I out
  | .ok (.ret u), out => exact I.after out
  | .ok .next, out => exact out.elim
  | .ok .brk, out => exact out.elim
  | .ok .cont, out => exact out.elim
/-- f(e, ..) -/
def tG (sp : Sp) (gV : List V → List V → List V) (n m : Nat) (W : WX) (t tk : TA) : TE := fun σ H Q => t σ H fun vs H1 => tk σ H1 fun zs H2 => vs.length = n ∧ zs.length = m ∧ sp (gV vs zs) H2 Q (WE W σ)
section
variable {X : Cx} {k n : Nat} {f : Addr} {fd : FuncData} {ps ks : List Str} {sp : Sp} {g : List Value → List Value → List Value} {gV : List V → List V → List V} {W : WX} {x : Str} {p pos : Pos} {e : Expr} {es : List Expr} {kws : List Keyword} {t tk : TA}
theorem pe_gn (F : GnOk X.prog X.w X.K X.mg X.base k f fd ps sp) (hr : Room k X.A) (hG : X.A.guards = some []) (hm : X.mg x = some (.ref f)) (hk : PySem.W.keepIn X.K (.ref f) = true) (hb : KBn X.K fd ps n [] g gV) (tx : Takes X W) (ha : PA X (e :: es) t) (hg : Gl X x)
    (hdb : (x == ("__debug__" : Str)) = false) (he : starEach (e :: es) X.env = (false, eval e X.env) :: starEach es X.env) (hpl : (backTo pos (starEach es X.env)).any (·.1) = false) :
    PE X (.Call (.Name x p) (e :: es) [] pos) (tG sp gV n 0 W t tNil) := by
  refine ⟨fun pins s σ H Q I h => wpAny_Call_Name_kw (ld_glob I hg hm (PySem.W.callWith_K (h₀ := X.base) I.ok.mod.kin hk (thn (ha.run pos pins s σ H _ I h) ?_) he hpl) hdb)⟩
  rintro us s1 ⟨vs, H1, I1, r, l1, l2, q⟩
  exact ⟨I1.kIn, run_gn (ks := []) (ws := []) F hr hG hb tx I1 r .nil l1 l2 q⟩
theorem pe_gn0 (F : GnOk X.prog X.w X.K X.mg X.base k f fd ps sp) (hr : Room k X.A) (hG : X.A.guards = some []) (hm : X.mg x = some (.ref f)) (hk : PySem.W.keepIn X.K (.ref f) = true) (hb : KBn X.K fd ps n [] g gV) (tx : Takes X W) (hg : Gl X x) (hdb : (x == ("__debug__" : Str)) = false) :
    PE X (.Call (.Name x p) [] [] pos) (tG sp gV n 0 W tNil tNil) := by
  refine ⟨fun pins s σ H Q I h => wpAny_Call_Name_kw (ld_glob I hg hm ?_ hdb)⟩
  obtain ⟨l1, l2, q⟩ := h
  exact PySem.W.callWith_K0 I.kIn hk (run_gn (us := []) (ks := []) (ws := []) F hr hG hb tx I .nil .nil l1 l2 q)
theorem pe_gnK (F : GnOk X.prog X.w X.K X.mg X.base k f fd ps sp) (hr : Room k X.A) (hG : X.A.guards = some []) (hm : X.mg x = some (.ref f)) (hk : PySem.W.keepIn X.K (.ref f) = true) (hb : KBn X.K fd ps n ks g gV) (tx : Takes X W) (ha : PA X (e :: es) t) (hkw : PK X kws tk) (hg : Gl X x)
    (hall : (backToKw pos (keywordEach kws X.env)).all (·.1.isSome) = true) (hks : (backToKw pos (keywordEach kws X.env)).filterMap (·.1) = ks) (hdb : (x == ("__debug__" : Str)) = false) (he : starEach (e :: es) X.env = (false, eval e X.env) :: starEach es X.env)
    (hpl : ((backTo pos (starEach (e :: es) X.env)).any (·.1) || (backToKw pos (keywordEach kws X.env)).any (·.1.isNone)) = false) : PE X (.Call (.Name x p) (e :: es) kws pos) (tG sp gV n ks.length W t tk) := by
  refine ⟨fun pins s σ H Q I h => wpAny_Call_Name_kw (ld_glob I hg hm (PySem.W.callWith_KW (h₀ := X.base) I.ok.mod.kin hk hall (thn (ha.run pos pins s σ H _ I h) ?_) hpl he) hdb)⟩
  rintro us s1 ⟨vs, H1, I1, r, q⟩
  refine thn (hkw.run pos pins s1 σ H1 _ I1 q) ?_
  rintro ws s2 ⟨zs, H2, I2, rz, l1, l2, q2⟩
  rw [hks]
  exact ⟨I2.kIn, run_gn F hr hG hb tx I2 r rz l1 l2 q2⟩
theorem pe_gnK0 (F : GnOk X.prog X.w X.K X.mg X.base k f fd ps sp) (hr : Room k X.A) (hG : X.A.guards = some []) (hm : X.mg x = some (.ref f)) (hk : PySem.W.keepIn X.K (.ref f) = true) (hb : KBn X.K fd ps n ks g gV) (tx : Takes X W) (hkw : PK X kws tk) (hg : Gl X x)
    (hall : (backToKw pos (keywordEach kws X.env)).all (·.1.isSome) = true) (hks : (backToKw pos (keywordEach kws X.env)).filterMap (·.1) = ks) (hdb : (x == ("__debug__" : Str)) = false)
    (hpl : ((backTo pos (starEach [] X.env)).any (·.1) || (backToKw pos (keywordEach kws X.env)).any (·.1.isNone)) = false) : PE X (.Call (.Name x p) [] kws pos) (tG sp gV n ks.length W tNil tk) := by
  refine ⟨fun pins s σ H Q I h => wpAny_Call_Name_kw (ld_glob I hg hm (PySem.W.callWith_KW0 (h₀ := X.base) I.ok.mod.kin hk hall (thn (hkw.run pos pins s σ H _ I h) ?_) hpl) hdb)⟩
  rintro ws s2 ⟨zs, H2, I2, rz, l1, l2, q2⟩
  rw [hks]
  exact ⟨I2.kIn, run_gn (us := []) F hr hG hb tx I2 .nil rz l1 l2 q2⟩
end

/-! ### what a def does, by data -/
abbrev FD := List D → Mem → QD → XD → Prop
def spD (K : PySem.W.Frag) (n : Nat) (F : FD) : Sp := fun vs H Q E => vs.length = n ∧ ∃ (ds : List D) (M : Mem) (P : QD) (Z : XD), MemOk K M H ∧ reps K (off M H) ds vs ∧ F ds M P Z ∧
  (∀ d M' u H', P d M' → Stp M H M' H' → MemOk K M' H' → rep K (off M' H') d u → Q u H') ∧ (∀ xn M' dd H', Z xn M' → Stp M H M' H' → MemOk K M' H' → xrep K (off M' H') H' dd xn.fs → E xn.cls dd H')
def Dfn (P : Program) (w : World) (K : PySem.W.Frag) (mg : Str → Option Value) (base : Heap) (k : Nat) (f : Addr) (fd : FuncData) (ps : List Str) (F : FD) : Prop := GnOk P w K mg base k f fd ps (spD K ps.length F)
theorem Dfn.imp {P : Program} {w : World} {K : PySem.W.Frag} {mg : Str → Option Value} {base : Heap} {k : Nat} {f : Addr} {fd : FuncData} {ps : List Str} {F F' : FD} (h : Dfn P w K mg base k f fd ps F) (hi : ∀ ds M Q Z, ds.length = ps.length → F' ds M Q Z → F ds M Q Z) : Dfn P w K mg base k f fd ps F' := by
  refine GnOk.imp h fun vs H Q E hs => ?_
  obtain ⟨hl, ds, M, Pd, Z, m, r, hF, h1, h2⟩ := hs
  exact ⟨hl, ds, M, Pd, Z, m, r, hi ds M Pd Z (by rw [← reps_length r]; exact hl) hF, h1, h2⟩
def dCall (F : FD) (f : DFs) : DF := fun env M Q E => f env M (fun ds M1 => F ds M1 Q E) E
def dCallK (F : FD) (gD : List D → List D → List D) (f h : DFs) : DF := fun env M Q E => f env M (fun ds M1 => h env M1 (fun es M2 => F (gD ds es) M2 Q E) E) E
/-- the arguments' order, by data -/
def OrdOk (K : PySem.W.Frag) (n m : Nat) (gD : List D → List D → List D) (gV : List V → List V → List V) : Prop := ∀ (G : Hp) (ds es : List D) (vs zs : List V), vs.length = n → zs.length = m → reps K G ds vs → reps K G es zs → reps K G (gD ds es) (gV vs zs)
theorem sim_G {K : PySem.W.Frag} {W : WX} {ta tk : TA} {f h : DFs} {F : FD} {gD : List D → List D → List D} {gV : List V → List V → List V} {n m np : Nat} (ho : OrdOk K n m gD gV) (hl : ∀ vs zs, vs.length = n → zs.length = m → (gV vs zs).length = np)
    (h1 : SimA K W n ta f) (h2 : SimA K W m tk h) : SimE K W (tG (spD K np F) gV n m W ta tk) (dCallK F gD f h) := by
  intro σ H env M Q P E rl hh k x
  refine h1 σ H env M _ _ E rl hh (fun ds M1 vs H1 p1 l1 s1 m1 r1 => ?_) x
  refine h2 σ H1 env M1 _ _ E (rl.to s1 m1) p1 (fun es M2 zs H2 p2 l2 s2 m2 r2 => ?_) (x.to s1)
  have e1 : vs.length = n := by rw [reps_length r1]; exact l1
  have e2 : zs.length = m := by rw [reps_length r2]; exact l2
  refine ⟨e1, e2, hl _ _ e1 e2, gD ds es, M2, P, E, m2, ho _ _ _ _ _ e1 e2 (s2.reps r1) r2, p2, fun d M3 u H3 p3 s3 m3 r3 => ?_, fun xn M3 dd H3 p3 s3 m3 r3 => ?_⟩
  · exact k d M3 u H3 p3 ((s1.trans s2).trans s3) m3 r3
  · exact (x.to (s1.trans s2)) xn M3 dd H3 p3 s3 m3 r3
theorem sim_G1 {K : PySem.W.Frag} {W : WX} {ta : TA} {f : DFs} {F : FD} {n : Nat} (h1 : SimA K W n ta f) : SimE K W (tG (spD K n F) (fun vs _ => vs) n 0 W ta tNil) (dCall F f) := by
  intro σ H env M Q P E rl hh k x
  refine h1 σ H env M _ _ E rl hh (fun ds M1 vs H1 p1 l1 s1 m1 r1 => ?_) x
  have e1 : vs.length = n := by rw [reps_length r1]; exact l1
  exact ⟨e1, rfl, e1, ds, M1, P, E, m1, r1, p1, fun d M3 u H3 p3 s3 m3 r3 => k d M3 u H3 p3 (s1.trans s3) m3 r3, fun xn M3 dd H3 p3 s3 m3 r3 => (x.to s1) xn M3 dd H3 p3 s3 m3 r3⟩

/-! ### calls, by data -/
/-- a def that stands at a name of the module -/
structure Def (X : Cx) (x : Str) (k : Nat) (ps : List Str) (F : FD) : Prop where
  ex : ∃ f fd, X.mg x = some (.ref f) ∧ PySem.W.keepIn X.K (.ref f) = true ∧ Binds X.K fd ps [] ∧ Dfn X.prog X.w X.K X.mg X.base k f fd ps F
theorem kbn_all {K : PySem.W.Frag} {fd : FuncData} {ps : List Str} (b : Binds K fd ps []) : KBn K fd ps ps.length [] (fun us _ => us) (fun vs _ => vs) := by
  refine ⟨fun s us ws h l1 l2 => ?_, fun r _ => r⟩
  have z := b s us h (by rw [List.append_nil]; exact l1)
  rw [List.append_nil] at z
  exact z
section
variable {X : Cx} {W : WX} {x : Str} {p pos : Pos} {e : Expr} {es : List Expr} {f : DFs} {k : Nat} {ps : List Str} {F : FD}
theorem d_call (T : Def X x k ps F) (hr : Room k X.A) (hG : X.A.guards = some []) (tk : Takes X W) (ha : DA X W (e :: es) f) (hl : (e :: es).length = ps.length := by rfl) (hg : Gl X x := by rfl) (hdb : (x == ("__debug__" : Str)) = false := by decide)
    (he : starEach (e :: es) X.env = (false, eval e X.env) :: starEach es X.env := by rfl) (hpl : (backTo pos (starEach es X.env)).any (·.1) = false := by rfl) : DE X W (.Call (.Name x p) (e :: es) [] pos) (dCall F f) := by
  obtain ⟨fa, fd, hm, hk, hb, G⟩ := T.ex
  obtain ⟨ta, pa, sa⟩ := ha
  rw [hl] at sa
  exact ⟨_, pe_gn G hr hG hm hk (kbn_all hb) tk pa hg hdb he hpl, sim_G1 sa⟩
end
end DL
set_option maxHeartbeats 4000001
namespace DL
open PySem PySem.Spec
open PyProof.Rows L2

/-! ### statements by data -/
structure EndsD where
  nx : EnvD → Mem → Prop
  rt : D → Mem → Prop
  bk : EnvD → Mem → Prop
  ct : EnvD → Mem → Prop
  ex : Xn → EnvD → Mem → Prop
abbrev SF := EndsD → EnvD → Mem → Prop
structure Fit (K : PySem.W.Frag) (W : WX) (M : Mem) (H : Hp) (D : Ends) (E : EndsD) : Prop where
  nx : ∀ env M' σ' H', E.nx env M' → Stp M H M' H' → Rel K env M' σ' H' → D.nx σ' H'
  rt : ∀ d M' u H', E.rt d M' → Stp M H M' H' → MemOk K M' H' → rep K (off M' H') d u → D.rt u H'
  bk : ∀ env M' σ' H', E.bk env M' → Stp M H M' H' → Rel K env M' σ' H' → D.bk σ' H'
  ct : ∀ env M' σ' H', E.ct env M' → Stp M H M' H' → Rel K env M' σ' H' → D.ct σ' H'
  ex : ∀ xn env M' dd σ' H', E.ex xn env M' → Stp M H M' H' → Rel K env M' σ' H' → xrep K (off M' H') H' dd xn.fs → W xn.cls dd σ' H'
theorem Fit.to {K : PySem.W.Frag} {W : WX} {M M1 : Mem} {H H1 : Hp} {D : Ends} {E : EndsD} (c : Fit K W M H D E) (s : Stp M H M1 H1) : Fit K W M1 H1 D E :=
  ⟨fun env M' σ' H' h s' => c.nx env M' σ' H' h (s.trans s'), fun d M' u H' h s' => c.rt d M' u H' h (s.trans s'), fun env M' σ' H' h s' => c.bk env M' σ' H' h (s.trans s'),
    fun env M' σ' H' h s' => c.ct env M' σ' H' h (s.trans s'), fun xn env M' dd σ' H' h s' => c.ex xn env M' dd σ' H' h (s.trans s')⟩
def SimS (K : PySem.W.Frag) (W : WX) (t : TS) (f : SF) : Prop := ∀ (σ : L2.St) (H : Hp) (env : EnvD) (M : Mem) (D : Ends) (E : EndsD), Rel K env M σ H → f E env M → Fit K W M H D E → t D σ H
def DS (X : Cx) (W : WX) (st : Stmt) (f : SF) : Prop := ∃ t, PS X st t ∧ SimS X.K W t f
def DSs (X : Cx) (W : WX) (sts : List Stmt) (f : SF) : Prop := ∃ t, PSs X sts t ∧ SimS X.K W t f
theorem Fit.xo {K : PySem.W.Frag} {W : WX} {M : Mem} {H : Hp} {D : Ends} {E : EndsD} {env : EnvD} {σ : L2.St} (c : Fit K W M H D E) (r : Rel K env M σ H) : XOk K W σ M H (fun xn M' => E.ex xn env M') :=
  fun xn M' dd H' h s m x => c.ex xn env M' dd σ H' h s (r.to s m) x

/-! targets -/
abbrev DG := D → EnvD → Mem → (EnvD → Mem → Prop) → Prop
abbrev DGs := List D → EnvD → Mem → (EnvD → Mem → Prop) → Prop
def SimG (K : PySem.W.Frag) (g : TG) (f : DG) : Prop := ∀ (d : D) (u : V) (σ : L2.St) (H : Hp) (env : EnvD) (M : Mem) (Q : L2.St → Hp → Prop) (P : EnvD → Mem → Prop), Rel K env M σ H → rep K (off M H) d u → f d env M P →
  (∀ env' M' σ' H', P env' M' → Stp M H M' H' → Rel K env' M' σ' H' → Q σ' H') → g u σ H Q
def SimGs (K : PySem.W.Frag) (g : TGs) (f : DGs) : Prop := ∀ (d : List D) (u : List V) (σ : L2.St) (H : Hp) (env : EnvD) (M : Mem) (Q : L2.St → Hp → Prop) (P : EnvD → Mem → Prop), Rel K env M σ H → reps K (off M H) d u → f d env M P →
  (∀ env' M' σ' H', P env' M' → Stp M H M' H' → Rel K env' M' σ' H' → Q σ' H') → g u σ H Q
def DGt (X : Cx) (tg : Expr) (f : DG) : Prop := ∃ g, PG X tg g ∧ SimG X.K g f
def DGts (X : Cx) (tgs : List Expr) (f : DGs) : Prop := ∃ g, PGs X tgs g ∧ SimGs X.K g f
def gNm (i : Nat) : DG := fun d env M Q => Q (env.set i (some d)) M
def gsNil : DGs := fun ds env M Q => ds = [] ∧ Q env M
def gsCons (f : DG) (g : DGs) : DGs := fun ds env M Q => match ds with
  | d :: r => f d env M fun env1 M1 => g r env1 M1 Q
  | [] => False
def gTupD (n : Nat) (g : DGs) : DG := fun d env M Q => match d with
  | .tup l => l.length = n ∧ g l env M Q
  | _ => False
theorem simg_nm {K : PySem.W.Frag} {i : Nat} : SimG K (gName i) (gNm i) := fun d u σ H env M Q P r h hf k => k _ M _ H hf (Stp.refl _ _) (r.set i h)
theorem simgs_nil {K : PySem.W.Frag} : SimGs K gNil gsNil := by
  intro d u σ H env M Q P r h hf k
  obtain ⟨rfl, hp⟩ := hf
  cases h
  exact ⟨rfl, k _ M _ H hp (Stp.refl _ _) r⟩
theorem simgs_cons {K : PySem.W.Frag} {g : TG} {gs : TGs} {f : DG} {fs : DGs} (h1 : SimG K g f) (h2 : SimGs K gs fs) : SimGs K (gCons g gs) (gsCons f fs) := by
  intro d u σ H env M Q P r h hf k
  cases d with
  | nil => exact False.elim hf
  | cons d ds =>
    obtain ⟨w, us, rfl, q1, q2⟩ := h
    refine ⟨w, us, rfl, h1 d w σ H env M _ _ r q1 hf fun env1 M1 σ1 H1 p1 s1 r1 => ?_⟩
    exact h2 ds us σ1 H1 env1 M1 _ _ r1 (s1.reps q2) p1 fun env2 M2 σ2 H2 p2 s2 r2 => k env2 M2 σ2 H2 p2 (s1.trans s2) r2
theorem simg_tup {K : PySem.W.Frag} {gs : TGs} {fs : DGs} {n : Nat} (h1 : SimGs K gs fs) : SimG K (gTup K n gs) (gTupD n fs) := by
  intro d u σ H env M Q P r h hf k
  unfold gTupD at hf
  split at hf
  · obtain ⟨a, vs, rfl, q1, q2⟩ := h
    exact ⟨a, vs, rfl, sqT_same off_le q1, by rw [reps_length q2]; exact hf.1, h1 _ _ σ H env M _ _ r q2 hf.2 k⟩
  · exact hf.elim
section
variable {X : Cx} {e : Expr} {es : List Expr} {f : DG} {fs : DGs} {pos : Pos}
theorem g_name (i : Nat) {x : Str} (hN : X.N.Nodup) (hi : X.N[i]? = some x := by rfl) (hx : L2.Loc X.env.scope x := by first | exact Or.inl rfl | exact Or.inr rfl) (hf : X.fn x = true ∨ X.env.scope.names.lookup x = some .local := by first | exact .inl rfl | exact .inr rfl) : DGt X (.Name x pos) (gNm i) := ⟨_, pg_name hN hi hx hf, simg_nm⟩
theorem gs_nil : DGts X [] gsNil := ⟨_, pgs_nil, simgs_nil⟩
theorem gs_cons (h1 : DGt X e f) (h2 : DGts X es fs) (hs : (assignEach (e :: es) X.env).map (·.2) = assign e X.env :: (assignEach es X.env).map (·.2) := by rfl) : DGts X (e :: es) (gsCons f fs) := let ⟨_, p1, s1⟩ := h1; let ⟨_, p2, s2⟩ := h2; ⟨_, pgs_cons p1 p2 hs, simgs_cons s1 s2⟩
theorem g_tup {k n : Nat} (hc : X.calm = true) (h : DGts X es fs) (hn : (assignEach es X.env).length = n := by rfl) (hst : (assignEach es X.env).findIdx? (·.1) = none := by rfl) : DGt X (.Tuple es k pos) (gTupD n fs) :=
  let ⟨_, p, s⟩ := h
  ⟨_, pg_tup hc p hn hst, simg_tup s⟩
end

/-! plain statements -/
def sNext : SF := fun E env M => E.nx env M
def sSeq (f g : SF) : SF := fun E env M => f { E with nx := g E } env M
def sDrop (f : DF) : SF := fun E env M => f env M (fun _ M1 => E.nx env M1) (fun xn M1 => E.ex xn env M1)
def sRet (f : DF) : SF := fun E env M => f env M E.rt (fun xn M1 => E.ex xn env M1)
def sRetN : SF := fun E _ M => E.rt .non M
def sIf (c : DFt) (f g : SF) : SF := fun E env M => c env M (fun b M1 => bsel b (f E env M1) (g E env M1)) (fun xn M1 => E.ex xn env M1)
def sAsg (f : DF) (g : DG) : SF := fun E env M => f env M (fun d M1 => g d env M1 E.nx) (fun xn M1 => E.ex xn env M1)
def sBreak : SF := fun E env M => E.bk env M
def sCont : SF := fun E env M => E.ct env M
section
variable {K : PySem.W.Frag} {W : WX} {t u : TS} {f g : SF} {te : TE} {fe : DF} {c : TT} {fc : DFt} {tg : TG} {fg : DG}
theorem sims_next : SimS K W tNext sNext := fun σ H env M D E r h c => c.nx env M σ H h (Stp.refl _ _) r
theorem sims_break : SimS K W tBreak sBreak := fun σ H env M D E r h c => c.bk env M σ H h (Stp.refl _ _) r
theorem sims_cont : SimS K W tCont sCont := fun σ H env M D E r h c => c.ct env M σ H h (Stp.refl _ _) r
theorem sims_seq (h1 : SimS K W t f) (h2 : SimS K W u g) : SimS K W (tSeq t u) (sSeq f g) := by
  intro σ H env M D E r h c
  refine h1 σ H env M _ _ r h ⟨fun env' M' σ' H' q s r' => ?_, c.rt, c.bk, c.ct, c.ex⟩
  exact h2 σ' H' env' M' D E r' q (c.to s)
theorem sims_drop (h1 : SimE K W te fe) : SimS K W (tDrop te) (sDrop fe) := fun σ H env M D E r h c =>
  h1 σ H env M _ _ _ r h (fun d M' v H' p s m _ => c.nx env M' σ H' p s (r.to s m)) (c.xo r)
theorem sims_ret (h1 : SimE K W te fe) : SimS K W (tRet te) (sRet fe) := fun σ H env M D E r h c =>
  h1 σ H env M _ _ _ r h (fun d M' v H' p s m q => c.rt d M' v H' p s m q) (c.xo r)
theorem sims_retN : SimS K W tRetN sRetN := fun σ H env M D E r h c => c.rt .non M .non H h (Stp.refl _ _) r.mem rfl
theorem sims_if (h0 : SimT K W c fc) (h1 : SimS K W t f) (h2 : SimS K W u g) : SimS K W (tIfS c t u) (sIf fc f g) := by
  intro σ H env M D E r h k
  refine h0 σ H env M _ _ _ r h (fun b M' H' p s m => ?_) (k.xo r)
  cases b with
  | true => exact iteT (h1 σ H' env M' D E (r.to s m) (p.1 rfl) (k.to s))
  | false => exact iteF (h2 σ H' env M' D E (r.to s m) (p.2 rfl) (k.to s))
theorem sims_asg (h1 : SimE K W te fe) (h2 : SimG K tg fg) : SimS K W (tAsg te tg) (sAsg fe fg) := by
  intro σ H env M D E r h k
  refine h1 σ H env M _ _ _ r h (fun d M' v H' p s m q => ?_) (k.xo r)
  exact h2 d v σ H' env M' _ _ (r.to s m) q p fun env2 M2 σ2 H2 p2 s2 r2 => k.nx env2 M2 σ2 H2 p2 (s.trans s2) r2
end
section
variable {X : Cx} {W : WX} {f g : SF} {fe : DF} {fc : DFt} {fg : DG} {st : Stmt} {sts rest a b : List Stmt} {e c tg : Expr} {pos : Pos}
theorem ds_nil : DSs X W [] sNext := ⟨_, pss_nil, sims_next⟩
theorem ds_cons (h1 : DS X W st f) (h2 : DSs X W rest g) : DSs X W (st :: rest) (sSeq f g) := let ⟨_, p1, s1⟩ := h1; let ⟨_, p2, s2⟩ := h2; ⟨_, pss_cons p1 p2, sims_seq s1 s2⟩
theorem ds_one (h1 : DS X W st f) : DSs X W [st] f := let ⟨_, p1, s1⟩ := h1; ⟨_, pss_one p1, s1⟩
theorem s_expr (h1 : DE X W e fe) (hs : swapsWith e none pos.line X.env = pure false := by rfl) : DS X W (.Expr e pos) (sDrop fe) := let ⟨_, p1, s1⟩ := h1; ⟨_, ps_expr p1 hs, sims_drop s1⟩
theorem s_ret (h1 : DE X W e fe) : DS X W (.Return (some e) pos) (sRet fe) := let ⟨_, p1, s1⟩ := h1; ⟨_, ps_ret p1, sims_ret s1⟩
theorem s_retN : DS X W (.Return none pos) sRetN := ⟨_, ps_retN, sims_retN⟩
theorem s_pass : DS X W (.Pass pos) sNext := ⟨_, ps_pass, sims_next⟩
theorem s_break : DS X W (.Break pos) sBreak := ⟨_, ps_break, sims_break⟩
theorem s_cont : DS X W (.Continue pos) sCont := ⟨_, ps_continue, sims_cont⟩
theorem s_if (h0 : DT X W c fc) (h1 : DSs X W a f) (h2 : DSs X W b g) : DS X W (.If c a b pos) (sIf fc f g) := let ⟨_, p0, s0⟩ := h0; let ⟨_, p1, s1⟩ := h1; let ⟨_, p2, s2⟩ := h2; ⟨_, ps_if p0 p1 p2, sims_if s0 s1 s2⟩
theorem s_set (i : Nat) {x : Str} {pos' : Pos} (h1 : DE X W e fe) (hN : X.N.Nodup) (hi : X.N[i]? = some x := by rfl) (hx : L2.Loc X.env.scope x := by first | exact Or.inl rfl | exact Or.inr rfl) (hsw : swapsWith e (some (.Name x pos')) pos.line X.env = pure false := by rfl)
    (hf : X.fn x = true ∨ X.env.scope.names.lookup x = some .local := by first | exact .inl rfl | exact .inr rfl) : DS X W (.Assign [.Name x pos'] e pos) (sAsg fe (gNm i)) :=
  let ⟨_, p1, s1⟩ := h1
  ⟨_, ps_set hN hi hx p1 hsw hf, sims_asg s1 simg_nm⟩
theorem s_asg (h1 : DE X W e fe) (h2 : DGt X tg fg) (hsw : swapsWithSole [tg] e pos.line X.env = pure false := by rfl) (hw : swappedStores [tg] e X.env = pure none := by rfl) (ha : (assignEach [tg] X.env).map (·.2) = [assign tg X.env] := by rfl) : DS X W (.Assign [tg] e pos) (sAsg fe fg) :=
  let ⟨_, p1, s1⟩ := h1
  let ⟨_, p2, s2⟩ := h2
  ⟨_, ps_asg p1 p2 hsw hw ha, sims_asg s1 s2⟩
end
end DL
set_option maxHeartbeats 4000001
namespace DL
open PySem PySem.Spec
open PyProof.Rows L2

/-! ### stores into lists, methods of lists -/
def noX : XD := fun _ _ => False
theorem noX_ok {K : PySem.W.Frag} {W : WX} {σ : L2.St} {M : Mem} {H : Hp} : XOk K W σ M H noX := fun _ _ _ _ h => False.elim h
/-- the list at a -/
def lstAt (M : Mem) (a : Addr) (P : List D → Prop) : Prop := match M a with
  | some (.lst l) => P l
  | _ => False
def atRef (d : D) (P : Addr → Prop) : Prop := match d with
  | .v (.ref a) => P a
  | _ => False
def asI (d : D) (P : Int → Prop) : Prop := match d with
  | .v (.int i) => P i
  | _ => False
theorem of_lstAt {M : Mem} {a : Addr} {P : List D → Prop} (h : lstAt M a P) : ∃ l, M a = some (.lst l) ∧ P l := by
  unfold lstAt at h
  split at h
  · rename_i l e
    exact ⟨l, e, h⟩
  · exact h.elim
theorem of_atRef {d : D} {P : Addr → Prop} (h : atRef d P) : ∃ a, d = .ref a ∧ P a := by
  unfold atRef at h
  split at h
  · exact ⟨_, rfl, h⟩
  · exact h.elim
theorem of_asI {d : D} {P : Int → Prop} (h : asI d P) : ∃ a, d = .int a ∧ P a := by
  unfold asI at h
  split at h
  · exact ⟨_, rfl, h⟩
  · exact h.elim
/-- o[i] = d -/
def gSubD (fo fi : DF) : DG := fun d env M Q => fo env M (fun o M1 => fi env M1 (fun i M2 => atRef o fun a => asI i fun k => lstAt M2 a fun l => ∃ j, ixN l.length k = some j ∧ Q env (mput M2 a (.lst (l.set j d)))) noX) noX
theorem simg_sub {K : PySem.W.Frag} {to ti : TE} {fo fi : DF} (h1 : SimE K (fun _ _ _ _ => False) to fo) (h2 : SimE K (fun _ _ _ _ => False) ti fi) : SimG K (gSub to ti rSetL) (gSubD fo fi) := by
  intro d u σ H env M Q P r h hf k
  refine h1 σ H env M _ _ noX r hf (fun o M1 w H1 p1 s1 m1 r1 => ?_) noX_ok
  refine h2 σ H1 env M1 _ _ noX (r.to s1 m1) p1 (fun i M2 z H2 p2 s2 m2 r2 => ?_) noX_ok
  obtain ⟨a, rfl, p2⟩ := of_atRef p2
  obtain ⟨n, rfl, p2⟩ := of_asI p2
  obtain ⟨l, hl, j, hj, q⟩ := of_lstAt p2
  obtain ⟨vs, e1, e2⟩ := m2 a _ hl
  have s12 := s1.trans s2
  have hne : M2 a ≠ none := by rw [hl]; simp
  have e3 := reps_set (s12.rep h) j e2
  refine ⟨a, vs, n, j, r1, r2, e1, by rw [reps_length e2]; exact hj, ?_⟩
  exact k _ _ _ _ q (s12.trans (stp_upd hne)) ((r.to s12 m2).to (stp_upd hne) (mem_upd m2 hne e3))
theorem g_sub {X : Cx} {o i : Expr} {fo fi : DF} {pos : Pos} (h1 : DE X (fun _ _ _ _ => False) o fo) (h2 : DE X (fun _ _ _ _ => False) i fi)
    (ha : ∀ x0, assign (.Subscript o i pos) X.env x0 = (do
      let ov ← holding [x0] (eval o X.env)
      let iv ← holding [x0, ov] (eval i X.env)
      standAt pos
      holding [x0, ov, iv] (setItem ov iv x0)
      release [x0, ov, iv] []) := by intro _; rfl) : DGt X (.Subscript o i pos) (gSubD fo fi) :=
  let ⟨_, p1, s1⟩ := h1
  let ⟨_, p2, s2⟩ := h2
  ⟨_, pg_sub p1 p2 set_list ha, simg_sub s1 s2⟩
/-- xs.append(e) -/
def dApp (fo fe : DF) : DF := fun env M Q E => fo env M (fun o M1 => atRef o fun a => lstAt M1 a fun _ => fe env M1 (fun d M2 => lstAt M2 a fun l => l.length < 1000000 ∧ Q .non (mput M2 a (.lst (l ++ [d])))) E) E
theorem line6 {n : Nat} (h : n < 1000000) : n < sizeLine := Nat.lt_of_lt_of_le h (by rw [sizeLine_eq]; decide)
theorem sim_app {K : PySem.W.Frag} {W : WX} {to te : TE} {fo fe : DF} (h1 : SimE K W to fo) (h2 : SimE K W te fe) : SimE K W (tBM K "list" rAppend to (tCons te tNil)) (dApp fo fe) := by
  intro σ H env M Q P E rl h k x
  refine h1 σ H env M _ _ E rl h (fun o M1 u H1 p1 s1 m1 r1 => ?_) x
  obtain ⟨a, rfl, p1⟩ := of_atRef p1
  obtain ⟨l0, hl0, p1⟩ := of_lstAt p1
  have eu : u = .ref a := r1
  subst eu
  obtain ⟨vs0, e0, _⟩ := m1 a _ hl0
  refine ⟨.inl ⟨rfl, vs0, .inl (.inl e0)⟩, ?_⟩
  refine h2 σ H1 env M1 _ _ E (rl.to s1 m1) p1 (fun d M2 w H2 p2 s2 m2 r2 => ?_) (x.to s1)
  obtain ⟨l, hl, hz, q⟩ := of_lstAt p2
  obtain ⟨vs, e1, e2⟩ := m2 a _ hl
  have hne : M2 a ≠ none := by rw [hl]; simp
  refine ⟨a, vs, w, rfl, rfl, e1, line6 (by rw [reps_length e2]; exact hz), ?_⟩
  exact k _ _ _ _ q ((s1.trans s2).trans (stp_upd hne)) (mem_upd m2 hne (reps_append e2 ⟨w, [], rfl, r2, rfl⟩)) rfl
/-- xs.pop() -/
def dPop (fo : DF) : DF := fun env M Q E => fo env M (fun o M1 => atRef o fun a => lstAt M1 a fun l => ∃ d, l[l.length - 1]? = some d ∧ Q d (mput M1 a (.lst l.dropLast))) E
theorem reps_dropLast {K : PySem.W.Frag} {G : Hp} {l : List D} {us : List V} (h : reps K G l us) : reps K G l.dropLast us.dropLast := by
  rw [List.dropLast_eq_take, List.dropLast_eq_take, reps_length h]
  exact reps_take _ h
theorem sim_pop {K : PySem.W.Frag} {W : WX} {to : TE} {fo : DF} (h1 : SimE K W to fo) : SimE K W (tBM0 K "list" rPop to) (dPop fo) := by
  intro σ H env M Q P E rl h k x
  refine h1 σ H env M _ _ E rl h (fun o M1 u H1 p1 s1 m1 r1 => ?_) x
  obtain ⟨a, rfl, p1⟩ := of_atRef p1
  obtain ⟨l, hl, d, hd, q⟩ := of_lstAt p1
  have eu : u = .ref a := r1
  subst eu
  obtain ⟨vs, e1, e2⟩ := m1 a _ hl
  have hne : M1 a ≠ none := by rw [hl]; simp
  obtain ⟨z, z1, z2⟩ := reps_get e2 hd
  refine ⟨.inl ⟨rfl, vs, .inl (.inl e1)⟩, a, vs, z, rfl, rfl, e1, by rw [reps_length e2]; exact z1, ?_⟩
  have s2 : Stp M1 H1 (mput M1 a (.lst l.dropLast)) (upd H1 a (.lst vs.dropLast)) := stp_upd hne
  exact k _ _ _ _ q (s1.trans s2) (mem_upd m1 hne (reps_dropLast e2)) (s2.rep z2)
section
variable {X : Cx} {W : WX} {o e : Expr} {fo fe : DF} {apos cpos : Pos}
theorem d_append (h1 : DE X W o fo) (h2 : DE X W e fe) (hbase : attributeBase o "append" X.env (eval o X.env) = eval o X.env := by rfl)
    (hfew : ((backTo cpos (starEach (e :: []) X.env)).all (fun x => !x.1) && (backToKw cpos (keywordEach [] X.env)).all (fun x => x.1.isSome)
      && decide ((e :: []).length + ([] : List Keyword).length + (if ([] : List Keyword).isEmpty then 0 else 1) < 30)) = true := by rfl)
    (hline : (apos.endLine == cpos.line) = true := by rfl) (hs : starEach (e :: []) X.env = (false, eval e X.env) :: starEach [] X.env := by rfl) (hplain : (backTo cpos (starEach [] X.env)).any (·.1) = false := by rfl) :
    DE X W (.Call (.Attribute o "append" apos) (e :: []) [] cpos) (dApp fo fe) :=
  let ⟨_, p1, s1⟩ := h1
  let ⟨_, p2, s2⟩ := h2
  ⟨_, pe_bm PySem.F.plainAttrs_list PySem.F.slot_list_append PySem.F.type_list_append mt_append p1 (pa_cons p2 pa_nil hs) hbase hfew hline hs hplain, sim_app s1 s2⟩
theorem d_pop (h1 : DE X W o fo) (hbase : attributeBase o "pop" X.env (eval o X.env) = eval o X.env := by rfl) (hline : (apos.endLine == cpos.line) = true := by rfl) : DE X W (.Call (.Attribute o "pop" apos) [] [] cpos) (dPop fo) :=
  let ⟨_, p1, s1⟩ := h1
  ⟨_, pe_bm0 PySem.F.plainAttrs_list PySem.F.slot_list_pop PySem.F.type_list_pop mt_pop p1 hbase hline, sim_pop s1⟩
end

/-! ### what does not change any more -/
def dFrz (f : DF) : DF := fun env M Q E => f env M (fun d M1 => atRef d fun a => lstAt M1 a fun l => Q (.lst l) (mdel M1 a)) E
theorem sim_frz {K : PySem.W.Frag} {W : WX} {te : TE} {f : DF} (h1 : SimE K W te f) : SimE K W te (dFrz f) := by
  intro σ H env M Q P E rl h k x
  refine h1 σ H env M _ _ E rl h (fun o M1 u H1 p1 s1 m1 r1 => ?_) x
  obtain ⟨a, rfl, p1⟩ := of_atRef p1
  obtain ⟨l, hl, q⟩ := of_lstAt p1
  have eu : u = .ref a := r1
  subst eu
  exact k _ _ _ _ q (s1.trans stp_del) (mem_del m1) (rep_del m1 hl)
theorem d_frz {X : Cx} {W : WX} {e : Expr} {f : DF} (h : DE X W e f) : DE X W e (dFrz f) := let ⟨_, p, s⟩ := h; ⟨_, p, sim_frz s⟩
/-- ahead of a statement: slot i's list does not change any more -/
def sFrz (i : Nat) (f : SF) : SF := fun E env M => match env[i]? with
  | some (some d) => atRef d fun a => lstAt M a fun l => f E (env.set i (some (.lst l))) (mdel M a)
  | _ => False
theorem sims_frz {K : PySem.W.Frag} {W : WX} {t : TS} {f : SF} {i : Nat} (h1 : SimS K W t f) : SimS K W t (sFrz i f) := by
  intro σ H env M D E r h c
  unfold sFrz at h
  split at h
  · rename_i d e
    obtain ⟨a, rfl, p1⟩ := of_atRef h
    obtain ⟨l, hl, q⟩ := of_lstAt p1
    obtain ⟨u, e1, e2⟩ := r.get i _ e
    have eu : u = .ref a := e2
    subst eu
    have r2 := ((r.to stp_del (mem_del r.mem (p := a))).set i (rep_del r.mem hl))
    have eσ : σ.set i (some (.ref a)) = σ := by
      apply List.ext_getElem?
      intro j
      by_cases hj : i = j
      · subst hj
        rw [List.getElem?_set_self (by
          rcases Nat.lt_or_ge i σ.length with z | z
          · exact z
          · rw [List.getElem?_eq_none z] at e1
            cases e1), e1]
      · rw [List.getElem?_set_ne hj]
    rw [eσ] at r2
    exact h1 σ H _ _ D E r2 q (c.to stp_del)
  · exact h.elim
theorem s_frz {X : Cx} {W : WX} {st : Stmt} {f : SF} (i : Nat) (h : DS X W st f) : DS X W st (sFrz i f) := let ⟨_, p, s⟩ := h; ⟨_, p, sims_frz s⟩
theorem ss_frz {X : Cx} {W : WX} {st : List Stmt} {f : SF} (i : Nat) (h : DSs X W st f) : DSs X W st (sFrz i f) := let ⟨_, p, s⟩ := h; ⟨_, p, sims_frz s⟩

/-! ### one reading for all contexts -/
def tF (K : PySem.W.Frag) (W : WX) (f : DF) : TE := fun σ H Q => ∃ env M P E, Rel K env M σ H ∧ f env M P E ∧ (∀ d M' u H', P d M' → Stp M H M' H' → MemOk K M' H' → rep K (off M' H') d u → Q u H') ∧ XOk K W σ M H E
def tFt (K : PySem.W.Frag) (W : WX) (f : DFt) : TT := fun σ H Q => ∃ env M P E, Rel K env M σ H ∧ f env M P E ∧ (∀ b M' H', P b M' → Stp M H M' H' → MemOk K M' H' → Q b H') ∧ XOk K W σ M H E
def tFs (K : PySem.W.Frag) (W : WX) (f : SF) : TS := fun D σ H => ∃ env M E, Rel K env M σ H ∧ f E env M ∧ Fit K W M H D E
theorem DE.pe {X : Cx} {W : WX} {e : Expr} {f : DF} (h : DE X W e f) : PE X e (tF X.K W f) := by
  obtain ⟨t, p, sm⟩ := h
  refine (⟨fun pins s σ H Q I hq => ?_⟩)
  obtain ⟨env, M, P, E, r, hf, k, x⟩ := hq
  exact p.run pins s σ H Q I (sm σ H env M Q P E r hf k x)
theorem DT.pt {X : Cx} {W : WX} {e : Expr} {f : DFt} (h : DT X W e f) : PT X e (tFt X.K W f) := by
  obtain ⟨t, p, sm⟩ := h
  refine (⟨fun pins s σ H Q I hq => ?_⟩)
  obtain ⟨env, M, P, E, r, hf, k, x⟩ := hq
  exact p.run pins s σ H Q I (sm σ H env M Q P E r hf k x)
theorem DSs.ps {X : Cx} {W : WX} {e : List Stmt} {f : SF} (h : DSs X W e f) : PSs X e (tFs X.K W f) := by
  obtain ⟨t, p, sm⟩ := h
  refine (⟨fun pins s σ H D I hq => ?_⟩)
  obtain ⟨env, M, E, r, hf, k⟩ := hq
  exact p.run pins s σ H D I (sm σ H env M D E r hf k)

/-! ### what is walked -/
def Yld (K : PySem.W.Frag) (J : It) (ds : List D) (Kp : Mem → Prop) (M1 : Mem) (H1 : Hp) : Prop := ∃ (G : Hp → Prop) (Y : Nat → Hp → V → Hp → Prop), Walk J ds.length G Y ∧ (∀ M2 H2, Stp M1 H1 M2 H2 → MemOk K M2 H2 → Kp M2 → G H2) ∧
  ∀ i d M2 H2 x H3, ds[i]? = some d → Stp M1 H1 M2 H2 → MemOk K M2 H2 → Kp M2 → Y i H2 x H3 → Stp M2 H2 M2 H3 ∧ MemOk K M2 H3 ∧ rep K (off M2 H3) d x
abbrev DFi := EnvD → Mem → (List D → (Mem → Prop) → Mem → Prop) → XD → Prop
def SimI (K : PySem.W.Frag) (W : WX) (wi : TI) (f : DFi) : Prop := ∀ (σ : L2.St) (H : Hp) (env : EnvD) (M : Mem) (R : It → Hp → Prop) (P : List D → (Mem → Prop) → Mem → Prop) (E : XD), Rel K env M σ H → f env M P E →
  (∀ ds Kp M' H' J, P ds Kp M' → Stp M H M' H' → MemOk K M' H' → Yld K J ds Kp M' H' → R J H') → XOk K W σ M H E → wi σ H R
def DI (X : Cx) (W : WX) (tg iter : Expr) (f : DFi) : Prop := ∃ wi, PI X tg iter wi ∧ SimI X.K W wi f
/-- what keeps a list that may change as it is -/
def keepOf (M : Mem) (d : D) : Mem → Prop := match d with
  | .v (.ref a) => fun M2 => M2 a = M a
  | _ => fun _ => True
theorem seq_keep {K : PySem.W.Frag} {M1 M2 : Mem} {H1 H2 : Hp} {d : D} {b : Bool} {l : List D} {a : Addr} {vs : List V} (m1 : MemOk K M1 H1) (h : seqD M1 d = some (b, l)) (r : rep K (off M1 H1) d (.ref a)) (hq : Sq K H1 b a vs) (hr : reps K (off M1 H1) l vs)
    (s : Stp M1 H1 M2 H2) (m2 : MemOk K M2 H2) (k : keepOf M1 d M2) : ∃ ws, Sq K H2 b a ws ∧ reps K (off M2 H2) l ws := by
  cases d with
  | lst l' =>
    cases h
    obtain ⟨a', ws, e1, e2, e3⟩ := r
    cases e1
    exact ⟨ws, off_le.seq (s.same.seq e2), s.reps e3⟩
  | tup l' =>
    cases h
    obtain ⟨a', ws, e1, e2, e3⟩ := r
    cases e1
    exact ⟨ws, sqT_same off_le (sqT_same s.same e2), s.reps e3⟩
  | dct _ => cases h
  | exn _ _ _ => cases h
  | v x =>
    have e : V.ref a = x := r
    subst e
    simp only [seqD] at h
    split at h
    · rename_i l2 e
      cases h
      have k' : M2 a = M1 a := k
      rw [e] at k'
      obtain ⟨ws, e1, e2⟩ := m2 a _ k'
      exact ⟨ws, .inl (.inl e1), e2⟩
    · cases h
def iSq (f : DF) : DFi := fun env M Q E => f env M (fun d M1 => match seqD M1 d with
  | some (_, l) => Q l (keepOf M1 d) M1
  | none => False) E
theorem simi_seq {K : PySem.W.Frag} {W : WX} {te : TE} {f : DF} (h1 : SimE K W te f) : SimI K W (iSeq K te) (iSq f) := by
  intro σ H env M R P E rl h k x
  refine h1 σ H env M _ _ E rl h (fun d M1 u H1 p1 s1 m1 r1 => ?_) x
  split at p1
  · rename_i b l e
    obtain ⟨a, vs, rfl, q1, q2⟩ := seq_rep m1 e r1
    have hl := reps_length q2
    refine ⟨a, rfl, ?_⟩
    cases b with
    | true =>
      refine .inl ⟨⟨vs, q1⟩, k l _ M1 H1 _ p1 s1 m1 ⟨fun H => ∃ ws, SqL K H a ws ∧ ws.length = l.length, fun i H2 x H3 => H3 = H2 ∧ ∀ ws, SqL K H2 a ws → ws[i]? = some x, ?_, fun M2 H2 s2 m2 kp => ?_, fun i d' M2 H2 x H3 hi s2 m2 kp y => ?_⟩⟩
      · refine ⟨fun i H hi ⟨ws, w1, w2⟩ => ⟨ws, ws[i]'(by omega), w1, by simp [show i < ws.length by omega]⟩, fun H ⟨ws, w1, w2⟩ => ⟨ws, w1, Nat.le_of_eq w2⟩, fun i H x H' hi _ y => y⟩
      · obtain ⟨ws, w1, w2⟩ := seq_keep m1 e r1 q1 q2 s2 m2 kp
        exact ⟨ws, w1, reps_length w2⟩
      · obtain ⟨rfl, y2⟩ := y
        obtain ⟨ws, w1, w2⟩ := seq_keep m1 e r1 q1 q2 s2 m2 kp
        obtain ⟨z, z1, z2⟩ := reps_get w2 hi
        have z3 := y2 ws w1
        rw [z1] at z3
        cases z3
        exact ⟨Stp.refl _ _, m2, z2⟩
    | false =>
      refine .inr ⟨⟨vs, q1⟩, k l _ M1 H1 _ p1 s1 m1 ⟨fun H => ∃ ws, SqT K H a ws ∧ ws.length = l.length, fun i H2 x H3 => H3 = H2 ∧ ∀ ws, SqT K H2 a ws → ws[i]? = some x, ?_, fun M2 H2 s2 m2 kp => ?_, fun i d' M2 H2 x H3 hi s2 m2 kp y => ?_⟩⟩
      · refine ⟨fun i H hi ⟨ws, w1, w2⟩ => ⟨ws, ws[i]'(by omega), w1, by simp [show i < ws.length by omega]⟩, fun H ⟨ws, w1, w2⟩ => ⟨ws, w1, Nat.le_of_eq w2⟩, fun i H x H' hi _ y => y⟩
      · obtain ⟨ws, w1, w2⟩ := seq_keep m1 e r1 q1 q2 s2 m2 kp
        exact ⟨ws, w1, reps_length w2⟩
      · obtain ⟨rfl, y2⟩ := y
        obtain ⟨ws, w1, w2⟩ := seq_keep m1 e r1 q1 q2 s2 m2 kp
        obtain ⟨z, z1, z2⟩ := reps_get w2 hi
        have z3 := y2 ws w1
        rw [z1] at z3
        cases z3
        exact ⟨Stp.refl _ _, m2, z2⟩
  · exact p1.elim
theorem di_seq {X : Cx} {W : WX} {tg e : Expr} {f : DF} (h : DE X W e f) : DI X W tg e (iSq f) := let ⟨_, p, s⟩ := h; ⟨_, pi_seq p, simi_seq s⟩
/-- range(n) -/
def rangeD (n : Int) : List D := (List.range n.toNat).map fun i => .int (i : Nat)
def iRg (f : DF) : DFi := fun env M Q E => f env M (fun d M1 => asI d fun n => (-(2 ^ 62) ≤ n ∧ n < 2 ^ 62) ∧ Q (rangeD n) (fun _ => True) M1) E
theorem simi_rg {K : PySem.W.Frag} {W : WX} {te : TE} {f : DF} (h1 : SimE K W te f) : SimI K W (iRng1 (tCons te tNil)) (iRg f) := by
  intro σ H env M R P E rl h k x
  refine h1 σ H env M _ _ E rl h (fun d M1 u H1 p1 s1 m1 r1 => ?_) x
  obtain ⟨n, rfl, ⟨b1, b2⟩, q⟩ := of_asI p1
  have eu : u = .int n := r1
  subst eu
  refine ⟨n, rfl, b1, b2, k _ _ M1 H1 _ q s1 m1 ?_⟩
  have hl : (rangeD n).length = n.toNat := by simp [rangeD]
  unfold Yld
  rw [hl]
  refine ⟨_, _, walk_range, fun _ _ _ _ _ => True.intro, fun i d' M2 H2 x H3 hi s2 m2 _ y => ?_⟩
  obtain ⟨rfl, rfl⟩ := y
  refine ⟨Stp.refl _ _, m2, ?_⟩
  unfold rangeD at hi
  rw [List.getElem?_map] at hi
  cases e : (List.range n.toNat)[i]? with
  | none =>
    rw [e] at hi
    cases hi
  | some j =>
    rw [e] at hi
    cases hi
    have z := List.getElem?_eq_some_iff.mp e
    obtain ⟨z1, z2⟩ := z
    rw [List.getElem_range] at z2
    subst z2
    show V.int _ = V.int _
    rw [Int.zero_add]
theorem di_rg {X : Cx} {W : WX} {tg a : Expr} {f : DF} {p pos : Pos} (hm : X.mg "range" = none) (h : DE X W a f) (hg : Gl X "range" := by rfl) (hs : starEach [a] X.env = [(false, eval a X.env)] := by rfl) : DI X W tg (.Call (.Name "range" p) [a] [] pos) (iRg f) :=
  let ⟨_, q, s⟩ := h
  ⟨_, pi_range1 hg hm (pa_cons q pa_nil hs) hs, simi_rg s⟩
/-- enumerate(xs) -/
def enumD (l : List D) : List D := l.mapIdx fun i d => .tup [.int (i : Nat), d]
def iEn (f : DF) : DFi := fun env M Q E => f env M (fun d M1 => match seqD M1 d with
  | some (_, l) => Q (enumD l) (keepOf M1 d) M1
  | none => False) E
theorem simi_en {K : PySem.W.Frag} {W : WX} {te : TE} {f : DF} (h1 : SimE K W te f) : SimI K W (iEnumA K (tCons te tNil)) (iEn f) := by
  intro σ H env M R P E rl h k x
  refine h1 σ H env M _ _ E rl h (fun d M1 u H1 p1 s1 m1 r1 => ?_) x
  split at p1
  · rename_i b l e
    obtain ⟨a, vs, rfl, q1, q2⟩ := seq_rep m1 e r1
    have hl := reps_length q2
    have hel : (enumD l).length = l.length := by simp [enumD]
    have pair : ∀ {i : Nat} {d' : D} {M2 : Mem} {H2 H3 : Hp} {x y : V} {T : Addr}, (enumD l)[i]? = some d' → MemOk K M2 H2 → H2 T = none → H3 = upd H2 T (.tup [.int (i : Nat), y]) → x = .ref T → (∃ d0, l[i]? = some d0 ∧ rep K (off M2 H2) d0 y) → Stp M2 H2 M2 H3 ∧ MemOk K M2 H3 ∧ rep K (off M2 H3) d' x := by
      intro i d' M2 H2 H3 x y T hi m2 hT e3 ex hy
      subst e3 ex
      obtain ⟨d0, g1, g2⟩ := hy
      have s3 : Stp M2 H2 M2 (upd H2 T (.tup [.int (i : Nat), y])) := stp_new hT
      refine ⟨s3, mem_new m2 hT, ?_⟩
      unfold enumD at hi
      rw [List.getElem?_mapIdx, g1] at hi
      cases hi
      refine ⟨T, _, rfl, .inl (.inl (by rw [off_none (m2.none hT)]; exact upd_same)), _, _, rfl, rfl, y, [], rfl, s3.rep g2, rfl⟩
    cases b with
    | true =>
      refine ⟨a, vs, rfl, .inl ⟨q1, k _ _ M1 H1 _ p1 s1 m1 ?_⟩⟩
      refine ⟨fun H => ∃ ws, SqL K H a ws ∧ ws.length = l.length, fun i H2 x H3 => ∃ T y, x = .ref T ∧ H2 T = none ∧ H3 = upd H2 T (.tup [.int (i : Nat), y]) ∧ ∀ ws, SqL K H2 a ws → ws[i]? = some y, ?_, fun M2 H2 s2 m2 kp => ?_, fun i d' M2 H2 x H3 hi s2 m2 kp y => ?_⟩
      · rw [hel]
        refine ⟨fun i H hi ⟨ws, w1, w2⟩ => ⟨ws, ws[i]'(by omega), w1, by simp [show i < ws.length by omega]⟩, fun H ⟨ws, w1, w2⟩ => ⟨ws, w1, Nat.le_of_eq w2⟩, fun i H x H' hi _ y => y⟩
      · obtain ⟨ws, w1, w2⟩ := seq_keep m1 e r1 q1 q2 s2 m2 kp
        exact ⟨ws, w1, reps_length w2⟩
      · obtain ⟨T, y, g1, g2, g3, g4⟩ := y
        obtain ⟨ws, w1, w2⟩ := seq_keep m1 e r1 q1 q2 s2 m2 kp
        have hlt : i < l.length := by
          have z := (List.getElem?_eq_some_iff.mp hi).1
          rw [hel] at z
          exact z
        obtain ⟨z, z1, z2⟩ := reps_get (i := i) (d := l[i]) w2 (by simp [hlt])
        have z3 := g4 ws w1
        rw [z1] at z3
        cases z3
        exact pair hi m2 g2 g3 g1 ⟨l[i], by simp [hlt], z2⟩
    | false =>
      refine ⟨a, vs, rfl, .inr ⟨q1, k _ _ M1 H1 _ p1 s1 m1 ?_⟩⟩
      refine ⟨fun H => ∃ ws, SqT K H a ws ∧ ws.length = l.length, fun i H2 x H3 => ∃ T y, x = .ref T ∧ H2 T = none ∧ H3 = upd H2 T (.tup [.int (i : Nat), y]) ∧ ∀ ws, SqT K H2 a ws → ws[i]? = some y, ?_, fun M2 H2 s2 m2 kp => ?_, fun i d' M2 H2 x H3 hi s2 m2 kp y => ?_⟩
      · rw [hel]
        refine ⟨fun i H hi ⟨ws, w1, w2⟩ => ⟨ws, ws[i]'(by omega), w1, by simp [show i < ws.length by omega]⟩, fun H ⟨ws, w1, w2⟩ => ⟨ws, w1, w2⟩, fun i H x H' hi _ y => y⟩
      · obtain ⟨ws, w1, w2⟩ := seq_keep m1 e r1 q1 q2 s2 m2 kp
        exact ⟨ws, w1, reps_length w2⟩
      · obtain ⟨T, y, g1, g2, g3, g4⟩ := y
        obtain ⟨ws, w1, w2⟩ := seq_keep m1 e r1 q1 q2 s2 m2 kp
        have hlt : i < l.length := by
          have z := (List.getElem?_eq_some_iff.mp hi).1
          rw [hel] at z
          exact z
        obtain ⟨z, z1, z2⟩ := reps_get (i := i) (d := l[i]) w2 (by simp [hlt])
        have z3 := g4 ws w1
        rw [z1] at z3
        cases z3
        exact pair hi m2 g2 g3 g1 ⟨l[i], by simp [hlt], z2⟩
  · exact p1.elim
theorem di_en {X : Cx} {W : WX} {e : Expr} {f : DF} {elts : List Expr} {kk : Nat} {p pos tpos : Pos} (hm : X.mg "enumerate" = none) (h : DE X W e f) (hg : Gl X "enumerate" := by rfl) (hs : starEach [e] X.env = [(false, eval e X.env)] := by rfl) :
    DI X W (.Tuple elts kk tpos) (.Call (.Name "enumerate" p) [e] [] pos) (iEn f) :=
  let ⟨_, q, s⟩ := h
  ⟨_, pi_enumA hg hm (pa_cons q pa_nil hs) hs, simi_en s⟩
end DL
set_option maxHeartbeats 4000001
namespace DL
open PySem PySem.Spec
open PyProof.Rows L2

/-! ### for -/
def forL (Kp : Mem → Prop) (g : DG) (b : SF) (E : EndsD) : List D → EnvD → Mem → Prop
  | [], env, M => Kp M ∧ E.nx env M
  | d :: ds, env, M => Kp M ∧ g d env M fun env1 M1 => b { E with nx := forL Kp g b E ds, ct := forL Kp g b E ds, bk := E.nx } env1 M1
def sFor (fi : DFi) (g : DG) (b : SF) : SF := fun E env M => fi env M (fun ds Kp M1 => forL Kp g b E ds env M1) (fun xn M1 => E.ex xn env M1)
theorem sims_for {K : PySem.W.Frag} {W : WX} {wi : TI} {fi : DFi} {tg : TG} {g : DG} {tb : TS} {b : SF} (h1 : SimI K W wi fi) (h2 : SimG K tg g) (h3 : SimS K W tb b) : SimS K W (tFor wi tg tb) (sFor fi g b) := by
  intro σ H env M D E r h c
  refine h1 σ H env M _ _ _ r h (fun ds Kp M1 H1 J p s1 m1 y => ?_) (c.xo r)
  obtain ⟨G, Y, wk, hG, hY⟩ := y
  refine for_it wk (fun i σ2 H2 => ∃ env2 M2, Stp M1 H1 M2 H2 ∧ Rel K env2 M2 σ2 H2 ∧ forL Kp g b E (ds.drop i) env2 M2) ⟨env, M1, Stp.refl _ _, r.to s1 m1, by rw [List.drop_zero]; exact p⟩ ?_ ?_ ?_
  · rintro i σ2 H2 hi ⟨env2, M2, s2, r2, q⟩
    refine hG M2 H2 s2 r2.mem ?_
    cases e : ds.drop i with
    | nil =>
      rw [e] at q
      exact q.1
    | cons d t =>
      rw [e] at q
      exact q.1
  · rintro i x σ2 H2 H3 hi ⟨env2, M2, s2, r2, q⟩ hy
    have hd : ds[i]? = some ds[i] := by simp [hi]
    rw [List.drop_eq_getElem_cons hi] at q
    obtain ⟨kp, q⟩ := q
    obtain ⟨s3, m3, rp⟩ := hY i _ M2 H2 x H3 hd s2 r2.mem kp hy
    refine h2 _ x σ2 H3 env2 M2 _ _ (r2.to s3 m3) rp q fun env4 M4 σ4 H4 p4 s4 r4 => ?_
    have s14 := (s2.trans s3).trans s4
    refine h3 σ4 H4 env4 M4 _ _ r4 p4 ⟨fun env5 M5 σ5 H5 p5 s5 r5 => ⟨env5, M5, s14.trans s5, r5, p5⟩, fun d M' u H' p5 s5 => c.rt d M' u H' p5 ((s1.trans s14).trans s5), fun env5 M5 σ5 H5 p5 s5 r5 => c.nx env5 M5 σ5 H5 p5 ((s1.trans s14).trans s5) r5,
      fun env5 M5 σ5 H5 p5 s5 r5 => ⟨env5, M5, s14.trans s5, r5, p5⟩, fun xn env5 M5 dd σ5 H5 p5 s5 => c.ex xn env5 M5 dd σ5 H5 p5 ((s1.trans s14).trans s5)⟩
  · rintro σ2 H2 ⟨env2, M2, s2, r2, q⟩
    rw [List.drop_length] at q
    exact c.nx env2 M2 σ2 H2 q.2 (s1.trans s2) r2
theorem s_for {X : Cx} {W : WX} {tg iter : Expr} {body : List Stmt} {fi : DFi} {g : DG} {b : SF} {pos : Pos} (hp : PassesOwn (model X.prog X.w) X.A X.env X.xe) (hc : X.calm = true) (hi : DI X W tg iter fi) (hg : DGt X tg g) (hb : DSs X W body b)
    (hs : ∀ x, foldedSetIterable iter X.env x = pure x := by intro _; rfl) : DS X W (.For tg iter body [] pos) (sFor fi g b) :=
  let ⟨_, p1, s1⟩ := hi
  let ⟨_, p2, s2⟩ := hg
  let ⟨_, p3, s3⟩ := hb
  ⟨_, ps_for hp hc p1 p2 p3 hs, sims_for s1 s2 s3⟩

/-! ### list comprehensions -/
def wipeD (env : EnvD) : List Nat → EnvD
  | [] => env
  | v :: vs => (wipeD env vs).set v none
theorem Rel.wipe {K : PySem.W.Frag} {env : EnvD} {M : Mem} {σ : L2.St} {H : Hp} (r : Rel K env M σ H) : ∀ vs : List Nat, Rel K (wipeD env vs) M (wipe σ vs) H
  | [] => r
  | v :: vs => (Rel.wipe r vs).unset v
theorem wipe_get (σ : L2.St) (j : Nat) : ∀ vs : List Nat, (wipe σ vs)[j]? = if j ∈ vs ∧ j < σ.length then some none else σ[j]?
  | [] => by simp [wipe]
  | v :: vs => by
    unfold wipe
    have ih := wipe_get σ j vs
    by_cases hv : v = j
    · subst hv
      by_cases hl : v < σ.length
      · rw [List.getElem?_set_self (by rw [wipe_length]; exact hl), if_pos ⟨List.mem_cons_self, hl⟩]
      · rw [List.getElem?_eq_none (by rw [List.length_set, wipe_length]; omega), if_neg (fun z => hl z.2), List.getElem?_eq_none (by omega)]
    · rw [List.getElem?_set_ne hv, ih]
      by_cases hm : j ∈ vs ∧ j < σ.length
      · rw [if_pos hm, if_pos ⟨List.mem_cons_of_mem _ hm.1, hm.2⟩]
      · rw [if_neg hm, if_neg]
        rintro ⟨z1, z2⟩
        rcases List.mem_cons.mp z1 with e | e
        · exact hv e.symm
        · exact hm ⟨e, z2⟩
theorem wipe_set {σ : L2.St} {vs : List Nat} {i : Nat} {x : Option V} (h : i ∈ vs) : wipe (σ.set i x) vs = wipe σ vs := by
  apply List.ext_getElem?
  intro j
  rw [wipe_get, wipe_get, List.length_set]
  by_cases hj : j ∈ vs ∧ j < σ.length
  · rw [if_pos hj, if_pos hj]
  · rw [if_neg hj, if_neg hj]
    by_cases e : i = j
    · subst e
      have hl : ¬ i < σ.length := fun z => hj ⟨h, z⟩
      rw [List.getElem?_eq_none (by rw [List.length_set]; omega), List.getElem?_eq_none (by omega)]
    · rw [List.getElem?_set_ne e]
theorem wipe_wipe (σ : L2.St) (vs : List Nat) : wipe (wipe σ vs) vs = wipe σ vs := by
  apply List.ext_getElem?
  intro j
  rw [wipe_get, wipe_length, wipe_get]
  by_cases hj : j ∈ vs ∧ j < σ.length
  · rw [if_pos hj]
    rw [if_pos hj]
  · rw [if_neg hj]
/-- it stores to these slots alone -/
def OnlyG (vs : List Nat) (g : TG) : Prop := ∀ u σ H (Q Q' : L2.St → Hp → Prop), g u σ H Q → (∀ σ2 H2, wipe σ2 vs = wipe σ vs → Q σ2 H2 → Q' σ2 H2) → g u σ H Q'
def OnlyGs (vs : List Nat) (g : TGs) : Prop := ∀ u σ H (Q Q' : L2.St → Hp → Prop), g u σ H Q → (∀ σ2 H2, wipe σ2 vs = wipe σ vs → Q σ2 H2 → Q' σ2 H2) → g u σ H Q'
theorem only_name {vs : List Nat} {i : Nat} (h : i ∈ vs) : OnlyG vs (gName i) := fun u σ H Q Q' q k => k _ _ (wipe_set h) q
theorem only_nil {vs : List Nat} : OnlyGs vs gNil := fun u σ H Q Q' q k => ⟨q.1, k _ _ rfl q.2⟩
theorem only_cons {vs : List Nat} {i : Nat} {gs : TGs} (h : i ∈ vs) (h2 : OnlyGs vs gs) : OnlyGs vs (gCons (gName i) gs) := by
  rintro u σ H Q Q' ⟨v, r, rfl, q⟩ k
  exact ⟨v, r, rfl, h2 r (σ.set i (some v)) H Q Q' q fun σ2 H2 e => k σ2 H2 (e.trans (wipe_set h))⟩
theorem only_tup {K : PySem.W.Frag} {vs : List Nat} {n : Nat} {gs : TGs} (h : OnlyGs vs gs) : OnlyG vs (gTup K n gs) := by
  rintro u σ H Q Q' ⟨a, xs, e, q1, q2, q⟩ k
  exact ⟨a, xs, e, q1, q2, h _ _ _ _ _ q k⟩
/-- the turns: the new list stands at a -/
def compL (Kp : Mem → Prop) (a : Addr) (g : DG) (env : EnvD) (ft : DFt) (fe : DF) (Q : QD) : List D → Mem → Prop
  | [], M => Kp M ∧ Q (.ref a) M
  | d :: ds, M => Kp M ∧ g d env M fun env1 M1 => ft env1 M1 (fun b M2 => bsel b (fe env1 M2 (fun y M3 => lstAt M3 a fun acc => acc.length < 1000000 ∧ compL Kp a g env ft fe Q ds (mput M3 a (.lst (acc ++ [y])))) noX) (compL Kp a g env ft fe Q ds M2)) noX
def dLc (fi : DFi) (g : DG) (vs : List Nat) (ft : DFt) (fe : DF) : DF := fun env M Q E => fi env M (fun ds Kp M1 => ∀ a, M1 a = none → compL Kp a g (wipeD env vs) ft fe Q ds (mput M1 a (.lst []))) E
theorem Yld.put {K : PySem.W.Frag} {J : It} {ds : List D} {Kp : Mem → Prop} {M1 : Mem} {H1 : Hp} (y : Yld K J ds Kp M1 H1) {a : Addr} {o : HO} {u : MO} (h : H1 a = none) : Yld K J ds Kp (mput M1 a u) (upd H1 a o) := by
  obtain ⟨G, Y, wk, hG, hY⟩ := y
  exact ⟨G, Y, wk, fun M2 H2 s => hG M2 H2 ((stp_put h).trans s), fun i d M2 H2 x H3 e s => hY i d M2 H2 x H3 e ((stp_put h).trans s)⟩
theorem sim_lc {K : PySem.W.Frag} {W : WX} {wi : TI} {fi : DFi} {tg : TG} {g : DG} {vs : List Nat} {tt : TT} {ft : DFt} {te : TE} {fe : DF} (h1 : SimI K W wi fi) (h2 : SimG K tg g) (ho : OnlyG vs tg) (h3 : SimT K (fun _ _ _ _ => False) tt ft) (h4 : SimE K (fun _ _ _ _ => False) te fe) :
    SimE K W (tLc wi tg tt te vs) (dLc fi g vs ft fe) := by
  intro σ H env M Q P E r h k x
  refine h1 σ H env M _ _ E r h (fun ds Kp M1 H1 J p s1 m1 y => ?_) x
  intro a ha
  have y2 : Yld K J ds Kp (mput M1 a (.lst [])) (upd H1 a (.lst [])) := y.put ha
  obtain ⟨G, Y, wk, hG, hY⟩ := y2
  have p0 := p a (m1.none ha)
  have s0 : Stp M1 H1 (mput M1 a (.lst [])) (upd H1 a (.lst [])) := stp_put ha
  have m0 : MemOk K (mput M1 a (.lst [])) (upd H1 a (.lst [])) := mem_put m1 ha rfl
  refine lc_it wk (Qd := fun H => Q (.ref a) H) (fun i H2 => ∃ M2, Stp (mput M1 a (.lst [])) (upd H1 a (.lst [])) M2 H2 ∧ MemOk K M2 H2 ∧ compL Kp a g (wipeD env vs) ft fe P (ds.drop i) M2) ⟨_, Stp.refl _ _, m0, by rw [List.drop_zero]; exact p0⟩ ?_ ?_ ?_
  · rintro i H2 hi ⟨M2, s2, m2, q⟩
    refine hG M2 H2 s2 m2 ?_
    cases e : ds.drop i with
    | nil =>
      rw [e] at q
      exact q.1
    | cons d t =>
      rw [e] at q
      exact q.1
  · rintro i v H2 H3 hi ⟨M2, s2, m2, q⟩ hy
    have hd : ds[i]? = some ds[i] := by simp [hi]
    rw [List.drop_eq_getElem_cons hi] at q
    obtain ⟨kp, q⟩ := q
    obtain ⟨s3, m3, rp⟩ := hY i _ M2 H2 v H3 hd s2 m2 kp hy
    have s03 := (s0.trans s2).trans s3
    have rw1 : Rel K (wipeD env vs) M2 (wipe σ vs) H3 := (r.to (s1.trans s03) m3).wipe vs
    refine ho v _ H3 _ _ (h2 _ v _ H3 _ M2 (fun σ4 H4 => ∃ env4 M4, _ ∧ Stp M2 H3 M4 H4 ∧ Rel K env4 M4 σ4 H4) _ rw1 rp q fun env4 M4 σ4 H4 p4 s4 r4 => ⟨env4, M4, p4, s4, r4⟩) ?_
    rintro σ4 H4 hw ⟨env4, M4, p4, s4, r4⟩
    refine ⟨hw.trans (wipe_wipe _ _), ?_⟩
    have s24 := (s2.trans s3).trans s4
    refine h3 σ4 H4 env4 M4 _ _ noX r4 p4 (fun b M5 H5 p5 s5 m5 => ?_) noX_ok
    have s25 := s24.trans s5
    cases b with
    | false => exact iteF ⟨M5, s25, m5, p5.2 rfl⟩
    | true =>
      refine iteT (h4 σ4 H5 env4 M5 _ _ noX (r4.to s5 m5) (p5.1 rfl) (fun d6 M6 u6 H6 p6 s6 m6 r6 => ?_) noX_ok)
      obtain ⟨acc, e6, hz, q6⟩ := of_lstAt p6
      obtain ⟨us, e7, e8⟩ := m6 a _ e6
      have hne : M6 a ≠ none := by rw [e6]; simp
      refine ⟨us, e7, line6 (by rw [reps_length e8]; exact hz), _, (s25.trans s6).trans (stp_upd hne), mem_upd m6 hne (reps_append (m := [d6]) e8 ⟨u6, [], rfl, r6, rfl⟩), q6⟩
  · rintro H2 ⟨M2, s2, m2, q⟩
    rw [List.drop_length] at q
    exact k _ M2 _ H2 q.2 ((s1.trans s0).trans s2) m2 rfl
/-- [elt for x in iter if ..] -/
def dYes : DFt := fun _ M Q _ => Q true M
theorem sim_yes {K : PySem.W.Frag} {W : WX} : SimT K W tYes dYes := fun σ H env M Q P E r h k _ => k true M H h (Stp.refl _ _) r.mem
section
variable {X : Cx} {W : WX} {elt iter cond : Expr} {tg : Expr} {scope : Scope} {own : List (Str × Nat)} {pos : Pos} {fi : DFi} {fe : DF} {ft : DFt} {g : TG} {gd : DG}
theorem d_lc (own : List (Str × Nat)) (g : TG) (hc : X.calm = true) (hN : X.N.Nodup) (hi : DI X W tg iter fi) (ok : blkC X.N X.env.scope scope own = true)
    (hg : ∀ (s : Shared) (H : Hp) (C : Addr) (cl : List (Str × Addr)) (fp : List Addr), PG (X.blk s H scope (compEnvC scope cl C X.env) fp) tg g) (sg : SimG X.K g gd) (og : OnlyG (own.map (·.2)) g)
    (he : ∀ (s : Shared) (H : Hp) (C : Addr) (cl : List (Str × Addr)) (fp : List Addr), DE (X.blk s H scope (compEnvC scope cl C X.env) fp) (fun _ _ _ _ => False) elt fe) (hs : ∀ x, foldedSetIterable iter X.env x = pure x := by intro _; rfl) :
    DE X W (.ListComp elt [⟨tg, iter, [], 0⟩] scope pos) (dLc fi gd (own.map (·.2)) dYes fe) := by
  obtain ⟨wi, p1, s1⟩ := hi
  exact ⟨_, pe_lc (own := own) (g := g) (tt := tYes) (te := tF X.K (fun _ _ _ _ => False) fe) hc hN p1 (blkOk_by ok) hg (fun _ _ _ _ _ => pts_nil) (fun s H C cl fp => (he s H C cl fp).pe) hs,
    sim_lc s1 sg og sim_yes (fun σ H env M Q P E r h k x => ⟨env, M, P, E, r, h, k, x⟩)⟩
theorem d_lcIf (own : List (Str × Nat)) (g : TG) (hc : X.calm = true) (hN : X.N.Nodup) (hi : DI X W tg iter fi) (ok : blkC X.N X.env.scope scope own = true)
    (hg : ∀ (s : Shared) (H : Hp) (C : Addr) (cl : List (Str × Addr)) (fp : List Addr), PG (X.blk s H scope (compEnvC scope cl C X.env) fp) tg g) (sg : SimG X.K g gd) (og : OnlyG (own.map (·.2)) g)
    (ht : ∀ (s : Shared) (H : Hp) (C : Addr) (cl : List (Str × Addr)) (fp : List Addr), DT (X.blk s H scope (compEnvC scope cl C X.env) fp) (fun _ _ _ _ => False) cond ft)
    (he : ∀ (s : Shared) (H : Hp) (C : Addr) (cl : List (Str × Addr)) (fp : List Addr), DE (X.blk s H scope (compEnvC scope cl C X.env) fp) (fun _ _ _ _ => False) elt fe) (hs : ∀ x, foldedSetIterable iter X.env x = pure x := by intro _; rfl) :
    DE X W (.ListComp elt [⟨tg, iter, [cond], 0⟩] scope pos) (dLc fi gd (own.map (·.2)) ft fe) := by
  obtain ⟨wi, p1, s1⟩ := hi
  exact ⟨_, pe_lc (own := own) (g := g) (tt := tFt X.K (fun _ _ _ _ => False) ft) (te := tF X.K (fun _ _ _ _ => False) fe) hc hN p1 (blkOk_by ok) hg (fun s H C cl fp => pts_one (ht s H C cl fp).pt) (fun s H C cl fp => (he s H C cl fp).pe) hs,
    sim_lc s1 sg og (fun σ H env M Q P E r h k x => ⟨env, M, P, E, r, h, k, x⟩) (fun σ H env M Q P E r h k x => ⟨env, M, P, E, r, h, k, x⟩)⟩
/-- name = [..] on one line -/
theorem s_setLc (i : Nat) {y : Str} {py spos : Pos} (own : List (Str × Nat)) (g : TG) (hc : X.calm = true) (hN : X.N.Nodup) (hi : DI X W tg iter fi) (ok : blkC X.N X.env.scope scope own = true)
    (hg : ∀ (s : Shared) (H : Hp) (C : Addr) (cl : List (Str × Addr)) (fp : List Addr), PG (X.blk s H scope (compEnvC scope cl C X.env) fp) tg g) (sg : SimG X.K g gd) (og : OnlyG (own.map (·.2)) g)
    (he : ∀ (s : Shared) (H : Hp) (C : Addr) (cl : List (Str × Addr)) (fp : List Addr), DE (X.blk s H scope (compEnvC scope cl C X.env) fp) (fun _ _ _ _ => False) elt fe)
    (hsw : swapsWith (.ListComp elt [⟨tg, iter, [], 0⟩] scope pos) (some (.Name y py)) spos.line X.env = pure true) (hy : X.N[i]? = some y := by rfl) (hyl : X.env.scope.names.lookup y = some .local := by rfl) (hs : ∀ x, foldedSetIterable iter X.env x = pure x := by intro _; rfl) :
    DS X W (.Assign [.Name y py] (.ListComp elt [⟨tg, iter, [], 0⟩] scope pos) spos) (sAsg (dLc fi gd (own.map (·.2)) dYes fe) (gNm i)) := by
  obtain ⟨wi, p1, s1⟩ := hi
  exact ⟨_, ps_setLc (own := own) (g := g) (tt := tYes) (te := tF X.K (fun _ _ _ _ => False) fe) hc hN hy hyl hsw p1 (blkOk_by ok) hg (fun _ _ _ _ _ => pts_nil) (fun s H C cl fp => (he s H C cl fp).pe) hs,
    sims_asg (sim_lc s1 sg og sim_yes (fun σ H env M Q P E r h k x => ⟨env, M, P, E, r, h, k, x⟩)) simg_nm⟩
theorem s_setLcF (i : Nat) {y : Str} {py spos : Pos} (own : List (Str × Nat)) (g : TG) (hc : X.calm = true) (hN : X.N.Nodup) (hi : DI X W tg iter fi) (ok : blkC X.N X.env.scope scope own = true)
    (hg : ∀ (s : Shared) (H : Hp) (C : Addr) (cl : List (Str × Addr)) (fp : List Addr), PG (X.blk s H scope (compEnvC scope cl C X.env) fp) tg g) (sg : SimG X.K g gd) (og : OnlyG (own.map (·.2)) g)
    (he : ∀ (s : Shared) (H : Hp) (C : Addr) (cl : List (Str × Addr)) (fp : List Addr), DE (X.blk s H scope (compEnvC scope cl C X.env) fp) (fun _ _ _ _ => False) elt fe)
    (hsw : swapsWith (.ListComp elt [⟨tg, iter, [], 0⟩] scope pos) (some (.Name y py)) spos.line X.env = pure true) (hy : X.N[i]? = some y := by rfl) (hyl : X.env.scope.names.lookup y = some .local := by rfl) (hs : ∀ x, foldedSetIterable iter X.env x = pure x := by intro _; rfl) :
    DS X W (.Assign [.Name y py] (.ListComp elt [⟨tg, iter, [], 0⟩] scope pos) spos) (sAsg (dFrz (dLc fi gd (own.map (·.2)) dYes fe)) (gNm i)) := by
  obtain ⟨wi, p1, s1⟩ := hi
  exact ⟨_, ps_setLc (own := own) (g := g) (tt := tYes) (te := tF X.K (fun _ _ _ _ => False) fe) hc hN hy hyl hsw p1 (blkOk_by ok) hg (fun _ _ _ _ _ => pts_nil) (fun s H C cl fp => (he s H C cl fp).pe) hs,
    sims_asg (sim_frz (sim_lc s1 sg og sim_yes (fun σ H env M Q P E r h k x => ⟨env, M, P, E, r, h, k, x⟩))) simg_nm⟩
end
end DL
set_option maxHeartbeats 4000001
namespace DL
open PySem PySem.Spec
open PyProof.Rows L2

/-! ### a def by its body -/
def startD (N : List Str) (ds : List D) : EnvD := ds.map some ++ List.replicate (N.length - ds.length) none
theorem start_rel {K : PySem.W.Frag} {M : Mem} {H : Hp} {N : List Str} {ds : List D} {vs : List V} (m : MemOk K M H) (r : reps K (off M H) ds vs) : Rel K (startD N ds) M (L2.start N vs) H := by
  refine ⟨?_, fun i d e => ?_, m⟩
  · unfold startD L2.start
    simp [reps_length r]
  · have hi : i < ds.length := by
      unfold startD at e
      by_cases hi : i < ds.length
      · exact hi
      · rw [List.getElem?_append_right (by simpa using hi), List.getElem?_replicate] at e
        split at e <;> cases e
    unfold startD at e
    rw [List.getElem?_append_left (by simpa using hi), List.getElem?_map] at e
    cases q : ds[i]? with
    | none =>
      rw [q] at e
      cases e
    | some d' =>
      rw [q] at e
      cases e
      obtain ⟨u, h1, h2⟩ := reps_get r q
      refine ⟨u, ?_, h2⟩
      unfold L2.start
      rw [List.getElem?_append_left (by rw [List.length_map, reps_length r]; exact hi), List.getElem?_map, h1]
      rfl
def bodyF (N : List Str) (f : SF) : FD := fun ds M P Z => f { nx := fun _ M' => P .non M', rt := P, bk := fun _ _ => False, ct := fun _ _ => False, ex := fun xn _ M' => Z xn M' } (startD N ds) M
/-- where a body stands -/
structure Go (X : Cx) (k : Nat) : Prop where
  room : Room k X.A
  gd : X.A.guards = some []
theorem dfn_of {P : Program} {w : World} {K : PySem.W.Frag} {mg : Str → Option Value} {base : Heap} {k : Nat} {x qual : Str} {params : Arguments} {body : List Stmt} {scope : Scope} {dvs : List V} {kws : List (Str × V)} {f : Addr} {fd : FuncData} {N ps : List Str} {fb : SF}
    (F : FunD K x qual params body scope dvs kws f fd) (S : FnScope N ps scope)
    (hb : ∀ (cdv : Value) (A : Around) (outer : List Env) (s : Shared) (H : Hp) (E : XK), Go (cxOf (L2.CX P w) P w K mg base N qual scope f cdv A outer s H E) k →
      DSs (cxOf (L2.CX P w) P w K mg base N qual scope f cdv A outer s H E) (fun cls d _ H' => E cls d H') body fb) :
    Dfn P w K mg base (k + 1) f fd ps (bodyF N fb) := by
  refine gn_of F S (fun vs H Q E h => h.1) fun cdv A outer s H vs Q E hr hG hsp => ?_
  obtain ⟨hl, ds, M, Pd, Z, m, r, hF, h1, h2⟩ := hsp
  obtain ⟨t, ht, st⟩ := hb cdv A outer s H E ⟨hr, hG⟩
  refine ⟨t, ht, st _ H _ M _ _ (start_rel m r) hF ⟨fun env' M' σ' H' q s' r' => ?_, fun d M' u H' q s' m' r' => h1 d M' u H' q s' m' r', fun _ _ _ _ z => z.elim, fun _ _ _ _ z => z.elim, fun xn env' M' dd σ' H' q s' r' x => h2 xn M' dd H' q s' r'.mem x⟩⟩
  exact h1 .non M' .non H' q s' r'.mem rfl
theorem takes_cx {P : Program} {w : World} {K : PySem.W.Frag} {mg : Str → Option Value} {base : Heap} {N : List Str} {qual : Str} {scope : Scope} {f : Addr} {cdv : Value} {A : Around} {outer : List Env} {s : Shared} {H : Hp} {E : XK} :
    Takes (cxOf (L2.CX P w) P w K mg base N qual scope f cdv A outer s H E) (fun cls d _ H' => E cls d H') := takes_of rfl rfl rfl rfl

/-! ### try .. except X as e: .. except Y: .. -/
/-- the clauses: no further one; further ones that are not reached; a clause with a name's slot or none -/
inductive Cl where
  | out
  | bad
  | one (c : Value) (i : Option Nat) (ts : Addr → Value → Option Addr → TS) (r : Cl)
def unI : Option Nat → L2.St → L2.St
  | none, σ => σ
  | some i, σ => σ.set i none
def inI : Option Nat → Addr → L2.St → L2.St
  | none, _, σ => σ
  | some i, a, σ => σ.set i (some (.ref a))
def unE (i : Option Nat) (D : Ends) : Ends := { nx := fun σ' H' => D.nx (unI i σ') H', rt := D.rt, bk := fun σ' H' => D.bk (unI i σ') H', ct := fun σ' H' => D.ct (unI i σ') H' }
def wCl (K : PySem.W.Frag) (Wout : WX) (D : Ends) : Cl → WX
  | .out => Wout
  | .bad => fun _ _ _ _ => False
  | .one c i ts r => fun cls d σ H => ∃ b, PySem.W.exmOne K cls c = some b ∧ (b = true → ∀ a, H a = none → ts a cls d (unE i D) (inI i a σ) H) ∧ (b = false → wCl K Wout D r cls d σ H)
inductive HdsA (X : Cx) : List ExceptHandler → Cl → Prop
  | out : HdsA X [] .out
  | bad {hds : List ExceptHandler} : HdsA X hds .bad
  | just {x : Str} {c : Value} {ts : Addr → Value → Option Addr → TS} {b₀ : Stmt} {suite : List Stmt} {np pos' : Pos} {hds : List ExceptHandler} {l : Cl} (hc : Names X x c)
      (hsu : ∀ (a : Addr) (oe : Obj) (cls : Value) (d : Option Addr) (pn : List (Addr × Obj)), Zc cls d oe → (∃ vs, oe.data = .fields vs) → PSs (X.suite a ((a, oe) :: pn)) (b₀ :: suite) (ts a cls d)) (r : HdsA X hds l) :
      HdsA X (.ExceptHandler (some (.Name x np)) none (b₀ :: suite) pos' :: hds) (.one c none ts l)
  | as {x n : Str} {c : Value} {i : Nat} {ts : Addr → Value → Option Addr → TS} {b₀ : Stmt} {suite : List Stmt} {np pos' : Pos} {hds : List ExceptHandler} {l : Cl} (hi : X.N[i]? = some n) (hln : X.env.kindOf n = some .local) (hc : Names X x c)
      (hsu : ∀ (a : Addr) (oe : Obj) (cls : Value) (d : Option Addr) (pn : List (Addr × Obj)), Zc cls d oe → (∃ vs, oe.data = .fields vs) → PSs (X.suite a ((a, oe) :: pn)) (b₀ :: suite) (ts a cls d)) (r : HdsA X hds l) :
      HdsA X (.ExceptHandler (some (.Name x np)) (some n) (b₀ :: suite) pos' :: hds) (.one c (some i) ts l)
section
variable {X : Cx} {body : List Stmt} {h₀ : ExceptHandler} {hds : List ExceptHandler} {l : Cl} {pos : Pos} {tb : WX → TS} {Wout : WX}
theorem ps_tryA (stk : X.stack = X.env :: X.outer) (hf : X.env.frame = some X.env.locals) (nod : X.N.Nodup) (tk : Takes X Wout)
    (hb : ∀ (W : WX) (pq : List (Addr × Obj)) (xe : Value → Shared → Prop), Takes (X.tr pq xe) W → PassesOwn (model X.prog X.w) X.A X.env xe → PSs (X.tr pq xe) body (tb W))
    (hh : HdsA X (h₀ :: hds) l) : PS X (.Try body (h₀ :: hds) [] [] pos) (fun D σ H => tb (wCl X.K Wout D l) D σ H) := by
  refine ⟨fun pins s σ H D I asked => ?_⟩
  have ok := I.ok
  have frames : X.A.frames = some (X.env :: X.outer) := by rw [ok.frames, stk]
  refine wpAny_Try_except ?_
  refine wpAny_mono ((hb (wCl X.K Wout D l) (X.pn ++ pins) (fun e s₁ => wpAny (model X.prog X.w) X.A (noteFrame e X.env) (fun _ s₂ => wpAny (model X.prog X.w) X.A (setFlight e none) (fun _ s₃ =>
    wpAny (model X.prog X.w) X.A (handleBy e X.env (h₀ :: hds)) (SP X pins D) X.xe s₃) X.xe s₂) X.xe s₁) (fun u sx air => ?_) PassesOwn.looking).run [] s σ H D (I.toTry _) asked) (fun f s1 done => ?_) (fun e s1 he => he)
  · -- caught
    obtain ⟨a, B, sI, pins', σx, Hx, cls, d, rfl, Jt, nb, up, sky, na, os, ag, wish⟩ := air
    have J : Inv X pins σx Hx sI := Jt.ofTry ok
    have skyX : Sky B (X.env :: X.outer) a (Zc cls d) X.env.locals sx.heap := by rw [← stk]; exact sky
    show wpAny (model X.prog X.w) X.A (noteFrame (Value.ref a) X.env) _ _ _
    refine Sky.land Zc.steady frames hf skyX fun g3 fly up3 => ?_
    have J3 : Inv X pins σx Hx { sx with heap := g3 } := J.landed nb fly.1 (up.trans up3) os ag
    obtain ⟨ox, xs, at3, z3, dat3⟩ := fly.there
    have noFrame : a ∉ frs (X.env :: X.outer) := fun hm => by
      obtain ⟨_, o', e', hnf⟩ := fly.2.2.1.mem hm
      rw [at3] at e'
      cases e'
      exact hnf _ dat3
    have nL : a ≠ X.env.locals := fun z => noFrame (List.mem_filterMap.mpr ⟨X.env, List.mem_cons_self, by rw [hf, z]⟩)
    have nF :
        a ∉ X.fs := fun hm => by
      rcases List.mem_filterMap.mp hm with ⟨e, he, q⟩
      exact noFrame (List.mem_filterMap.mpr ⟨e, List.mem_cons_of_mem _ he, q⟩)
    have S3 := J3.suite at3 dat3 na nL nF
    have look : PySem.W.Looks (model X.prog X.w) g3 (typeOf (.ref a)) cls := fun A Q E s k q => wpAny_typeOf_ref (k _ _ at3) (by rw [z3.1]; exact q)
    have named : ∀ {x : Str} {c : Value} {np : Pos}, Names X x c → ∀ {Q : Value → Shared → Prop} {E : Value → Shared → Prop}, Q c { sx with heap := g3 } → wpAny (model X.prog X.w) (X.A.mark (some (.ref a))) (eval (.Name x np) X.env) Q E { sx with heap := g3 } := fun {x c np} hc {Q E} q => by
      rcases hc with ⟨hg, hdbg, hm | ⟨hm, hv, hnn⟩⟩
      · exact ld_glob (X := X.suite a ((a, ox) :: (X.pn ++ pins))) S3 hg hm q hdbg
      · exact ld_blt (X := X.suite a ((a, ox) :: (X.pn ++ pins))) S3 hg hm hv q hnn hdbg
    have go : ∀ {rest : List ExceptHandler} {cl : Cl}, HdsA X rest cl → wCl X.K Wout D cl cls d σx Hx → wpAny (model X.prog X.w) X.A (handleBy (.ref a) X.env rest) (SP X pins D) X.xe { sx with heap := g3 } := by
      intro rest cl hk
      induction hk with
      | bad =>
        intro w
        exact False.elim w
      | out =>
        intro w
        refine wpAny_handleBy_nil ?_
        obtain ⟨_, _, _, oe, vs, T, oT, ts', at_, _, dat, one, _⟩ := id fly
        unfold PySem.passOn
        refine wpAny_bind (wpAny_field at_ dat one ?_)
        rw [(if_neg (show ¬ ((Value.ref T == Value.none) = true) from by simp))]
        have fin : wpAny (model X.prog X.w) X.A (setFlight (.ref a) X.env.frame) (fun _ s4 => wpAny (model X.prog X.w) X.A (throw (.ref a) : Sem Flow) (SP X pins D) X.xe s4) X.xe { sx with heap := g3 } := by
          rw [hf]
          refine HandSPX.setFlight_upZ fly fun g4 held up4 => wpAny_throw (tk _ _ ?_)
          exact ⟨a, B, sI, pins, σx, Hx, cls, d, rfl, J, nb, (up.trans up3).trans up4, .inr (.inr (by rw [stk]; exact held)), na, os, ag, w⟩
        first
          | exact (wpAny_bind (wpAny_pure (wpAny_bind fin)))
          | exact wpAny_bind fin
      | @just x c ts b₀ suite np pos' rest2 cl2 hc hsu r ih =>
        intro w
        rcases w with ⟨b, hb1, hyes, hno⟩
        refine (wpAny_handleBy_cons (codeAny_handlers_test ?_) (by intro q; cases q))
        refine named hc ((PySem.W.exm_one (M := model X.prog X.w) (J3.kIn) look hb1).here ?_)
        cases b with
        | true =>
          refine (codeAny_handlers_suite ?_)
          refine HandSPX.lands_againZ fly fun g4 fly4 up4 => ?_
          have J4 : Inv X pins σx Hx { sx with heap := g4 } := J.landed nb fly4.1 ((up.trans up3).trans up4) os ag
          obtain ⟨o4, v4, at4, z4, dat4⟩ := fly4.there
          refine wpAny_mono ((hsu a o4 cls d (X.pn ++ pins) z4 ⟨_, dat4⟩).run [] _ _ Hx _ (J4.suite at4 dat4 na nL nF) (hyes rfl a na)) (fun f s6 hsp => ?_) (fun _ _ z => False.elim z)
          cases f with
          | next =>
            rcases hsp with ⟨σ6, H6, S6, q6⟩
            exact ⟨σ6, H6, S6.unsuite ok, q6⟩
          | brk =>
            rcases hsp with ⟨σ6, H6, S6, q6⟩
            exact ⟨σ6, H6, S6.unsuite ok, q6⟩
          | cont =>
            rcases hsp with ⟨σ6, H6, S6, q6⟩
            exact ⟨σ6, H6, S6.unsuite ok, q6⟩
          | ret u =>
            rcases hsp with ⟨v6, σ6, H6, S6, r6, q6⟩
            exact ⟨v6, σ6, H6, S6.unsuite ok, r6, q6⟩
        | false =>
          show wpAny _ X.A (handleBy (.ref a) X.env rest2) _ _ _
          exact ih (hno rfl)
      | @as x n c i ts b₀ suite np pos' rest2 cl2 hi hln hc hsu r ih =>
        intro w
        rcases w with ⟨b, hb1, hyes, hno⟩
        refine (wpAny_handleBy_cons (codeAny_handlers_test ?_) (by intro q; cases q))
        refine named hc ((PySem.W.exm_one (M := model X.prog X.w) (J3.kIn) look hb1).here ?_)
        cases b with
        | true =>
          refine (codeAny_handlers_suite_as ?_)
          refine HandSPX.lands_againZ fly fun g4 fly4 up4 => ?_
          have J4 : Inv X pins σx Hx { sx with heap := g4 } := J.landed nb fly4.1 ((up.trans up3).trans up4) os ag
          obtain ⟨o4, v4, at4, z4, dat4⟩ := fly4.there
          refine store_ok (X := X.suite a ((a, o4) :: (X.pn ++ pins))) (v := .ref a) (J4.suite at4 dat4 na nL nF) nod hi (.inl hln) rfl (fun s5 S5 => ?_) (.inr hln)
          refine wpAny_mono ((hsu a o4 cls d (X.pn ++ pins) z4 ⟨_, dat4⟩).run [] s5 _ Hx _ S5 (hyes rfl a na)) (fun f s6 hsp => ?_) (fun _ _ z => False.elim z)
          have gone : ∀ {σ6 : L2.St} {H6 : Hp} {Q : Shared → Prop}, Inv (X.suite a ((a, o4) :: (X.pn ++ pins))) [] σ6 H6 s6 → (∀ s7, Inv X pins (σ6.set i none) H6 s7 → Q s7) →
              wpAny (model X.prog X.w) X.A (do bindName X.env n .none; unbindBehindTheSuite X.env n pos') (fun _ s7 => Q s7) X.xe s6 := fun {σ6 H6 Q} S6 hq => gone_ok (S6.unsuite ok) nod hi hln hq
          cases f with
          | next =>
            rcases hsp with ⟨σ6, H6, S6, q6⟩
            exact gone S6 fun s7 J7 => ⟨_, H6, J7, q6⟩
          | brk =>
            rcases hsp with ⟨σ6, H6, S6, q6⟩
            exact gone S6 fun s7 J7 => ⟨_, H6, J7, q6⟩
          | cont =>
            rcases hsp with ⟨σ6, H6, S6, q6⟩
            exact gone S6 fun s7 J7 => ⟨_, H6, J7, q6⟩
          | ret u =>
            rcases hsp with ⟨v6, σ6, H6, S6, r6, q6⟩
            exact gone S6 fun s7 J7 => ⟨v6, _, H6, J7, r6, q6⟩
        | false =>
          show wpAny _ X.A (handleBy (.ref a) X.env rest2) _ _ _
          exact ih (hno rfl)
    exact go hh wish
  · cases f with
    | next =>
      obtain ⟨σx, Hx, Jx, q⟩ := done
      exact wpAny_execs_nil ⟨σx, Hx, Jx.ofTry ok, q⟩
    | brk =>
      obtain ⟨σx, Hx, Jx, q⟩ := done
      exact ⟨σx, Hx, Jx.ofTry ok, q⟩
    | cont =>
      obtain ⟨σx, Hx, Jx, q⟩ := done
      exact ⟨σx, Hx, Jx.ofTry ok, q⟩
    | ret u =>
      obtain ⟨v, σx, Hx, Jx, r, q⟩ := done
      exact ⟨v, σx, Hx, Jx.ofTry ok, r, q⟩
end

/-! by data -/
inductive ClD where
  | out
  | bad
  | one (c : Value) (i : Option Nat) (f : Addr → Value → Option Addr → SF) (r : ClD)
def unD : Option Nat → EnvD → EnvD
  | none, env => env
  | some i, env => env.set i none
def inD : Option Nat → Addr → Option Addr → List (Str × D) → EnvD → EnvD
  | none, _, _, _, env => env
  | some i, a, some dd, fs, env => env.set i (some (.exn a dd fs))
  | some i, a, none, _, env => env.set i (some (.ref a))
def unED (i : Option Nat) (E : EndsD) : EndsD := { E with nx := fun env M => E.nx (unD i env) M, bk := fun env M => E.bk (unD i env) M, ct := fun env M => E.ct (unD i env) M, ex := fun _ _ _ => False }
def xCl (K : PySem.W.Frag) (E : EndsD) : ClD → Xn → EnvD → Mem → Prop
  | .out => E.ex
  | .bad => fun _ _ _ => False
  | .one c i f r => fun xn env M => ∃ b, PySem.W.exmOne K xn.cls c = some b ∧ (b = true → ∀ a d, (d = none → xn.fs = []) → f a xn.cls d (unED i E) (inD i a d xn.fs env) M) ∧ (b = false → xCl K E r xn env M)
def sTry (K : PySem.W.Frag) (fb : SF) (l : ClD) : SF := fun E env M => fb { E with ex := xCl K E l } env M
def noS : WX := fun _ _ _ _ => False
inductive ClsOk (X : Cx) : List ExceptHandler → ClD → Prop
  | out : ClsOk X [] .out
  | bad {hds : List ExceptHandler} : ClsOk X hds .bad
  | just {x : Str} {c : Value} {f : Addr → Value → Option Addr → SF} {b₀ : Stmt} {suite : List Stmt} {np pos' : Pos} {hds : List ExceptHandler} {l : ClD} (hc : Names X x c)
      (hsu : ∀ (a : Addr) (oe : Obj) (cls : Value) (d : Option Addr) (pn : List (Addr × Obj)), Zc cls d oe → (∃ vs, oe.data = .fields vs) → DSs (X.suite a ((a, oe) :: pn)) noS (b₀ :: suite) (f a cls d)) (r : ClsOk X hds l) :
      ClsOk X (.ExceptHandler (some (.Name x np)) none (b₀ :: suite) pos' :: hds) (.one c none f l)
  | as {x n : Str} {c : Value} {i : Nat} {f : Addr → Value → Option Addr → SF} {b₀ : Stmt} {suite : List Stmt} {np pos' : Pos} {hds : List ExceptHandler} {l : ClD} (hi : X.N[i]? = some n) (hln : X.env.kindOf n = some .local) (hc : Names X x c)
      (hsu : ∀ (a : Addr) (oe : Obj) (cls : Value) (d : Option Addr) (pn : List (Addr × Obj)), Zc cls d oe → (∃ vs, oe.data = .fields vs) → DSs (X.suite a ((a, oe) :: pn)) noS (b₀ :: suite) (f a cls d)) (r : ClsOk X hds l) :
      ClsOk X (.ExceptHandler (some (.Name x np)) (some n) (b₀ :: suite) pos' :: hds) (.one c (some i) f l)
def clOf (K : PySem.W.Frag) : ClD → Cl
  | .out => .out
  | .bad => .bad
  | .one c i f r => .one c i (fun a cls d => tFs K noS (f a cls d)) (clOf K r)
theorem ClsOk.hds {X : Cx} {hds : List ExceptHandler} {l : ClD} (h : ClsOk X hds l) : HdsA X hds (clOf X.K l) := by
  induction h with
  | out => exact .out
  | bad => exact .bad
  | just hc hsu r ih => exact .just hc (fun a oe cls d pn h1 h2 => DSs.ps (hsu a oe cls d pn h1 h2)) ih
  | as hi hln hc hsu r ih => exact .as hi hln hc (fun a oe cls d pn h1 h2 => DSs.ps (hsu a oe cls d pn h1 h2)) ih
theorem xrep_exn {K : PySem.W.Frag} {M : Mem} {H : Hp} (m : MemOk K M H) {a d : Addr} {fs : List (Str × D)} (x : xrep K (off M H) H (some d) fs) : rep K (off M H) (.exn a d fs) (.ref a) := by
  obtain ⟨vs, h1, h2⟩ := x
  refine ⟨vs, rfl, ?_, h2⟩
  have e : M d = none := by
    cases q : M d with
    | none => rfl
    | some o =>
      have z := m d o q
      cases o with
      | lst l =>
        obtain ⟨us, e1, _⟩ := z
        rw [h1] at e1
        cases e1
      | dct l =>
        obtain ⟨us, e1, _⟩ := z
        rw [h1] at e1
        cases e1
  rw [off_none e]
  exact h1
theorem rel_in {K : PySem.W.Frag} {env : EnvD} {M : Mem} {σ : L2.St} {H : Hp} (r : Rel K env M σ H) {i : Option Nat} {a : Addr} {d : Option Addr} {fs : List (Str × D)} (x : xrep K (off M H) H d fs) : Rel K (inD i a d fs env) M (inI i a σ) H := by
  cases i with
  | none => exact r
  | some i =>
    cases d with
    | none => exact r.set i (d := .ref a) rfl
    | some d => exact r.set i (xrep_exn r.mem x)
theorem rel_un {K : PySem.W.Frag} {env : EnvD} {M : Mem} {σ : L2.St} {H : Hp} (r : Rel K env M σ H) {i : Option Nat} : Rel K (unD i env) M (unI i σ) H := by
  cases i with
  | none => exact r
  | some i => exact r.unset i
theorem fit_un {K : PySem.W.Frag} {W : WX} {M : Mem} {H : Hp} {D : Ends} {E : EndsD} (c : Fit K W M H D E) (i : Option Nat) : Fit K noS M H (unE i D) (unED i E) :=
  ⟨fun env M' σ' H' q s r => c.nx _ M' _ H' q s (rel_un r), c.rt, fun env M' σ' H' q s r => c.bk _ M' _ H' q s (rel_un r), fun env M' σ' H' q s r => c.ct _ M' _ H' q s (rel_un r), fun _ _ _ _ _ _ z => z.elim⟩
theorem xcl_ok {K : PySem.W.Frag} {Wout : WX} {M : Mem} {H : Hp} {D : Ends} {E : EndsD} (c : Fit K Wout M H D E) : ∀ (l : ClD) (xn : Xn) (env : EnvD) (M' : Mem) (dd : Option Addr) (σ' : L2.St) (H' : Hp), xCl K E l xn env M' → Stp M H M' H' → Rel K env M' σ' H' → xrep K (off M' H') H' dd xn.fs →
    wCl K Wout D (clOf K l) xn.cls dd σ' H'
  | .out, xn, env, M', dd, σ', H', h, s, r, x => c.ex xn env M' dd σ' H' h s r x
  | .bad, _, _, _, _, _, _, h, _, _, _ => h.elim
  | .one cl i f rest, xn, env, M', dd, σ', H', h, s, r, x => by
    obtain ⟨b, h1, h2, h3⟩ := h
    refine ⟨b, h1, fun hb a _ => ?_, fun hb => xcl_ok c rest xn env M' dd σ' H' (h3 hb) s r x⟩
    exact ⟨_, M', unED i E, rel_in r x, h2 hb a dd (fun z => by subst z; exact x), fit_un (c.to s) i⟩
section
variable {X : Cx} {body : List Stmt} {h₀ : ExceptHandler} {hds : List ExceptHandler} {l : ClD} {pos : Pos} {fb : SF} {Wout : WX}
theorem s_try (tk : Takes X Wout) (nod : X.N.Nodup) (hb : ∀ (W : WX) (pn : List (Addr × Obj)) (xe : Value → Shared → Prop), Takes (X.tr pn xe) W → PassesOwn (model X.prog X.w) X.A X.env xe → DSs (X.tr pn xe) W body fb)
    (hh : ClsOk X (h₀ :: hds) l) (stk : X.stack = X.env :: X.outer := by rfl) (hf : X.env.frame = some X.env.locals := by rfl) : DS X Wout (.Try body (h₀ :: hds) [] [] pos) (sTry X.K fb l) := by
  refine ⟨_, ps_tryA (tb := fun W => tFs X.K W fb) stk hf nod tk (fun W pn xe h1 h2 => DSs.ps (hb W pn xe h1 h2)) hh.hds, ?_⟩
  intro σ H env M D E r h c
  exact ⟨env, M, _, r, h, ⟨c.nx, c.rt, c.bk, c.ct, fun xn env' M' dd σ' H' q s r' x => xcl_ok c l xn env' M' dd σ' H' q s r' x⟩⟩
end

/-! ### an own exception is made and raised -/
def spInit (C : Addr) (fs : List Str) : Sp := fun vs H Q _ => ∃ (a : Addr) (ys : List V), vs = .ref a :: ys ∧ ys.length = fs.length ∧ H a = some (exo a C none) ∧ ∀ dx, H dx = none → dx ≠ a → Q .non (upd (upd H dx (exd dx (fs.zip ys).reverse)) a (exo a C (some dx)))
structure Xcl (X : Cx) (x : Str) (C : Addr) (k : Nat) (fs : List Str) : Prop where
  o : OexC X.K C
  m : X.mg x = some (.ref C)
  ex : ∃ (fI : Addr) (fd : FuncData) (ps : List Str), PySem.W.findIn X.K (.ref C) "__init__" = some (some (.ref fI)) ∧ PySem.W.typeIn X.K (.ref fI) = some (.type "function") ∧ Binds X.K fd ps [] ∧ FnOk X.prog X.w X.K X.mg X.base (L2.CX X.prog X.w) k fI fd ps (spInit C fs)
def sRaise (C : Addr) (fs : List Str) (f : DFs) : SF := fun E env M => f env M (fun ds M1 => E.ex ⟨.ref C, (fs.zip ds).reverse⟩ env M1) (fun xn M1 => E.ex xn env M1)
theorem repf_append {K : PySem.W.Frag} {G : Hp} : ∀ {l m : List (Str × D)} {us ws : List (Str × V)}, repf K G l us → repf K G m ws → repf K G (l ++ m) (us ++ ws)
  | [], m, us, ws, h, k => by
    cases h
    exact k
  | (n, d) :: ds, m, us, ws, h, k => by
    obtain ⟨u, r, rfl, h2, h3⟩ := h
    exact ⟨u, r ++ ws, rfl, h2, repf_append h3 k⟩
theorem repf_rev {K : PySem.W.Frag} {G : Hp} : ∀ {l : List (Str × D)} {us : List (Str × V)}, repf K G l us → repf K G l.reverse us.reverse
  | [], us, h => by
    cases h
    rfl
  | (n, d) :: ds, us, h => by
    obtain ⟨u, r, rfl, h2, h3⟩ := h
    rw [(List.reverse_cons), List.reverse_cons]
    exact repf_append (repf_rev h3) ⟨u, [], rfl, h2, rfl⟩
theorem repf_zip {K : PySem.W.Frag} {G : Hp} : ∀ (fs : List Str) {ds : List D} {us : List V}, reps K G ds us → repf K G (fs.zip ds) (fs.zip us)
  | [], ds, us, h => by
    simp [repf]
  | f :: fs, [], us, h => by
    cases h
    simp [repf]
  | f :: fs, d :: ds, us, h => by
    obtain ⟨u, r, rfl, h2, h3⟩ := h
    exact ⟨u, fs.zip r, rfl, h2, repf_zip fs h3⟩
theorem sim_raise {K : PySem.W.Frag} {W : WX} {C : Addr} {fs : List Str} {n : Nat} {ta : TA} {f : DFs} (hn : n = fs.length) (hl : fs.length ≤ 1000) (h1 : SimA K W n ta f) : SimS K W (fun _ σ H => tMkO C (spInit C fs) [] ta σ H fun cls d H' => W cls d σ H') (sRaise C fs f) := by
  intro σ H env M D E r h c
  refine h1 σ H env M _ _ _ r h (fun ds M1 vs H1 p1 l1 s1 m1 r1 => ?_) (c.xo r)
  have e1 : vs.length = fs.length := by rw [reps_length r1, l1, hn]
  refine ⟨by omega, fun a na => ⟨a, vs, by rw [List.append_nil], e1, upd_same, fun dx n1 n2 => ⟨rfl, dx, (fs.zip vs).reverse, upd_same, ?_, ?_, ?_⟩⟩⟩
  · rw [upd_ne n2, upd_same]
  · rw [upd_ne n2] at n1
    exact n1
  · rw [upd_ne n2] at n1
    have e : upd (del (upd (upd (upd H1 a (exo a C none)) dx (exd dx (fs.zip vs).reverse)) a (exo a C (some dx))) a) dx (.xd (fs.zip vs).reverse) = upd H1 dx (.xd (fs.zip vs).reverse) := by
      funext b
      by_cases hb : b = dx
      · rw [hb, upd_same, upd_same]
      · rw [upd_ne hb, upd_ne hb]
        by_cases hc : b = a
        · rw [hc, del_same, na]
        · rw [del_ne hc, upd_ne hc, upd_ne hb, upd_ne hc]
    rw [e]
    have s2 := stp_new (M := M1) (o := .xd (fs.zip vs).reverse) n1
    have m2 := mem_new m1 (o := .xd (fs.zip vs).reverse) n1
    exact c.ex _ env M1 (some dx) σ _ p1 (s1.trans s2) (r.to (s1.trans s2) m2) ⟨_, upd_same, repf_rev (repf_zip fs (s2.reps r1))⟩
theorem s_raise {X : Cx} {W : WX} {x : Str} {C : Addr} {k : Nat} {fs : List Str} {e : Expr} {es : List Expr} {f : DFs} {p pos pos' : Pos} (T : Xcl X x C k fs) (hc : X.calm = true) (hr : Room (k + 1) X.A) (tk : Takes X W) (ha : DA X W (e :: es) f) (hl : (e :: es).length = fs.length := by rfl) (hz : fs.length ≤ 1000 := by decide) (hg : Gl X x := by rfl)
    (hdb : (x == ("__debug__" : Str)) = false := by decide)
    (he : starEach (e :: es) X.env = (false, eval e X.env) :: starEach es X.env := by rfl)
    (hpl : (backTo pos (starEach es X.env)).any (·.1) = false := by rfl) : DS X W (.Raise (some (.Call (.Name x p) (e :: es) [] pos)) none pos') (sRaise C fs f) := by
  obtain ⟨fI, fd, ps, h1, h2, h3, h4⟩ := T.ex
  obtain ⟨ta, pa, sa⟩ := ha
  exact ⟨_, ps_raise hc tk (pmk_oex T.o h1 h2 h4 hr h3 .nil (fun pins σ H s e s' I z => passes_call tk (fun _ _ _ _ z => False.elim z) pins σ H s e s' I z) hg T.m pa hdb he hpl), sim_raise hl hz sa⟩

/-! ### err.f in an except suite -/
def dFld (a : Addr) (cls : Value) (d : Option Addr) (C : Addr) (n : Str) (f : DF) : DF := fun env M Q E => f env M (fun x M1 => match x with
  | .exn a' d' fs => a' = a ∧ cls = .ref C ∧ d = some d' ∧ ∃ v, fs.lookup n = some v ∧ Q v M1
  | _ => False) E
theorem sim_fld {K : PySem.W.Frag} {W : WX} {a C : Addr} {cls : Value} {d : Option Addr} {n : Str} {te : TE} {f : DF} (h1 : SimE K W te f) : SimE K W (tXf a cls d C n te) (dFld a cls d C n f) := by
  intro σ H env M Q P E r h k x
  refine h1 σ H env M _ _ E r h (fun y M1 u H1 p1 s1 m1 r1 => ?_) x
  split at p1
  · rename_i a' d' fs
    obtain ⟨rfl, e2, e3, v, e4, q⟩ := p1
    obtain ⟨vs, e5, e6, e7⟩ := r1
    obtain ⟨w, e8, e9⟩ := repf_look e7 e4
    exact ⟨e5, e2, d', vs, w, e3, (of_off e6).1, e8, k v M1 w H1 q s1 m1 e9⟩
  · exact p1.elim
theorem d_fld {X : Cx} {W : WX} {a C : Addr} {oe : Obj} {cls : Value} {d : Option Addr} {pn : List (Addr × Obj)} {e : Expr} {f : DF} {pos : Pos} {n : Str} (T : XfC X.K C) (hno : PySem.W.findIn X.K (.ref C) n = some none) (hz : Zc cls d oe) (hf : ∃ vs, oe.data = .fields vs)
    (he : DE (X.suite a ((a, oe) :: pn)) W e f) (hb : attributeBase e n X.env (eval e X.env) = eval e X.env := by rfl) : DE (X.suite a ((a, oe) :: pn)) W (.Attribute e n pos) (dFld a cls d C n f) := by
  obtain ⟨t, p, s⟩ := he
  exact ⟨_, pe_xf T hno hz hf p hb, sim_fld s⟩
end DL
set_option maxHeartbeats 4000001
namespace DL
open PySem PySem.Spec
open PyProof.Rows L2

/-! ### more builtins, by data -/
theorem reps_bls {K : PySem.W.Frag} {G : Hp} {bs : List Bool} {us : List V} (h : reps K G (bs.map D.bl) us) : us = bs.map V.bl := by
  have e : bs.map D.bl = (bs.map V.bl).map D.v := by rw [List.map_map]; rfl
  rw [e] at h
  exact reps_vals h
theorem reps_ints {K : PySem.W.Frag} {G : Hp} {bs : List Int} {us : List V} (h : reps K G (bs.map D.int) us) : us = bs.map V.int := by
  have e : bs.map D.int = (bs.map V.int).map D.v := by rw [List.map_map]; rfl
  rw [e] at h
  exact reps_vals h
theorem one_rep {K : PySem.W.Frag} {G : Hp} {d : D} {us : List V} (h : reps K G [d] us) : ∃ u, us = [u] ∧ rep K G d u := by
  obtain ⟨u, w, rfl, r1, r2⟩ := h
  cases r2
  exact ⟨u, rfl, r1⟩
def gAll : GC := fun xs M Q => ∃ d l bs, xs = [d] ∧ seqD M d = some (true, l) ∧ l = List.map D.bl bs ∧ Q (.bl (bs.all id)) M
theorem sim_all {K : PySem.W.Frag} : SimC K (rAll K) gAll := by
  intro xs us M H Q P m r h k
  obtain ⟨d, l, bs, rfl, e, rfl, q⟩ := h
  obtain ⟨u, rfl, r1⟩ := one_rep r
  obtain ⟨a, vs, rfl, hs, hr⟩ := seq_rep m e r1
  rw [reps_bls hr] at hs
  exact ⟨a, bs, rfl, hs, k _ M _ H q (Stp.refl _ _) m rfl⟩
def gAny : GC := fun xs M Q => ∃ d l bs, xs = [d] ∧ seqD M d = some (true, l) ∧ l = List.map D.bl bs ∧ Q (.bl (bs.any id)) M
theorem sim_any {K : PySem.W.Frag} : SimC K (rAny K) gAny := by
  intro xs us M H Q P m r h k
  obtain ⟨d, l, bs, rfl, e, rfl, q⟩ := h
  obtain ⟨u, rfl, r1⟩ := one_rep r
  obtain ⟨a, vs, rfl, hs, hr⟩ := seq_rep m e r1
  rw [reps_bls hr] at hs
  exact ⟨a, bs, rfl, hs, k _ M _ H q (Stp.refl _ _) m rfl⟩
def gSum : GC := fun xs M Q => ∃ d l ns, xs = [d] ∧ seqD M d = some (true, l) ∧ l = List.map D.int ns ∧ Q (.int ns.sum) M
theorem sim_sum {K : PySem.W.Frag} : SimC K (rSum K) gSum := by
  intro xs us M H Q P m r h k
  obtain ⟨d, l, ns, rfl, e, rfl, q⟩ := h
  obtain ⟨u, rfl, r1⟩ := one_rep r
  obtain ⟨a, vs, rfl, hs, hr⟩ := seq_rep m e r1
  rw [reps_ints hr] at hs
  exact ⟨a, ns, rfl, hs, k _ M _ H q (Stp.refl _ _) m rfl⟩
def gMax2 : GC := fun xs M Q => ∃ i j, xs = [.int i, .int j] ∧ Q (.int (if j > i then j else i)) M
def gMin2 : GC := fun xs M Q => ∃ i j, xs = [.int i, .int j] ∧ Q (.int (if j < i then j else i)) M
theorem two_int {K : PySem.W.Frag} {G : Hp} {i j : Int} {us : List V} (h : reps K G [.int i, .int j] us) : us = [.int i, .int j] := by
  obtain ⟨u, w, rfl, r1, u2, w2, rfl, r2, r3⟩ := h
  cases r3
  cases r1
  cases r2
  rfl
theorem sim_max2 {K : PySem.W.Frag} : SimC K (fun xs H Q => ∃ i j, xs = [.int i, .int j] ∧ Q (.int (if j > i then j else i)) H) gMax2 := by
  intro xs us M H Q P m r h k
  obtain ⟨i, j, rfl, q⟩ := h
  exact ⟨i, j, two_int r, k _ M _ H q (Stp.refl _ _) m rfl⟩
theorem sim_min2 {K : PySem.W.Frag} : SimC K (fun xs H Q => ∃ i j, xs = [.int i, .int j] ∧ Q (.int (if j < i then j else i)) H) gMin2 := by
  intro xs us M H Q P m r h k
  obtain ⟨i, j, rfl, q⟩ := h
  exact ⟨i, j, two_int r, k _ M _ H q (Stp.refl _ _) m rfl⟩
def gTupOf : GC := fun xs M Q => match xs with
  | [d] => match seqD M d with
    | some (_, l) => Q (.tup l) M
    | none => False
  | _ => False
theorem sim_tupOf {K : PySem.W.Frag} : SimC K (fun xs H Q => ∃ p ys, xs = [.ref p] ∧ ((SqL K H p ys ∧ ∀ l, H l = none → Q (.ref l) (upd H l (.tup ys))) ∨ (SqT K H p ys ∧ Q (.ref p) H))) gTupOf := by
  intro xs us M H Q P m r h k
  unfold gTupOf at h
  split at h
  · rename_i d
    obtain ⟨u, rfl, r1⟩ := one_rep r
    split at h
    · rename_i b l e
      obtain ⟨a, vs, rfl, hs, hr⟩ := seq_rep m e r1
      cases b with
      | true =>
        refine ⟨a, vs, rfl, .inl ⟨hs, fun p hp => ?_⟩⟩
        have s := stp_new (M := M) (o := .tup vs) hp
        have m' := mem_new m (o := .tup vs) hp
        refine k _ M _ _ h s m' ⟨p, vs, rfl, .inl (.inl ?_), s.reps hr⟩
        have e : M p = none := m.none hp
        rw [off_none e]
        exact upd_same
      | false =>
        refine ⟨a, vs, rfl, .inr ⟨hs, k _ M _ _ h (Stp.refl _ _) m ?_⟩⟩
        cases d with
        | tup l2 =>
          cases e
          exact r1
        | lst _ => cases e
        | dct _ => cases e
        | exn _ _ _ => cases e
        | v x =>
          cases x with
          | ref p =>
            simp only [seqD] at e
            split at e <;> cases e
          | _ => cases e
    · exact h.elim
  · exact h.elim
/-- x in xs -/
def gIn (neg : Bool) : G2 := fun x y M Q => ∃ (a : V) (l : List V) (b : Bool), x = .v a ∧ seqD M y = some (b, l.map D.v) ∧ flatV a = true ∧ l.all flatV = true ∧ Q (.bl (if neg then !inV a l else inV a l)) M
theorem sim_in {K : PySem.W.Frag} {neg : Bool} : Sim2 K (rIn K neg) (gIn neg) := by
  intro x y u w M H Q P m r1 r2 h k
  obtain ⟨a, l, b, rfl, e, h1, h2, q⟩ := h
  obtain ⟨p, vs, rfl, hs, hr⟩ := seq_rep m e r2
  rw [reps_vals hr] at hs
  cases r1
  exact ⟨p, l, rfl, hs.or, h1, h2, k _ M _ H q (Stp.refl _ _) m rfl⟩
def dNeg (f : DF) : DF := fun env M Q E => f env M (fun d M1 => asI d fun i => Q (.int (-i)) M1) E
theorem sim_neg {K : PySem.W.Frag} {W : WX} {te : TE} {f : DF} (h1 : SimE K W te f) : SimE K W (tUn (rU fun i => .int (-i)) te) (dNeg f) := by
  intro σ H env M Q P E r h k x
  refine h1 σ H env M _ _ E r h (fun d M1 u H1 p1 s1 m1 r1 => ?_) x
  obtain ⟨i, rfl, q⟩ := of_asI p1
  cases r1
  exact ⟨i, rfl, k _ M1 _ H1 q s1 m1 rfl⟩
def dDct0 : DF := fun _ M Q _ => Q (.dct []) M
section
variable {X : Cx} {W : WX} {a b : Expr} {f g : DF} {pos p : Pos} {e : Expr} {es : List Expr} {fs : DFs}
theorem d_neg (h : DE X W a f) : DE X W (.UnaryOp .USub a pos) (dNeg f) := let ⟨_, p1, s1⟩ := h; ⟨_, pe_un un_neg p1, sim_neg s1⟩
theorem d_in (h1 : DE X W a f) (h2 : DE X W b g) (hm : behindInMarks .In b = false := by first | exact nomark _ | rfl) : DE X W (.Compare a [.In] [b] pos) (dOp (gIn false) f g) := d_cmp op_in_seq sim_in h1 h2 hm
theorem d_nin (h1 : DE X W a f) (h2 : DE X W b g) (hm : behindInMarks .NotIn b = false := by first | exact nomark _ | rfl) : DE X W (.Compare a [.NotIn] [b] pos) (dOp (gIn true) f g) := d_cmp op_notIn_seq sim_in h1 h2 hm
theorem d_dct0 : DE X W (.Dict [] [] pos) dDct0 := by
  refine ⟨_, pe_dnewK, fun σ H env M Q P E r h k x => ?_⟩
  intro p hp
  have s := stp_new (M := M) (o := .dK []) hp
  have m' := mem_new r.mem (o := .dK []) hp
  refine k _ M _ _ h s m' ⟨p, [], rfl, ?_, rfl⟩
  rw [off_none (r.mem.none hp)]
  exact upd_same
end
end DL
set_option maxHeartbeats 4000001
namespace DL
open PySem PySem.Spec
open PyProof.Rows L2

/-! ### the law's def is called -/
theorem law_callG {P : Program} {w : World} {K : PySem.W.Frag} {mg mb : Str → Option Value} {k : Nat} {fa a : Addr} {fd : FuncData} {x : Str} {sp : Sp} {s₁ : Shared} {vs : List Value} {ns : List Int}
    (KX : K.In s₁.heap) (gs : s₁.heap.Ns mainGlobals mg) (bt : s₁.heap.Ns builtinsNs mb) (btv : ∀ x : Str, x ≠ "__name__" → mb x = bootBuiltins x) (lim : s₁.heap.NoLimit) (gens : s₁.gens = #[]) (sys : Sys s₁.heap)
    (there : s₁.heap.get? a = some { cls := .type "list", data := .seq vs.toArray }) (are : IntsAre vs ns) (few : ns.length ≤ sizeLine) (room : Room k callerA)
    (F : ∀ base : Heap, K.In base → base.Ns mainGlobals mg → Sys base → GnOk P w K mg base k fa fd [x] sp) (bind : ∀ (s : Shared) (u : Value), BindsTo s fd ⟨[u], []⟩ [(x, u)])
    (keeps : ∀ H : Hp, Only H → SqL K H a (ns.map V.int) → sp [.ref a] H (fun v _ => v = .bl true) fun _ _ _ => False) :
    codeAny (model P w) callerA (.call (.ref fa) ⟨[.ref a], []⟩) (fun r s2 => r = .ok (.ret (.bool true)) ∧ OldK s₁.heap s2.heap ∧ s2.os = s₁.os ∧ AllBare s2.gens) s₁ := by
  have rv := vals_ints are
  have many := are.length
  have go : ∀ H : Hp, Only H → SqL K H a (ns.map V.int) → HOk P w H s₁.heap → (∀ b, H b ≠ none → b = a) → (H a ≠ none → K.lookup a = none) →
      codeAny (model P w) callerA (.call (.ref fa) ⟨[.ref a], []⟩) (fun r s2 => r = .ok (.ret (.bool true)) ∧ OldK s₁.heap s2.heap ∧ s2.os = s₁.os ∧ AllBare s2.gens) s₁ := by
    intro H only sq hok one noK
    have dic : ∀ {b : Addr} {o : Obj} {es : Array DictEntry} {ep : Nat}, s₁.heap.get? b = some o → o.data = .dict es ep → H b = none := fun {b o es ep} e d => by
      cases q : H b with
      | none => rfl
      | some u =>
        obtain rfl : b = a := one b (by rw [q]; simp)
        rw [there] at e
        cases e
        cases (show Data.seq vs.toArray _ = Data.dict es ep from d)
    have ns' : ∀ {b : Addr} {m : Str → Option Value}, s₁.heap.Ns b m → (hidT s₁.heap H).Ns b m := fun {b m} ⟨o, es, ep, e, d, r⟩ => ⟨o, es, ep, hidT_get e (dic e d), d, r⟩
    have KB : K.In (hidT s₁.heap H) := fun b o e => hidT_get (KX b o e) (by
      cases q : H b with
      | none => rfl
      | some u =>
        obtain rfl : b = a := one b (by rw [q]; simp)
        rw [noK (by rw [q]; simp)] at e
        cases e)
    have md : Mod K mg (hidT s₁.heap H) := ⟨KB, ns' gs, ⟨mb, ns' bt, btv⟩, let ⟨mc, h1, h2⟩ := lim; ⟨mc, ns' h1, h2⟩⟩
    have sy : Sys (hidT s₁.heap H) := let ⟨mm, h⟩ := sys; ⟨mm, ns' h⟩
    have e0 : Env0 P w K mg (hidT s₁.heap H) callerA [] s₁ H := ⟨rfl, md, fun b o e => of_hidT e, Nat.le_of_eq (hidT_size _ _), trivial, fun b hb => (List.not_mem_nil hb).elim, hok, .of_eq gens⟩
    refine codeAny_mono ((F _ KB (ns' gs) sy).run callerA [] s₁ H ⟨[.ref a], []⟩ [.ref a] [.ref a] _ _ room rfl e0 (bind s₁ (.ref a)) (.cons rfl .nil) (keeps H only sq)) fun r s' out => ?_
    match r, out with
    | .error e, out =>
      obtain ⟨_, _, _, _, _, _, _, _, _, _, _, _, z⟩ := out
      exact z.elim
    | .ok .next, out => exact out.elim
    | .ok .brk, out => exact out.elim
    | .ok .cont, out => exact out.elim
    | .ok (.ret u), out =>
      obtain ⟨v, H', os, bare, un, hok', rel, q⟩ := out
      obtain rfl : v = .bl true := q
      obtain rfl : u = Value.bool true := rel
      refine (⟨rfl, OldK.of_keep fun b o e => ?_, os, bare⟩)
      cases q : H b with
      | none => exact un.keep b o e q (fun z => (List.not_mem_nil z).elim) (by simp)
      | some u =>
        rcases only b with z | ⟨ob, xs, z⟩
        · rw [q] at z
          cases z
        · obtain ⟨e1, _⟩ := hok b _ z
          obtain ⟨e2, _⟩ := hok' b _ (un.frzs b ob _ z)
          rw [e] at e1
          cases e1
          exact e2
  cases inK : K.lookup a with
  | some o =>
    have e := KX a o inK
    rw [there] at e
    cases e
    exact go (fun _ => none) (fun _ => .inl rfl) (.inr ⟨_, vs.toArray, _, inK, rfl, rfl, rfl, by rw [List.size_toArray, many]; exact few, by simpa using rv⟩) (fun b u z => by cases (show (none : Option HO) = some u from z)) (fun b z => absurd rfl z) fun z => absurd rfl z
  | none =>
    refine go (fun b => if b = a then some (.frz { cls := .type "list", data := .seq vs.toArray } (.lst (ns.map V.int))) else none) (fun b => ?_) (.inl (.inr ⟨{ cls := .type "list", data := .seq vs.toArray }, if_pos rfl⟩)) (fun b u z => ?_) (fun b z => ?_) fun _ => inK
    · by_cases hb : b = a
      · exact (.inr ⟨_, _, if_pos hb⟩)
      · exact .inl (if_neg hb)
    · by_cases hb : b = a
      · cases (if_pos hb).symm.trans z
        subst hb
        exact ⟨there, by rw [List.length_map]; exact few, vs, _, rv, there⟩
      · cases (if_neg hb).symm.trans z
    · by_cases hb : b = a
      · exact hb
      · exact absurd (if_neg hb) z
/-- a law, by data -/
theorem walk_D {l : PySem.W.OpenLaw} {n k : Nat} {q : Program} {loose : List Str} {XP : (Str → Option Value) → Heap → Prop} {YP : World → Heap → Prop} {d : DefRec} {x : Str}
    (hn : l.most = some n) (hn2 : n ≤ sizeLine)
    (hdf : d.params.defaults = []) (hr : Room k callerA)
    (F : ∀ (w : World) (mg : Str → Option Value) (fa : Addr) (h : Heap),
      YP w h → h.Ns mainGlobals mg → mg d.name = some (.ref fa) →
      ∃ (K : PySem.W.Frag) (fd : FuncData) (FL : FD), K.In h ∧ PySem.W.nsOkIn K sysModules = true ∧ (∀ ns : List Int, ns.length ≤ n → FL [.lst (ns.map D.int)] (fun _ => none) (fun d _ => d = .bl true) noX) ∧ (∀ (s : Shared) (u : Value), BindsTo s fd ⟨[u], []⟩ [(x, u)]) ∧ ∀ base : Heap, K.In base → base.Ns mainGlobals mg → Sys base → Dfn l.prog w K mg base k fa fd [x] FL) :
    PySem.W.WalkO q loose XP YP l.row.toRowW d []
      (fun f vs => PySem.call f vs) := by
  refine (Att.attach_call hn hdf fun w s₀ s₁ mg mb fa o pm cd doc a vs ns G Y ho hd hcd hmg hobj hints hlen hg => ?_)
  obtain ⟨K, fd, FL, KX, sy, law, hb, hF⟩ := F w mg fa _ Y G.T.g hmg
  refine law_callG KX G.T.g G.T.b G.T.builtins G.T.nolimit hg ⟨_, .of_isNs (PySem.W.isNs_of_in KX sy)⟩ hobj hints (Nat.le_trans hlen hn2) hr hF hb fun H _ hS => ?_
  have nothing : off (fun _ => none) H = H := funext fun b => off_none rfl
  have items : reps K (off (fun _ => none) H) (ns.map D.int) (ns.map V.int) := by
    have e : ns.map D.int = (ns.map V.int).map D.v := by rw [List.map_map]; rfl
    rw [e]
    exact reps_map _
  have script : reps K (off (fun _ => none) H) [.lst (ns.map D.int)] [.ref a] := ⟨.ref a, [], rfl, ⟨a, ns.map V.int, rfl, by rw [nothing]; exact hS, items⟩, rfl⟩
  refine ⟨rfl, _, _, _, _, fun b o z => (by cases z), script, law ns hlen, fun d M' u H' p s m r => ?_, fun _ _ _ _ z => z.elim⟩
  have p' : d = .bl true := p
  subst p'
  exact r

/-! ### own exception classes -/
def oexB (K : PySem.W.Frag) (C : Addr) : Bool := match K.lookup C with
  | some ⟨.type "type", _, .cls ce, sl⟩ => (match ce.mro, sl.toList with
    | .ref C' :: bm, [_, _, _, _, some (.builtin n), _] => C' == C && (n == "ValueError.__new__" && (!ce.hasDel && (PySem.HandSPX.refsVE bm && ce.hasDict)))
    | _, _ => false)
  | _ => false
theorem oexB_ok {K : PySem.W.Frag} {C : Addr} (q : oexB K C = true) : ∃ nm q N bs bm sn sub ab col dd k0 k1 k2 k3 k5, K.lookup C = some (excClassObj nm q C N bs bm true sn sub ab col dd k0 k1 k2 k3 k5 "ValueError.__new__") ∧ PySem.HandSPX.refsVE bm = true := by
  unfold oexB at q
  split at q
  · rename_i dd cd sl ho
    split at q
    · rename_i C' bm k0 k1
        k2 k3 n k5 hm hs
      simp only [beq_iff_eq, Bool.and_eq_true, Bool.not_eq_true'] at q
      obtain ⟨rfl, rfl, nd, rv, hd⟩ := q
      obtain ⟨nm, bs, mro, nsp, qn, hdc, sn, sub, ab, col, dl⟩ := cd
      dsimp only at hm nd hd
      subst hm nd hd
      have es : sl = #[k0, k1, k2, k3, some (.builtin "ValueError.__new__"), k5] := by
        obtain ⟨l⟩ := sl
        simp only at hs
        rw [hs]
      subst es
      exact ⟨nm, qn, nsp, bs, bm, sn, sub, ab, col, dd, k0, k1, k2, k3, k5, ho, rv⟩
    · cases q
  · cases q
/-- what is asked of an own exception class: its name, its fields -/
def xclB (x : Str) (fs : List Str) (K : PySem.W.Frag) : Bool :=
  He.eqO (PySem.W.nsIn K mainGlobals x) (some (some (.ref (He.ga K x)))) && (oexB K (He.ga K x) && (He.eqO (PySem.W.findIn K (.ref (He.ga K x)) "__setattr__") (some (some (.builtin "object.__setattr__"))) &&
  (decide (PySem.W.subIn K (.ref (He.ga K x)) (.type "BaseException") = some true) && (decide (PySem.W.typeIn K (.ref (He.ga K x)) = some (.type "type")) && (PySem.W.keepIn K (.ref (He.ga K x)) &&
  (He.eqO (PySem.W.findIn K (.ref (He.ga K x)) "__init__") (some (some (.ref (He.ma K (He.ga K x) "__init__")))) && (decide (PySem.W.typeIn K (.ref (He.ma K (He.ga K x) "__init__")) = some (.type "function")) &&
  (xfB K (He.ga K x) && fs.all fun f => He.eqO (PySem.W.findIn K (.ref (He.ga K x)) f) (some none)))))))))
structure XclOk (K : PySem.W.Frag) (x : Str) (fs : List Str) : Prop where
  glo : PySem.W.nsIn K mainGlobals x = some (some (.ref (He.ga K x)))
  o : OexC K (He.ga K x)
  init : PySem.W.findIn K (.ref (He.ga K x)) "__init__" = some (some (.ref (He.fAd K (x, some "__init__"))))
  fn : PySem.W.typeIn K (.ref (He.fAd K (x, some "__init__"))) = some (.type "function")
  xf : XfC K (He.ga K x)
  no : ∀ f ∈ fs, PySem.W.findIn K (.ref (He.ga K x)) f = some none
theorem xclB_ok {K : PySem.W.Frag} {x : Str} {fs : List Str} (h : xclB x fs K = true) : XclOk K x fs := by
  unfold xclB at h
  obtain ⟨h1, h⟩ := He.ba h
  obtain ⟨h2, h⟩ := He.ba h
  obtain ⟨h3, h⟩ := He.ba h
  obtain ⟨h4, h⟩ := He.ba h
  obtain ⟨h5, h⟩ := He.ba h
  obtain ⟨h6, h⟩ := He.ba h
  obtain ⟨h7, h⟩ := He.ba h
  obtain ⟨h8, h⟩ := He.ba h
  obtain ⟨h9, h10⟩ := He.ba h
  exact ⟨He.eqO_ok h1, ⟨oexB_ok h2, He.eqO_ok h3, of_decide_eq_true h4, of_decide_eq_true h5, h6⟩, He.eqO_ok h7, of_decide_eq_true h8, xfB_ok h9, fun f hf => He.eqO_ok (List.all_eq_true.mp h10 f hf)⟩
/-- __init__(self, f): self.f = f -/
theorem init1_ok {P : Program} {w : World} {K : PySem.W.Frag} {mg : Str → Option Value} {base : Heap} {qual f : Str} {params : Arguments} {scope : Scope} {fI C : Addr} {fd : FuncData} {p1 p2 p3 p4 : Pos}
    (F : FunD K "__init__" qual params [.Assign [.Attribute (.Name "self" p1) f p2] (.Name f p3) p4] scope [] [] fI fd) (S : FnScope ["self", f] ["self", f] scope) (T : OexC K C) (no : PySem.W.findIn K (.ref C) f = some none) (hd : (f == ("__debug__" : Str)) = false) (hc : (f == ("__classdict__" : Str)) = false) :
    FnOk P w K mg base (L2.CX P w) 1 fI fd ["self", f] (spInit C [f]) := by
  refine F.ok S (fun vs H Q E h => ?_) fun cdv A outer s H vs Q E room h => ⟨tOst K f (tVar 0) (tVar 1), pss_one (ps_ost (pe_var (x := "self") ?_ ?_ ?_) (pe_var (x := f) ?_ ?_ ?_ ?_)), ?_⟩
  · obtain ⟨a, ys, rfl, e, _⟩ := h
    show ys.length + 1 = 2
    rw [e] <;> rfl
  · rfl
  · exact (S.par "self" (by simp)).elim Or.inl fun z => Or.inr (Or.inl z)
  · decide
  · rfl
  · exact (S.par f (by simp)).elim Or.inl fun z => Or.inr (Or.inl z)
  · exact hd
  · exact hc
  · obtain ⟨a, ys, rfl, e, h0, h1⟩ := h
    match ys, e with
    | [y], _ => exact ⟨y, rfl, .ref a, rfl, a, C, rfl, T, no, .inl ⟨h0, fun dx n1 n2 => h1 dx n1 n2⟩⟩

/-! ### the head's facts -/
abbrev FB := PySem.W.Frag → Bool
def obsB (fs : List FB) (fn : List He.DefD) (K : PySem.W.Frag) : He.AlD := ((fs.all fun f => f K) && fn.all fun d => d.ok K, fn.map fun d => He.fnW K d.at_)
def SaysB (fs : List FB) (fn : List He.DefD) (K : PySem.W.Frag) : Prop := obsB fs fn K = He.valD fn
def obsBG (n : Nat) (fs : List FB) (fn : List He.DefD) (g : Addr → Option Obj) : He.AlD := obsB fs fn (He.frG g (sysModules :: He.asD g n))
def hookB (n : Nat) (fs : List FB) (fn : List He.DefD) : PySem.W.Hook where
  α := He.AlD
  obs := fun s => obsBG n fs fn s.heap.get?
  val := fun _ => He.valD fn
  says := fun _ h => ∃ K : PySem.W.Frag, K.In h ∧ SaysB fs fn K
  of := fun _ _ e => ⟨_, He.frG_in, e⟩
  keeps := fun _ _ _ ⟨K, inK, c⟩ k => ⟨K, PySem.W.Frag.In.keeps inK k, c⟩
theorem obsBG_eq {n : Nat} {fs : List FB} {fn : List He.DefD} {g : Addr → Option Obj} {s : Shared} (h : ∀ a, g a = s.heap.get? a) : obsBG n fs fn g = (hookB n fs fn).obs s := by
  have e : g = s.heap.get? := funext fun b => h b
  rw [e] <;> rfl
theorem SaysB.fact {fs : List FB} {fn : List He.DefD} {K : PySem.W.Frag} (c : SaysB fs fn K) (i : Nat) {f : FB} (h : fs[i]? = some f) : f K = true := by
  have c1 := (He.ba (show ((fs.all fun f => f K) && fn.all fun d => d.ok K) = true from congrArg (fun z : He.AlD => z.1) c)).1
  exact (List.all_eq_true.mp c1 f (List.mem_of_getElem? h))
theorem SaysB.defs {fs : List FB} {fn : List He.DefD} {K : PySem.W.Frag} (c : SaysB fs fn K) : He.SaysD [] fn K := by
  have e2 : fn.map (fun d => He.fnW K d.at_) = fn.map He.DefD.val := congrArg (fun z : He.AlD => z.2) c
  have c2 := (He.ba (show ((fs.all fun f => f K) && fn.all fun d => d.ok K) = true from congrArg (fun z : He.AlD => z.1) c)).2
  unfold He.SaysD He.obsD He.valD
  rw [e2, c2] <;> rfl
end DL
set_option maxHeartbeats 4000001
namespace DL
open PySem PySem.Spec
open PyProof.Rows L2

/-! ### calls with keywords -/
def permG {α : Type} (z : α) (p : List Nat) (us ws : List α) : List α := p.map fun i => (us ++ ws).getD i z
theorem vals_getD {vs : List V} {us : List Value} (r : Vals vs us) (i : Nat) : RelV (vs.getD i .non) (us.getD i .none) := by
  cases e : vs[i]? with
  | none =>
    have h := List.getElem?_eq_none_iff.mp e
    have h2 : us[i]? = none := List.getElem?_eq_none_iff.mpr (by rw [← r.length]; exact h)
    rw [List.getD_eq_getElem?_getD, List.getD_eq_getElem?_getD, e, h2]
    rfl
  | some v =>
    obtain ⟨u, h2, h3⟩ := r.get e
    rw [List.getD_eq_getElem?_getD, List.getD_eq_getElem?_getD, e, h2]
    exact h3
theorem vals_perm {vs zs : List V} {us ws : List Value} (r : Vals vs us) (z : Vals zs ws) : ∀ p : List Nat, Vals (permG .non p vs zs) (permG .none p us ws)
  | [] => .nil
  | i :: p => .cons (vals_getD (r.append z) i) (vals_perm r z p)
theorem reps_getD {K : PySem.W.Frag} {G : Hp} {ds : List D} {vs : List V} (r : reps K G ds vs) (i : Nat) : rep K G (ds.getD i .non) (vs.getD i .non) := by
  cases e : ds[i]? with
  | none =>
    have h := List.getElem?_eq_none_iff.mp e
    have h2 : vs[i]? = none := List.getElem?_eq_none_iff.mpr (by rw [reps_length r]; exact h)
    rw [List.getD_eq_getElem?_getD, List.getD_eq_getElem?_getD, e, h2]
    rfl
  | some v =>
    obtain ⟨u, h2, h3⟩ := reps_get r e
    rw [List.getD_eq_getElem?_getD, List.getD_eq_getElem?_getD, e, h2]
    exact h3
theorem reps_perm {K : PySem.W.Frag} {G : Hp} {ds es : List D} {vs zs : List V} (r : reps K G ds vs) (z : reps K G es zs) : ∀ p : List Nat, reps K G (permG .non p ds es) (permG .non p vs zs)
  | [] => rfl
  | i :: p => ⟨_, _, rfl, reps_getD (reps_append r z) i, reps_perm r z p⟩
/-- a def of the module, where it stands, what it does -/
structure DefG (P : Program) (w : World) (K : PySem.W.Frag) (mg : Str → Option Value) (base : Heap) (x : Str) (k : Nat) (st : Stmt) (ps : List Str) (F : FD) : Prop where
  ex : ∃ f fd, mg x = some (.ref f) ∧ FunD K x x (defArgs st) (defBody st) (defScope st) [] [] f fd ∧ Binds K fd ps [] ∧ Dfn P w K mg base k f fd ps F
theorem DefG.imp {P : Program} {w : World} {K : PySem.W.Frag} {mg : Str → Option Value} {base : Heap} {x : Str} {k : Nat} {st : Stmt} {ps : List Str} {F F' : FD} (h : DefG P w K mg base x k st ps F) (hi : ∀ ds M Q Z, ds.length = ps.length → F' ds M Q Z → F ds M Q Z) : DefG P w K mg base x k st ps F' := by
  obtain ⟨f, fd, h1, h2, h3, h4⟩ := h.ex
  exact ⟨f, fd, h1, h2, h3, h4.imp hi⟩
def DK (X : Cx) (W : WX) (kws : List Keyword) (f : DFs) : Prop := ∃ t, PK X kws t ∧ SimA X.K W kws.length t f
section
variable {X : Cx} {W : WX} {x : Str} {p pos kpos : Pos} {e : Expr} {es : List Expr} {kws : List Keyword} {f h : DFs} {fe : DF} {k : Nat} {st : Stmt} {ps : List Str} {F : FD} {nm : Option Str}
theorem dk_nil : DK X W [] dNil := ⟨_, pk_nil, sim_nil⟩
theorem dk_cons (h1 : DE X W e fe) (h2 : DK X W kws f) : DK X W (⟨nm, e, kpos⟩ :: kws) (dCons fe f) := let ⟨_, p1, s1⟩ := h1; let ⟨_, p2, s2⟩ := h2; ⟨_, pk_cons p1 p2, sim_cons s1 s2⟩
theorem d_callG (T : DefG X.prog X.w X.K X.mg X.base x k st ps F) (hr : Room k X.A) (hG : X.A.guards = some []) (tk : Takes X W) (ha : DA X W (e :: es) f) (hl : (e :: es).length = ps.length := by rfl) (hg : Gl X x := by rfl) (hdb : (x == ("__debug__" : Str)) = false := by decide)
    (he : starEach (e :: es) X.env = (false, eval e X.env) :: starEach es X.env := by rfl) (hpl : (backTo pos (starEach es X.env)).any (·.1) = false := by rfl) : DE X W (.Call (.Name x p) (e :: es) [] pos) (dCall F f) := by
  obtain ⟨fa, fd, h1, h2, h3, h4⟩ := T.ex
  exact d_call ⟨fa, fd, h1, h2.kp, h3, h4⟩ hr hG tk ha hl hg hdb he hpl
theorem kbn_perm {K : PySem.W.Frag} {fa : Addr} {fd : FuncData} {ks : List Str} {n : Nat} {perm : List Nat} (T : FunD K x x (defArgs st) (defBody st) (defScope st) [] [] fa fd)
    (hb : ∀ (kV doc pm : Value) (an : Option Addr) (cdv ct : Value) (us ws : List Value), us.length = n → ws.length = ks.length → bindArgs (PySem.W.fnOf x x (defArgs st) (defBody st) (defScope st) .none kV doc pm an cdv ct) ⟨us, ks.zip ws⟩ = pure (ps.zip (permG .none perm us ws))) :
    KBn K fd ps n ks (permG .none perm) (permG .non perm) := by
  obtain ⟨oc, od, dV, kV, doc, pm, an, cdv, ct, osl, rfl, lk, hcd, hD, hK⟩ := T.ex
  obtain ⟨_, rfl⟩ | ⟨e, _⟩ := hD
  · exact ⟨fun s us ws _ l1 l2 => .of_eq (hb kV doc pm an cdv ct us ws l1 l2), fun r1 r2 => vals_perm r1 r2 perm⟩
  · exact absurd rfl e
theorem d_callK0 (ks : List Str) (perm : List Nat) (T : DefG X.prog X.w X.K X.mg X.base x k st ps F) (hr : Room k X.A) (hG : X.A.guards = some []) (tk : Takes X W) (hkw : DK X W kws h)
    (hb : ∀ (kV doc pm : Value) (an : Option Addr) (cdv ct : Value) (us ws : List Value), us.length = 0 → ws.length = ks.length → bindArgs (PySem.W.fnOf x x (defArgs st) (defBody st) (defScope st) .none kV doc pm an cdv ct) ⟨us, ks.zip ws⟩ = pure (ps.zip (permG .none perm us ws)))
    (hk : kws.length = ks.length := by rfl) (hp : perm.length = ps.length := by rfl) (hg : Gl X x := by rfl) (hdb : (x == ("__debug__" : Str)) = false := by decide)
    (hall : (backToKw pos (keywordEach kws X.env)).all (·.1.isSome) = true := by rfl) (hks : (backToKw pos (keywordEach kws X.env)).filterMap (·.1) = ks := by rfl)
    (hpl : ((backTo pos (starEach [] X.env)).any (·.1) || (backToKw pos (keywordEach kws X.env)).any (·.1.isNone)) = false := by rfl) : DE X W (.Call (.Name x p) [] kws pos) (dCallK F (permG .non perm) dNil h) := by
  obtain ⟨fa, fd, h1, h2, h3, h4⟩ := T.ex
  obtain ⟨tk', pk, sk⟩ := hkw
  rw [hk] at sk
  exact ⟨_, pe_gnK0 h4 hr hG h1 h2.kp (kbn_perm h2 hb) tk pk hg hall hks hdb hpl, sim_G (fun G ds es vs zs _ _ r1 r2 => reps_perm r1 r2 perm) (fun vs zs _ _ => by unfold permG; rw [List.length_map]; exact hp) sim_nil sk⟩
theorem d_callK (ks : List Str) (perm : List Nat) (T : DefG X.prog X.w X.K X.mg X.base x k st ps F) (hr : Room k X.A) (hG : X.A.guards = some []) (tk : Takes X W) (ha : DA X W (e :: es) f) (hkw : DK X W kws h)
    (hb : ∀ (kV doc pm : Value) (an : Option Addr) (cdv ct : Value) (us ws : List Value), us.length = (e :: es).length → ws.length = ks.length → bindArgs (PySem.W.fnOf x x (defArgs st) (defBody st) (defScope st) .none kV doc pm an cdv ct) ⟨us, ks.zip ws⟩ = pure (ps.zip (permG .none perm us ws)))
    (hk : kws.length = ks.length := by rfl) (hp : perm.length = ps.length := by rfl) (hg : Gl X x := by rfl) (hdb : (x == ("__debug__" : Str)) = false := by decide)
    (hall : (backToKw pos (keywordEach kws X.env)).all (·.1.isSome) = true := by rfl) (hks : (backToKw pos (keywordEach kws X.env)).filterMap (·.1) = ks := by rfl) (he : starEach (e :: es) X.env = (false, eval e X.env) :: starEach es X.env := by rfl)
    (hpl : ((backTo pos (starEach (e :: es) X.env)).any (·.1) || (backToKw pos (keywordEach kws X.env)).any (·.1.isNone)) = false := by rfl) : DE X W (.Call (.Name x p) (e :: es) kws pos) (dCallK F (permG .non perm) f h) := by
  obtain ⟨fa, fd, h1, h2, h3, h4⟩ := T.ex
  obtain ⟨tk', pk, sk⟩ := hkw
  obtain ⟨ta, pa, sa⟩ := ha
  rw [hk] at sk
  exact ⟨_, pe_gnK h4 hr hG h1 h2.kp (kbn_perm h2 hb) tk pa pk hg hall hks hdb he hpl, sim_G (fun G ds es vs zs _ _ r1 r2 => reps_perm r1 r2 perm) (fun vs zs _ _ => by unfold permG; rw [List.length_map]; exact hp) sa sk⟩
end

/-! ### == and !=: of two numbers, two texts; of trees -/
def rE (K : PySem.W.Frag) (neg : Bool) : R2 := fun x y H Q => (scal x y = true ∧ Q (.bl (if neg then !decide (x = y) else decide (x = y))) H) ∨ rEqP K neg x y H Q
theorem op_E {X : Cx} (S : Sys X.base) (hu : X.A.units + 64 < cLine) : OpR X (compareOp .Eq) (rE X.K false) := fun pins s σ H x y v u Q I rx ry h => h.elim (fun q => op_eq pins s σ H x y v u Q I rx ry q) fun q => op_eqP S hu pins s σ H x y v u Q I rx ry q
theorem op_N {X : Cx} (S : Sys X.base) (hu : X.A.units + 64 < cLine) : OpR X (compareOp .NotEq) (rE X.K true) := fun pins s σ H x y v u Q I rx ry h => h.elim (fun q => op_ne pins s σ H x y v u Q I rx ry q) fun q => op_neP S hu pins s σ H x y v u Q I rx ry q
def gE (neg : Bool) : G2 := fun x y M Q => (∃ a b, x = .v a ∧ y = .v b ∧ scal a b = true ∧ Q (.bl (if neg then !decide (a = b) else decide (a = b))) M) ∨ gEq neg x y M Q
theorem sim_E {K : PySem.W.Frag} {neg : Bool} : Sim2 K (rE K neg) (gE neg) := by
  intro x y u w M H Q P m r1 r2 h k
  rcases h with ⟨a, b, rfl, rfl, e, q⟩ | h
  · cases r1
    cases r2
    exact .inl ⟨e, k _ M _ H q (Stp.refl _ _) m rfl⟩
  · exact .inr (sim_eq x y u w M H Q P m r1 r2 h k)

/-! ### short forms -/
section
variable {X : Cx} {W : WX} {x : Str} {p p2 pos : Pos} {a b c e : Expr} {f g h : DF} {k : Nat} {i : Int} {z : Str}
theorem d_gint (hm : ∃ t, X.mg x = some (.int i t)) (hg : Gl X x := by rfl) (hd : (x == ("__debug__" : Str)) = false := by decide) : DE X W (.Name x pos) (dC (.int i)) := let ⟨t, e⟩ := hm; d_glob (v := .int i) e ⟨t, rfl⟩ (fun _ => rfl) hg hd
theorem d_gstr (hm : ∃ t, X.mg x = some (.str z t)) (hg : Gl X x := by rfl) (hd : (x == ("__debug__" : Str)) = false := by decide) : DE X W (.Name x pos) (dC (.str z)) := let ⟨t, e⟩ := hm; d_glob (v := .str z) e ⟨t, rfl⟩ (fun _ => rfl) hg hd
theorem room64 (hr : Room k X.A) : X.A.units + 64 < cLine := by have := hr.un; omega
theorem room128 (hr : Room k X.A) : X.A.units + 128 < cLine := by have := hr.un; omega
theorem d_eq (S : Sys X.base) (hr : Room k X.A) (h1 : DE X W a f) (h2 : DE X W b g) (hm : behindInMarks .Eq b = false := by first | exact nomark _ | rfl) : DE X W (.Compare a [.Eq] [b] pos) (dOp (gE false) f g) := d_cmp (op_E S (room64 hr)) sim_E h1 h2 hm
theorem d_ne (S : Sys X.base) (hr : Room k X.A) (h1 : DE X W a f) (h2 : DE X W b g) (hm : behindInMarks .NotEq b = false := by first | exact nomark _ | rfl) : DE X W (.Compare a [.NotEq] [b] pos) (dOp (gE true) f g) := d_cmp (op_N S (room64 hr)) sim_E h1 h2 hm
theorem dt_eq (S : Sys X.base) (hr : Room k X.A) (h1 : DE X W a f) (h2 : DE X W b g) (hm : behindInMarks .Eq b = false := by first | exact nomark _ | rfl) : DT X W (.Compare a [.Eq] [b] pos) (dVal (dOp (gE false) f g)) := dt_cmp (op_E S (room64 hr)) sim_E h1 h2 hm
theorem dt_ne (S : Sys X.base) (hr : Room k X.A) (h1 : DE X W a f) (h2 : DE X W b g) (hm : behindInMarks .NotEq b = false := by first | exact nomark _ | rfl) : DT X W (.Compare a [.NotEq] [b] pos) (dVal (dOp (gE true) f g)) := dt_cmp (op_N S (room64 hr)) sim_E h1 h2 hm
theorem dt_lt (h1 : DE X W a f) (h2 : DE X W b g) : DT X W (.Compare a [.Lt] [b] pos) (dVal (dOp (gI0 fun i j => .bl (decide (i < j))) f g)) := dt_cmp op_lt sim_I0 h1 h2
theorem dt_le (h1 : DE X W a f) (h2 : DE X W b g) : DT X W (.Compare a [.LtE] [b] pos) (dVal (dOp (gI0 fun i j => .bl (decide (i ≤ j))) f g)) := dt_cmp op_le sim_I0 h1 h2
theorem dt_gt (h1 : DE X W a f) (h2 : DE X W b g) : DT X W (.Compare a [.Gt] [b] pos) (dVal (dOp (gI0 fun i j => .bl (decide (j < i))) f g)) := dt_cmp op_gt sim_I0 h1 h2
theorem dt_ge (h1 : DE X W a f) (h2 : DE X W b g) : DT X W (.Compare a [.GtE] [b] pos) (dVal (dOp (gI0 fun i j => .bl (decide (j ≤ i))) f g)) := dt_cmp op_ge sim_I0 h1 h2
theorem dt_leLe (h1 : DE X W a f) (h2 : DE X W b g) (h3 : DE X W c h) (hm : lastMarks [.LtE, .LtE] [b, c] = false := by rfl) : DT X W (.Compare a [.LtE, .LtE] [b, c] pos) (dVal (dChain (gI0 fun i j => .bl (decide (i ≤ j))) (gI0 fun i j => .bl (decide (i ≤ j))) f g h)) := dt_chain op_le op_le sim_I0 sim_I0 h1 h2 h3 hm
theorem dt_in (h1 : DE X W a f) (h2 : DE X W b g) (hm : behindInMarks .In b = false := by first | exact nomark _ | rfl) : DT X W (.Compare a [.In] [b] pos) (dVal (dOp (gIn false) f g)) := dt_cmp op_in_seq sim_in h1 h2 hm
theorem dt_nin (h1 : DE X W a f) (h2 : DE X W b g) (hm : behindInMarks .NotIn b = false := by first | exact nomark _ | rfl) : DT X W (.Compare a [.NotIn] [b] pos) (dVal (dOp (gIn true) f g)) := dt_cmp op_notIn_seq sim_in h1 h2 hm
abbrev dOne (f : DF) : DFs := dCons f dNil
theorem da_1 (h1 : DE X W a f) (hs : starEach [a] X.env = (false, eval a X.env) :: starEach [] X.env := by rfl) : DA X W [a] (dOne f) := da_cons h1 da_nil hs
theorem d_len (hm : X.mg "len" = none) (h1 : DE X W a f) (hg : Gl X "len" := by rfl) (hs : starEach [a] X.env = (false, eval a X.env) :: starEach [] X.env := by rfl) : DE X W (.Call (.Name "len" p) [a] [] pos) (dCB gLen (dOne f)) := d_callB call_len sim_len hm rfl (da_1 h1 hs) hg (he := hs)
theorem d_repr (S : Sys X.base) (hG : X.A.guards = some []) (hr : Room k X.A) (hm : X.mg "repr" = none) (h1 : DE X W a f) (hg : Gl X "repr" := by rfl) (hs : starEach [a] X.env = (false, eval a X.env) :: starEach [] X.env := by rfl) : DE X W (.Call (.Name "repr" p) [a] [] pos) (dCB gRepr (dOne f)) := d_callB (call_repr S hG (room128 hr)) sim_repr hm rfl (da_1 h1 hs) hg (he := hs)
theorem d_all (hc : X.calm = true) (hm : X.mg "all" = none) (h1 : DE X W a f) (hg : Gl X "all" := by rfl) (hs : starEach [a] X.env = (false, eval a X.env) :: starEach [] X.env := by rfl) : DE X W (.Call (.Name "all" p) [a] [] pos) (dCB gAll (dOne f)) := d_callB (cr_all hc) sim_all hm rfl (da_1 h1 hs) hg (he := hs)
theorem d_any (hc : X.calm = true) (hm : X.mg "any" = none) (h1 : DE X W a f) (hg : Gl X "any" := by rfl) (hs : starEach [a] X.env = (false, eval a X.env) :: starEach [] X.env := by rfl) : DE X W (.Call (.Name "any" p) [a] [] pos) (dCB gAny (dOne f)) := d_callB (cr_any hc) sim_any hm rfl (da_1 h1 hs) hg (he := hs)
theorem d_sum (hc : X.calm = true) (hm : X.mg "sum" = none) (h1 : DE X W a f) (hg : Gl X "sum" := by rfl) (hs : starEach [a] X.env = (false, eval a X.env) :: starEach [] X.env := by rfl) : DE X W (.Call (.Name "sum" p) [a] [] pos) (dCB gSum (dOne f)) := d_callB (cr_sum hc) sim_sum hm rfl (da_1 h1 hs) hg (he := hs)
theorem d_tupOf (hm : X.mg "tuple" = none) (h1 : DE X W a f) (hg : Gl X "tuple" := by rfl) (hs : starEach [a] X.env = (false, eval a X.env) :: starEach [] X.env := by rfl) : DE X W (.Call (.Name "tuple" p) [a] [] pos) (dCB gTupOf (dOne f)) := d_callTy call_tuple_of sim_tupOf hm rfl (da_1 h1 hs) hg (he := hs)
theorem d_max2 (hc : X.calm = true) (hm : X.mg "max" = none) (h1 : DE X W a f) (h2 : DE X W b g) (hg : Gl X "max" := by rfl) (hs : starEach [a, b] X.env = (false, eval a X.env) :: starEach [b] X.env := by rfl) (hs2 : starEach [b] X.env = (false, eval b X.env) :: starEach [] X.env := by rfl) (hpl : (backTo pos (starEach [b] X.env)).any (·.1) = false := by rfl) :
    DE X W (.Call (.Name "max" p) [a, b] [] pos) (dCB gMax2 (dCons f (dOne g))) := d_callB (call_max2 hc) sim_max2 hm rfl (da_cons h1 (da_1 h2 hs2) hs) hg (by decide) (by decide) hs hpl
theorem d_min2 (hc : X.calm = true) (hm : X.mg "min" = none) (h1 : DE X W a f) (h2 : DE X W b g) (hg : Gl X "min" := by rfl) (hs : starEach [a, b] X.env = (false, eval a X.env) :: starEach [b] X.env := by rfl) (hs2 : starEach [b] X.env = (false, eval b X.env) :: starEach [] X.env := by rfl) (hpl : (backTo pos (starEach [b] X.env)).any (·.1) = false := by rfl) :
    DE X W (.Call (.Name "min" p) [a, b] [] pos) (dCB gMin2 (dCons f (dOne g))) := d_callB (call_min2 hc) sim_min2 hm rfl (da_cons h1 (da_1 h2 hs2) hs) hg (by decide) (by decide) hs hpl
theorem d_isi {y : Str} {n : String} (hm : X.mg "isinstance" = none) (my : X.mg y = none) (vy : bootBuiltins y = some (.type n)) (h1 : DE X W a f) (gy : Gl X y := by rfl) (ny : y ≠ "__name__" := by decide) (dy : (y == ("__debug__" : Str)) = false := by decide) (hg : Gl X "isinstance" := by rfl)
    (hs : starEach [a, .Name y p2] X.env = (false, eval a X.env) :: starEach [.Name y p2] X.env := by rfl) (hs2 : starEach [.Name y p2] X.env = (false, eval (.Name y p2) X.env) :: starEach [] X.env := by rfl) (hpl : (backTo pos (starEach [.Name y p2] X.env)).any (·.1) = false := by rfl) :
    DE X W (.Call (.Name "isinstance" p) [a, .Name y p2] [] pos) (dCB gIsi (dCons f (dOne (dC (.v (.ty n)))))) := d_callB call_isi sim_isi hm rfl (da_cons h1 (da_1 (d_ty my vy gy ny dy) hs2) hs) hg (by decide) (by decide) hs hpl
end
end DL
set_option maxHeartbeats 4000001
namespace DL
open PySem PySem.Spec
open PyProof.Rows L2

/-! ### plain laws of the data layer: loops by an invariant -/
theorem forL_inv {Kp : Mem → Prop} {g : DG} {b : SF} {E : EndsD} (J : Nat → EnvD → Mem → Prop) {ds : List D} (hK : ∀ i env M, J i env M → Kp M)
    (hs : ∀ i d env M (R : EnvD → Mem → Prop), ds[i]? = some d → J i env M → (∀ env' M', J (i + 1) env' M' → R env' M') → g d env M fun env1 M1 => b { E with nx := R, ct := R, bk := E.nx } env1 M1)
    {env : EnvD} {M : Mem} (h0 : J 0 env M) (hq : ∀ env M, J ds.length env M → E.nx env M) : forL Kp g b E ds env M := by
  have key : ∀ (n i : Nat) (env : EnvD) (M : Mem), n = ds.length - i → i ≤ ds.length → J i env M → forL Kp g b E (ds.drop i) env M := by
    intro n
    induction n with
    | zero =>
      intro i env M hn hi hj
      have e : i = ds.length := by omega
      subst e
      rw [List.drop_length]
      exact ⟨hK _ _ _ hj, hq env M hj⟩
    | succ n ih =>
      intro i env M hn hi hj
      have hlt : i < ds.length := by omega
      rw [(List.drop_eq_getElem_cons hlt)]
      exact ⟨hK _ _ _ hj, hs i ds[i] env M _ (by simp [hlt]) hj fun env' M' hj' => ih (i + 1) env' M' (by omega) (by omega) hj'⟩
  exact key _ 0 env M rfl (Nat.zero_le _) h0
theorem compL_inv {Kp : Mem → Prop} {a : Addr} {g : DG} {env : EnvD} {fe : DF} {Q : QD} (J : Nat → List D → Mem → Prop) {ds : List D} (hK : ∀ i acc M, J i acc M → Kp M)
    (hs : ∀ i d acc M (R : D → Mem → Prop), ds[i]? = some d → J i acc M → (∀ v M', (∃ acc', M' a = some (.lst acc') ∧ acc'.length < 1000000 ∧ J (i + 1) (acc' ++ [v]) (mput M' a (.lst (acc' ++ [v])))) → R v M') → g d env M fun env1 M1 => fe env1 M1 R noX)
    {M : Mem} (h0 : J 0 [] M) (hq : ∀ acc M, J ds.length acc M → Q (.ref a) M) : compL Kp a g env dYes fe Q ds M := by
  have key : ∀ (n i : Nat) (acc : List D) (M : Mem), n = ds.length - i → i ≤ ds.length → J i acc M → compL Kp a g env dYes fe Q (ds.drop i) M := by
    intro n
    induction n with
    | zero =>
      intro i acc M hn hi hj
      have e : i = ds.length := by omega
      subst e
      rw [List.drop_length]
      exact ⟨hK _ _ _ hj, hq acc M hj⟩
    | succ n ih =>
      intro i acc M hn hi hj
      have hlt : i < ds.length := by omega
      rw [(List.drop_eq_getElem_cons hlt)]
      refine ⟨hK _ _ _ hj, ?_⟩
      have step := hs i ds[i] acc M (fun y M3 => lstAt M3 a fun acc => acc.length < 1000000 ∧ compL Kp a g env dYes fe Q (ds.drop (i + 1)) (mput M3 a (.lst (acc ++ [y])))) (by simp [hlt]) hj ?_
      · have mono : ∀ {P P' : EnvD → Mem → Prop}, P = P' → g ds[i] env M P → g ds[i] env M P' := fun e h => e ▸ h
        refine mono ?_ step
        funext env1 M1
        refine propext ⟨fun h => ⟨fun _ => h, fun z => by cases z⟩, fun h => h.1 rfl⟩
      · rintro v M' ⟨acc', e1, e2, e3⟩
        unfold lstAt
        rw [e1]
        exact ⟨e2, ih (i + 1) _ _ (by omega) (by omega) e3⟩
  exact key _ 0 [] M rfl (Nat.zero_le _) h0
theorem take_one {α : Type} {ds : List α} {i : Nat} (h : i < ds.length) : ds.take (i + 1) = ds.take i ++ [ds[i]] := by
  first
    | exact List.take_succ_eq_append_getElem h
    | simp [List.take_succ, h]
theorem mput_self {M : Mem} {a : Addr} {o : MO} (h : M a = some o) : mput M a o = M := by
  funext b
  unfold mput
  split
  · rename_i e
    rw [e, h]
  · rfl
/-- [v(x) for x in ..], where an element changes nothing; the new list is not changed any more -/
theorem comp_frz {Kp : Mem → Prop} {g : DG} {env : EnvD} {fe : DF} {Q : QD} {ds : List D} {M : Mem} (v : D → D) (hK : ∀ a l, M a = none → Kp (mput M a (.lst l))) (hz : ds.length < 1000000)
    (he : ∀ (d : D) (a : Addr) (l : List D) (R : D → Mem → Prop), d ∈ ds → M a = none → R (v d) (mput M a (.lst l)) → g d env (mput M a (.lst l)) fun env1 M1 => fe env1 M1 R noX)
    (q : Q (.lst (ds.map v)) M) (a : Addr) (ha : M a = none) : compL Kp a g env dYes fe (fun d M1 => atRef d fun a => lstAt M1 a fun l => Q (.lst l) (mdel M1 a)) ds (mput M a (.lst [])) := by
  refine compL_inv (fun i acc M' => i ≤ ds.length ∧ acc = (ds.take i).map v ∧ M' = mput M a (.lst acc)) ?_ ?_ ⟨Nat.zero_le _, by simp, rfl⟩ ?_
  · rintro i acc M' ⟨_, rfl, rfl⟩
    exact hK a _ ha
  · rintro i d acc M' R hd ⟨hi, rfl, rfl⟩ k
    have hlt : i < ds.length := by
      rcases Nat.lt_or_ge i ds.length with h | h
      · exact h
      · rw [List.getElem?_eq_none h] at hd
        cases hd
    have e : ds[i] = d := by
      rw [List.getElem?_eq_getElem hlt] at hd
      exact Option.some.inj hd
    refine he d a _ R (by rw [← e]; exact List.getElem_mem hlt) ha (k _ _ ⟨_, mput_same, by rw [List.length_map, List.length_take]; omega, by omega, ?_, ?_⟩)
    · rw [take_one hlt, List.map_append, e]
      rfl
    · rw [mput_mput]
  · rintro acc M' ⟨_, rfl, rfl⟩
    show lstAt _ a _
    unfold lstAt
    rw [mput_same, mdel_mput ha, List.take_length]
    exact q
/-- the same, the new list may be changed later -/
theorem comp_mem {Kp : Mem → Prop} {g : DG} {env : EnvD} {fe : DF} {Q : QD} {ds : List D} {M : Mem} (v : D → D) (hK : ∀ a l, M a = none → Kp (mput M a (.lst l))) (hz : ds.length < 1000000)
    (he : ∀ (d : D) (a : Addr) (l : List D) (R : D → Mem → Prop), d ∈ ds → M a = none → R (v d) (mput M a (.lst l)) → g d env (mput M a (.lst l)) fun env1 M1 => fe env1 M1 R noX)
    (q : ∀ a, M a = none → Q (.ref a) (mput M a (.lst (ds.map v)))) (a : Addr) (ha : M a = none) : compL Kp a g env dYes fe Q ds (mput M a (.lst [])) := by
  refine compL_inv (fun i acc M' => i ≤ ds.length ∧ acc = (ds.take i).map v ∧ M' = mput M a (.lst acc)) ?_ ?_ ⟨Nat.zero_le _, by simp, rfl⟩ ?_
  · rintro i acc M' ⟨_, rfl, rfl⟩
    exact hK a _ ha
  · rintro i d acc M' R hd ⟨hi, rfl, rfl⟩ k
    have hlt : i < ds.length := by
      rcases Nat.lt_or_ge i ds.length with h | h
      · exact h
      · rw [List.getElem?_eq_none h] at hd
        cases hd
    have e : ds[i] = d := by
      rw [List.getElem?_eq_getElem hlt] at hd
      exact Option.some.inj hd
    refine he d a _ R (by rw [← e]; exact List.getElem_mem hlt) ha (k _ _ ⟨_, mput_same, by rw [List.length_map, List.length_take]; omega, by omega, ?_, ?_⟩)
    · rw [take_one hlt, List.map_append, e]
      rfl
    · rw [mput_mput]
  · rintro acc M' ⟨_, rfl, rfl⟩
    rw [List.take_length]
    exact q a ha
theorem forL_append {Kp : Mem → Prop} {g : DG} {b : SF} {E : EndsD} : True := trivial

/-! ### what things are -/
theorem tyD_int {M : Mem} {d : D} (h : tyD M d = some "int") : ∃ i, d = .int i := by
  cases d with
  | v x =>
    cases x with
    | int i => exact ⟨i, rfl⟩
    | ref a =>
      simp only [tyD] at h
      split at h <;> simp at h
    | non => simp [tyD] at h
    | bl _ => simp [tyD] at h
    | str _ => simp [tyD] at h
    | byt _ => cases h
    | flt _ => cases h
    | ty _ => cases h
  | lst _ => simp [tyD] at h
  | tup _ => simp [tyD] at h
  | dct _ => simp [tyD] at h
  | exn _ _ _ => cases h
theorem tyD_bool {M : Mem} {d : D} (h : tyD M d = some "bool") : ∃ i, d = .bl i := by
  cases d with
  | v x =>
    cases x with
    | bl i => exact ⟨i, rfl⟩
    | ref a =>
      simp only [tyD] at h
      split at h <;> simp at h
    | non => simp [tyD] at h
    | int _ => simp [tyD] at h
    | str _ => simp [tyD] at h
    | byt _ => cases h
    | flt _ => cases h
    | ty _ => cases h
  | lst _ => simp [tyD] at h
  | tup _ => simp [tyD] at h
  | dct _ => simp [tyD] at h
  | exn _ _ _ => cases h
theorem tyD_seq {M : Mem} {d : D} {t : String} (h : tyD M d = some t) : (seqD M d).isSome = (t == "list" || t == "tuple") := by
  cases d with
  | v x =>
    cases x with
    | ref a =>
      simp only [tyD] at h
      simp only [seqD]
      split at h
      · rename_i e
        obtain rfl := Option.some.inj h
        rw [e]
        simp
      · rename_i e
        obtain rfl := Option.some.inj h
        rw [e]
        simp
      · cases h
    | byt _ => cases h
    | flt _ => cases h
    | ty _ => cases h
    | _ =>
      simp only [tyD, Option.some.injEq] at h
      subst h
      simp [seqD]
  | exn _ _ _ => cases h
  | _ =>
    simp only [tyD, Option.some.injEq] at h
    subst h
    simp [seqD]
theorem seq_tyD {M : Mem} {d : D} {b : Bool} {l : List D} (h : seqD M d = some (b, l)) : tyD M d = some (if b then "list" else "tuple") := by
  cases d with
  | v x =>
    cases x with
    | ref a =>
      simp only [seqD] at h
      split at h
      · rename_i e
        cases h
        simp only [tyD, e]
        rfl
      · cases h
    | _ => cases h
  | lst _ => cases h; rfl
  | tup _ => cases h; rfl
  | dct _ => cases h
  | exn _ _ _ => cases h

/-! ### short steps -/
theorem by2 {b : Bool} {A B : Prop} (h : b = true → A) (k : b = false → B) : bsel b A B := ⟨h, k⟩
theorem byT {b : Bool} {A B : Prop} (e : b = true) (h : A) : bsel b A B := ⟨fun _ => h, fun z => (by rw [e] at z; cases z)⟩
theorem byF {b : Bool} {A B : Prop} (e : b = false) (h : B) : bsel b A B := ⟨fun z => (by rw [e] at z; cases z), fun _ => h⟩
theorem selT {A B : Prop} : bsel true A B = A := propext ⟨fun h => h.1 rfl, fun h => ⟨fun _ => h, fun z => (by cases z)⟩⟩
theorem selF {A B : Prop} : bsel false A B = B := propext ⟨fun h => h.2 rfl, fun h => ⟨fun z => (by cases z), fun _ => h⟩⟩
section
variable {x y z u : D}
theorem at10 : atI [x] 0 = some x := rfl
theorem at20 : atI [x, y] 0 = some x := rfl
theorem at21 : atI [x, y] 1 = some y := rfl
theorem at30 : atI [x, y, z] 0 = some x := rfl
theorem at31 : atI [x, y, z] 1 = some y := rfl
theorem at32 : atI [x, y, z] 2 = some z := rfl
theorem at40 : atI [x, y, z, u] 0 = some x := rfl
theorem at41 : atI [x, y, z, u] 1 = some y := rfl
theorem at42 : atI [x, y, z, u] 2 = some z := rfl
theorem at43 : atI [x, y, z, u] 3 = some u := rfl
theorem ix30 : ixN 3 0 = some 0 := rfl
theorem ix31 : ixN 3 1 = some 1 := rfl
theorem ix32 : ixN 3 2 = some 2 := rfl
end
theorem max2_is {i j : Int} {M : Mem} {Q : QD} : gMax2 [.int i, .int j] M Q = Q (.int (if j > i then j else i)) M := propext ⟨fun h => by
  obtain ⟨a, b, e, q⟩ := h
  cases e
  exact q, fun q => ⟨i, j, rfl, q⟩⟩
theorem min2_is {i j : Int} {M : Mem} {Q : QD} : gMin2 [.int i, .int j] M Q = Q (.int (if j < i then j else i)) M := propext ⟨fun h => by
  obtain ⟨a, b, e, q⟩ := h
  cases e
  exact q, fun q => ⟨i, j, rfl, q⟩⟩
theorem at_nat {l : List D} {n : Nat} (h : n < l.length) : atI l (n : Int) = l[n]? := by
  unfold atI ixN
  rw [(if_pos (by omega)), if_pos (by omega)]
  simp
theorem at_int {l : List D} {i : Int} (h0 : 0 ≤ i) (h : i < l.length) : ∃ d, atI l i = some d ∧ l[i.toNat]? = some d := by
  obtain ⟨n, rfl⟩ : ∃ n : Nat, i = n := ⟨i.toNat, by omega⟩
  have h2 : n < l.length := by omega
  refine ⟨l[n], ?_, by simp [h2]⟩
  rw [at_nat h2]
  simp [h2]

/-! ### a purse -/
/-- at a: a purse of which at most n draws were made behind its digits -/
def Pu (M : Mem) (a : Addr) (n : Int) : Prop := ∃ x y z : Int, M a = some (.lst [.int x, .int y, .int z]) ∧ 0 ≤ x ∧ 0 ≤ y ∧ y < 2147483629 ∧ 0 ≤ z ∧ z ≤ n
theorem Pu.le {M : Mem} {a : Addr} {m n : Int} (h : Pu M a m) (hl : m ≤ n) : Pu M a n := let ⟨x, y, z, e, h1, h2, h3, h4, h5⟩ := h; ⟨x, y, z, e, h1, h2, h3, h4, by omega⟩
theorem Pu.at {M M' : Mem} {a : Addr} {n : Int} (h : Pu M a n) (e : M' a = M a) : Pu M' a n := let ⟨x, y, z, q, r⟩ := h; ⟨x, y, z, e.trans q, r⟩
theorem Pu.ne {M : Mem} {a : Addr} {n : Int} (h : Pu M a n) : M a ≠ none := by
  obtain ⟨_, _, _, e, _⟩ := h
  rw [e]
  simp
/-- nothing but a's has changed -/
def But (a : Addr) (M M' : Mem) : Prop := ∀ b, b ≠ a → M' b = M b
theorem But.refl (a : Addr) (M : Mem) : But a M M := fun _ _ => rfl
theorem But.trans {a : Addr} {M M1 M2 : Mem} (h : But a M M1) (k : But a M1 M2) : But a M M2 := fun b hb => (k b hb).trans (h b hb)
theorem But.put {a : Addr} {M : Mem} {o : MO} : But a M (mput M a o) := fun _ hb => mput_ne hb
theorem But.mput {a b : Addr} {M M' : Mem} {o : MO} (h : But a M M') (hb : b ≠ a) : But a (mput M b o) (DL.mput M' b o) := fun c hc => by
  by_cases e : c = b
  · rw [e, mput_same, mput_same]
  · rw [mput_ne e, mput_ne e, h c hc]
end DL
set_option maxHeartbeats 4000001
namespace DL
open PySem PySem.Spec
open PyProof.Rows L2

/-! ### texts of things: never too long -/
structure Tame (b k : Nat) (p : PyData) : Prop where
  sh : p.showable = true
  lv : p.leavesShort 40 = true
  bk : p.bulk ≤ b
  dp : p.depth ≤ k
theorem Tame.mono {b k c l : Nat} {p : PyData} (h : Tame b k p) (h1 : b ≤ c) (h2 : k ≤ l) : Tame c l p := ⟨h.sh, h.lv, Nat.le_trans h.bk h1, Nat.le_trans h.dp h2⟩
theorem Tame.len {b k : Nat} {p : PyData} (h : Tame b k p) (hb : b ≤ 100000) : p.shown.length ≤ sizeLine := by
  have h1 := PyData.shown_le_bulk 40 (by decide) p h.lv
  have h2 := h.bk
  rw [sizeLine_eq]
  omega
theorem Tame.all {b k : Nat} : ∀ {xs : List PyData}, (∀ x ∈ xs, Tame b k x) → PyData.showableAll xs = true ∧ PyData.leavesShortAll 40 xs = true ∧ PyData.bulkAll xs ≤ xs.length * (b + 1) ∧ PyData.depthAll xs ≤ k
  | [], _ => ⟨rfl, rfl, Nat.zero_le _, Nat.zero_le _⟩
  | x :: xs, h => by
    obtain ⟨h1, h2, h3, h4⟩ := Tame.all (xs := xs) fun y hy => h y (List.mem_cons_of_mem _ hy)
    have t := h x List.mem_cons_self
    have t3 := t.bk
    have t4 := t.dp
    refine ⟨by simp only [PyData.showableAll, t.sh, h1, Bool.and_self], by simp only [PyData.leavesShortAll, t.lv, h2, Bool.and_self], ?_, ?_⟩
    · simp only [PyData.bulkAll, List.length_cons]
      rw [Nat.add_mul]
      omega
    · simp only [PyData.depthAll]
      omega
theorem Tame.list {b k : Nat} {xs : List PyData} (h : ∀ x ∈ xs, Tame b k x) : Tame (xs.length * (b + 1)) (k + 1) (.list xs) := by
  obtain ⟨h1, h2, h3, h4⟩ := Tame.all h
  exact ⟨by simpa only [PyData.showable] using h1, by simpa only [PyData.leavesShort] using h2, by simpa only [PyData.bulk] using h3, by simpa only [PyData.depth] using Nat.succ_le_succ h4⟩
theorem Tame.tuple {b k : Nat} {xs : List PyData} (h : ∀ x ∈ xs, Tame b k x) : Tame (xs.length * (b + 1)) (k + 1) (.tuple xs) := by
  obtain ⟨h1, h2, h3, h4⟩ := Tame.all h
  exact ⟨by simpa only [PyData.showable] using h1, by simpa only [PyData.leavesShort] using h2, by simpa only [PyData.bulk] using h3, by simpa only [PyData.depth] using Nat.succ_le_succ h4⟩
theorem Tame.int {i : Int} (h1 : -999999999999 ≤ i) (h2 : i ≤ 999999999999) : Tame 0 0 (.int i) := by
  refine ⟨?_, ?_, Nat.le_refl _, Nat.le_refl _⟩
  · simp only [PyData.showable, decide_eq_true_eq]
    by_cases h0 : i.natAbs = 0
    · rw [h0]
      decide
    · refine (Nat.log2_lt h0).mpr (Nat.lt_trans (show i.natAbs < 2 ^ 40 by omega) (Nat.pow_lt_pow_right (by decide) (by decide)))
  · have h := PyData.shown_int_le2 h1 h2
    simp only [PyData.leavesShort, decide_eq_true_eq]
    omega
theorem Tame.non : Tame 0 0 .none := ⟨rfl, rfl, Nat.le_refl _, Nat.le_refl _⟩
theorem Tame.bool {b : Bool} : Tame 0 0 (.bool b) := ⟨rfl, rfl, Nat.le_refl _, Nat.le_refl _⟩
theorem Tame.dict0 : Tame 0 1 (.dict []) := ⟨by decide, by decide, by decide, by decide⟩
theorem repr_is {M : Mem} {d : D} {p : PyData} {b k : Nat} {Q : QD} (h : pdM M d = some p) (t : Tame b k p) (hb : b ≤ 100000) (hk : k ≤ 100) (q : Q (.str p.shown) M) : gRepr [d] M Q := ⟨p, h, t.sh, t.len hb, Nat.le_trans t.dp hk, q⟩
theorem eq_str {x y : Str} {M : Mem} {Q : QD} (q : Q (.bl (decide (x = y))) M) : gE false (.str x) (.str y) M Q := .inl ⟨_, _, rfl, rfl, rfl, by
  have e : decide (V.str x = V.str y) = decide (x = y) := by simp
  simpa [e] using q⟩
theorem ne_str {x y : Str} {M : Mem} {Q : QD} (q : Q (.bl (!decide (x = y))) M) : gE true (.str x) (.str y) M Q := .inl ⟨_, _, rfl, rfl, rfl, by
  have e : decide (V.str x = V.str y) = decide (x = y) := by simp
  simpa [e] using q⟩
theorem eq_int' {x y : Int} {M : Mem} {Q : QD} (q : Q (.bl (decide (x = y))) M) : gE false (.int x) (.int y) M Q := .inl ⟨_, _, rfl, rfl, rfl, by
  have e : decide (V.int x = V.int y) = decide (x = y) := by simp
  simpa [e] using q⟩
theorem ne_int' {x y : Int} {M : Mem} {Q : QD} (q : Q (.bl (!decide (x = y))) M) : gE true (.int x) (.int y) M Q := .inl ⟨_, _, rfl, rfl, rfl, by
  have e : decide (V.int x = V.int y) = decide (x = y) := by simp
  simpa [e] using q⟩
theorem ne_tree {x y : D} {p q : PyData} {M : Mem} {Q : QD} (h1 : pdM M x = some p) (h2 : pdM M y = some q) (s1 : SeqAt.shaped p = true) (s2 : SeqAt.shaped q = true) (h : Q (.bl (!PyData.eqv p q)) M) : gE true x y M Q := .inr ⟨p, q, h1, h2, s1, s2, h⟩
theorem eq_tree {x y : D} {p q : PyData} {M : Mem} {Q : QD} (h1 : pdM M x = some p) (h2 : pdM M y = some q) (s1 : SeqAt.shaped p = true) (s2 : SeqAt.shaped q = true) (h : Q (.bl (PyData.eqv p q)) M) : gE false x y M Q := .inr ⟨p, q, h1, h2, s1, s2, h⟩

/-! ### a thing: a tree that does not change, or a list of such that may change -/
inductive Val (M : Mem) : D → PyData → Prop
  | tree {p : PyData} (h : plainP p = true) : Val M (ofP p) p
  | mem {a : Addr} {ps : List PyData} (h : M a = some (.lst (ofPs ps))) (hp : plainPs ps = true) : Val M (.ref a) (.list ps)
def tyP : PyData → String
  | .none => "NoneType"
  | .bool _ => "bool"
  | .int _ => "int"
  | .str _ => "str"
  | .list _ => "list"
  | .tuple _ => "tuple"
  | .dict _ => "dict"
theorem Val.pd {M : Mem} {d : D} {p : PyData} (h : Val M d p) : pdM M d = some p := by
  cases h with
  | tree h => exact pdM_ofP h
  | mem h hp =>
    show resM M 3 _ = _
    unfold resM
    rw [h]
    show (match pdsW (resM M 2) (ofPs _) with | some ps => some (PyData.list ps) | none => none) = _
    rw [pdsW_ofPs _ _ hp]
theorem Val.pair {M : Mem} {d : D} {p : PyData} {s : Str} (h : Val M d p) : pdM M (.lst [.str s, d]) = some (.list [.str s, p]) := by
  have e := h.pd
  unfold pdM at e ⊢
  simp only [pdW, pdsW, e]
theorem Val.ty {M : Mem} {d : D} {p : PyData} (h : Val M d p) : tyD M d = some (tyP p) := by
  cases h with
  | tree h => cases p <;> rfl
  | mem h hp =>
    simp only [tyD, h]
    rfl
theorem Val.seq {M : Mem} {d : D} {p : PyData} {ps : List PyData} (h : Val M d p) (e : p = .list ps ∨ p = .tuple ps) : ∃ b, seqD M d = some (b, ofPs ps) ∧ plainPs ps = true := by
  cases h with
  | tree h =>
    rcases e with rfl | rfl
    · exact ⟨true, rfl, by simpa only [plainP] using h⟩
    · exact ⟨false, rfl, by simpa only [plainP] using h⟩
  | mem h hp =>
    rcases e with e | e
    · cases e
      refine ⟨true, ?_, hp⟩
      simp only [seqD, h]
    · cases e
theorem ofPs_mem {d : D} : ∀ {ps : List PyData}, plainPs ps = true → d ∈ ofPs ps → ∃ p, p ∈ ps ∧ d = ofP p ∧ plainP p = true
  | [], _, h => by cases h
  | p :: ps, hp, h => by
    simp only [plainPs, Bool.and_eq_true] at hp
    obtain rfl | h := List.mem_cons.mp h
    · exact ⟨p, List.mem_cons_self, rfl, hp.1⟩
    · obtain ⟨q, h1, h2, h3⟩ := ofPs_mem hp.2 h
      exact ⟨q, List.mem_cons_of_mem _ h1, h2, h3⟩
theorem ofPs_length : ∀ ps : List PyData, (ofPs ps).length = ps.length
  | [] => rfl
  | _ :: ps => congrArg Nat.succ (ofPs_length ps)
theorem ofPs_append : ∀ ps qs : List PyData, ofPs (ps ++ qs) = ofPs ps ++ ofPs qs
  | [], _ => rfl
  | p :: ps, qs => congrArg (ofP p :: ·) (ofPs_append ps qs)
theorem ofPs_ints : ∀ ns : List Int, ofPs (ns.map .int) = ns.map D.int
  | [] => rfl
  | n :: ns => congrArg (D.int n :: ·) (ofPs_ints ns)
theorem plain_ints : ∀ ns : List Int, plainPs (ns.map .int) = true
  | [] => rfl
  | n :: ns => plain_ints ns
theorem plain_append : ∀ {ps qs : List PyData}, plainPs ps = true → plainPs qs = true → plainPs (ps ++ qs) = true
  | [], _, _, h => h
  | p :: ps, qs, h, k => by
    simp only [plainPs, Bool.and_eq_true] at h
    simp only [List.cons_append, plainPs, h.1, plain_append h.2 k, Bool.and_self]
theorem layInts : ∀ ns : List Int, PyData.canLayAll0 (ns.map .int) = true
  | [] => rfl
  | n :: ns => by
    simp only [List.map_cons, PyData.canLayAll0, PyData.canLay0, layInts ns, Bool.and_self]
theorem depInts : ∀ ns : List Int, PyData.depthAll (ns.map .int) = 0
  | [] => rfl
  | n :: ns => by
    simp only [List.map_cons, PyData.depthAll, PyData.depth, depInts ns, Nat.max_self]
theorem shaped_ints (ns : List Int) : SeqAt.shaped (.list (ns.map .int)) = true := by
  unfold SeqAt.shaped
  simp only [PyData.canLay0, layInts, PyData.depth, depInts]
  decide
theorem shaped_eqv {p : PyData} (h : SeqAt.shaped p = true) : PyData.eqv p p = true := SeqAt.eqv_refl p (SeqAt.canLay_of_shaped h)
/-- a whole number from lo to hi, no truth -/
def wholeD (d : D) (lo hi : Int) : Bool := match d with
  | .v (.int i) => decide (lo ≤ i) && decide (i ≤ hi)
  | _ => false
end DL
set_option maxHeartbeats 4000001
namespace DL
open PySem PySem.Spec
open PyProof.Rows L2

/-! ### the steps as equations (by propext, so that the kernel need not unfold along) -/
/-- [..], not changed any more -/
def cFrz (Kp : Mem → Prop) (g : DG) (env : EnvD) (ft : DFt) (fe : DF) (Q : QD) (ds : List D) (M : Mem) : Prop := ∀ n, M n = none → compL Kp n g env ft fe (fun d M1 => atRef d fun a => lstAt M1 a fun l => Q (.lst l) (mdel M1 a)) ds (mput M n (.lst []))
theorem cFrz_inv {Kp : Mem → Prop} {g : DG} {env : EnvD} {fe : DF} {Q : QD} {ds : List D} {M : Mem} (J : Nat → List D → Mem → Prop) (hK : ∀ i acc M', J i acc M' → Kp M')
    (hs : ∀ n, M n = none → ∀ i d acc M' (R : D → Mem → Prop), ds[i]? = some d → M' n = some (.lst acc) → acc.length = i → J i acc M' → (∀ v M2, M2 n = some (.lst acc) → J (i + 1) (acc ++ [v]) (mput M2 n (.lst (acc ++ [v]))) → R v M2) → g d env M' fun env1 M1 => fe env1 M1 R noX)
    (hz : ds.length < 1000000) (h0 : ∀ n, M n = none → J 0 [] (mput M n (.lst []))) (hq : ∀ n acc M', M n = none → J ds.length acc M' → acc.length = ds.length → Q (.lst acc) (mdel M' n)) : cFrz Kp g env dYes fe Q ds M := by
  intro n hn
  refine compL_inv (fun i acc M' => M' n = some (.lst acc) ∧ acc.length = i ∧ J i acc M') (fun i acc M' h => hK i acc M' h.2.2) ?_ ⟨mput_same, rfl, h0 n hn⟩ ?_
  · rintro i d acc M' R hd ⟨e1, e2, e3⟩ k
    refine hs n hn i d acc M' R hd e1 e2 e3 fun v M2 h1 h2 => k v M2 ⟨acc, h1, ?_, mput_same, by simp [e2], h2⟩
    have hi : i < ds.length := by
      rcases Nat.lt_or_ge i ds.length with z | z
      · exact z
      · rw [List.getElem?_eq_none z] at hd
        cases hd
    omega
  · rintro acc M' ⟨e1, e2, e3⟩
    show lstAt M' n _
    unfold lstAt
    rw [e1]
    exact hq n acc M' hn e3 e2
theorem cFrz_of {Kp : Mem → Prop} {g : DG} {env : EnvD} {fe : DF} {Q : QD} {ds : List D} {M : Mem} (v : D → D) (hK : ∀ a l, M a = none → Kp (mput M a (.lst l))) (hz : ds.length < 1000000)
    (he : ∀ (d : D) (a : Addr) (l : List D) (R : D → Mem → Prop), d ∈ ds → M a = none → R (v d) (mput M a (.lst l)) → g d env (mput M a (.lst l)) fun env1 M1 => fe env1 M1 R noX)
    (q : Q (.lst (ds.map v)) M) : cFrz Kp g env dYes fe Q ds M := comp_frz v hK hz he q
section
variable {f g : SF} {a b c : DF} {fs hs : DFs} {p q : DFt} {o o2 : G2} {E : EndsD} {env : EnvD} {M : Mem} {Q : QD} {QA : List D → Mem → Prop} {QT : Bool → Mem → Prop} {X : XD} {i j : Nat} {d x y : D} {k l : Int} {dg : DG} {F : FD} {gc : GC} {fi : DFi}
theorem n_seq : sSeq f g E env M = f { E with nx := g E } env M := propext Iff.rfl
theorem n_next : sNext E env M = E.nx env M := propext Iff.rfl
theorem n_sif : sIf p f g E env M = p env M (fun b M1 => bsel b (f E env M1) (g E env M1)) (fun xn M1 => E.ex xn env M1) := propext Iff.rfl
theorem n_ret : sRet a E env M = a env M E.rt (fun xn M1 => E.ex xn env M1) := propext Iff.rfl
theorem n_retN : sRetN E env M = E.rt .non M := propext Iff.rfl
theorem n_asg : sAsg a dg E env M = a env M (fun d M1 => dg d env M1 E.nx) (fun xn M1 => E.ex xn env M1) := propext Iff.rfl
theorem n_drop : sDrop a E env M = a env M (fun _ M1 => E.nx env M1) (fun xn M1 => E.ex xn env M1) := propext Iff.rfl
theorem n_raise {C : Addr} {ns : List Str} : sRaise C ns fs E env M = fs env M (fun ds M1 => E.ex ⟨.ref C, (ns.zip ds).reverse⟩ env M1) (fun xn M1 => E.ex xn env M1) := propext Iff.rfl
theorem n_for : sFor fi dg f E env M = fi env M (fun ds Kp M1 => forL Kp dg f E ds env M1) (fun xn M1 => E.ex xn env M1) := propext Iff.rfl
theorem n_try {K : PySem.W.Frag} {cl : ClD} : sTry K f cl E env M = f { E with ex := xCl K E cl } env M := propext Iff.rfl
theorem n_nm {P : EnvD → Mem → Prop} : gNm i d env M P = P (env.set i (some d)) M := propext Iff.rfl
theorem n_var0 {e : EnvD} : dVar 0 (some d :: e) M Q X = Q d M := propext Iff.rfl
theorem n_varS {e : EnvD} {u : Option D} : dVar (i + 1) (u :: e) M Q X = dVar i e M Q X := by
  unfold dVar
  rw [List.getElem?_cons_succ]
theorem n_c : dC d env M Q X = Q d M := propext Iff.rfl
theorem n_op : dOp o a b env M Q X = a env M (fun x M1 => b env M1 (fun y M2 => o x y M2 Q) X) X := propext Iff.rfl
theorem n_cb : dCB gc fs env M Q X = fs env M (fun xs M1 => gc xs M1 Q) X := propext Iff.rfl
theorem n_nil : dNil env M QA X = QA [] M := propext Iff.rfl
theorem n_cons : dCons a fs env M QA X = a env M (fun d M1 => fs env M1 (fun ds M2 => QA (d :: ds) M2) X) X := propext Iff.rfl
theorem n_tup : dTup fs env M Q X = fs env M (fun ds M1 => ds.length ≤ 1000 ∧ Q (.tup ds) M1) X := propext Iff.rfl
theorem n_lstF : dLstF fs env M Q X = fs env M (fun ds M1 => ds.length ≤ 1000 ∧ Q (.lst ds) M1) X := propext Iff.rfl
theorem n_lst : dLst fs env M Q X = fs env M (fun ds M1 => ds.length ≤ 1000 ∧ ∀ a, M1 a = none → Q (.ref a) (mput M1 a (.lst ds))) X := propext Iff.rfl
theorem n_val : dVal a env M QT X = a env M (fun x M1 => asB x fun k => QT k M1) X := propext Iff.rfl
theorem n_notT : dNotT p env M QT X = p env M (fun k M1 => QT (!k) M1) X := propext Iff.rfl
theorem n_andT : dAndT p q env M QT X = p env M (fun k M1 => bsel k (q env M1 QT X) (QT false M1)) X := propext Iff.rfl
theorem n_orT : dOrT p q env M QT X = p env M (fun k M1 => bsel k (QT true M1) (q env M1 QT X)) X := propext Iff.rfl
theorem n_and : dAnd a b env M Q X = a env M (fun x M1 => asB x fun k => bsel k (b env M1 Q X) (Q (.bl false) M1)) X := propext Iff.rfl
theorem n_or : dOr a b env M Q X = a env M (fun x M1 => asB x fun k => bsel k (Q (.bl true) M1) (b env M1 Q X)) X := propext Iff.rfl
theorem n_not : dNot a env M Q X = a env M (fun x M1 => asB x fun k => Q (.bl (!k)) M1) X := propext Iff.rfl
theorem n_dif : dIf p a b env M Q X = p env M (fun k M1 => bsel k (a env M1 Q X) (b env M1 Q X)) X := propext Iff.rfl
theorem n_chain : dChain o o2 a b c env M Q X = a env M (fun x M1 => b env M1 (fun y M2 => o x y M2 (fun z M3 => asB z fun k => bsel k (c env M3 (fun w M4 => o2 y w M4 Q) X) (Q (.bl false) M3))) X) X := propext Iff.rfl
theorem n_neg : dNeg a env M Q X = a env M (fun d M1 => asI d fun i => Q (.int (-i)) M1) X := propext Iff.rfl
theorem n_dct0 : dDct0 env M Q X = Q (.dct []) M := propext Iff.rfl
theorem n_call : dCall F fs env M Q X = fs env M (fun ds M1 => F ds M1 Q X) X := propext Iff.rfl
theorem n_callK {gD : List D → List D → List D} : dCallK F gD fs hs env M Q X = fs env M (fun ds M1 => hs env M1 (fun es M2 => F (gD ds es) M2 Q X) X) X := propext Iff.rfl
theorem n_frz : dFrz a env M Q X = a env M (fun d M1 => atRef d fun a => lstAt M1 a fun l => Q (.lst l) (mdel M1 a)) X := propext Iff.rfl
theorem n_frzV : dFrz (dVar i) env M Q X = dVar i env M (fun d M1 => atRef d fun a => lstAt M1 a fun l => Q (.lst l) (mdel M1 a)) X := propext Iff.rfl
theorem n_frzC : dFrz (dCall F fs) env M Q X = dCall F fs env M (fun d M1 => atRef d fun a => lstAt M1 a fun l => Q (.lst l) (mdel M1 a)) X := propext Iff.rfl
theorem n_frzK {gD : List D → List D → List D} : dFrz (dCallK F gD fs hs) env M Q X = dCallK F gD fs hs env M (fun d M1 => atRef d fun a => lstAt M1 a fun l => Q (.lst l) (mdel M1 a)) X := propext Iff.rfl
theorem n_frzL {vs : List Nat} : dFrz (dLc fi dg vs p a) env M Q X = fi env M (fun ds Kp M1 => cFrz Kp dg (wipeD env vs) p a Q ds M1) X := propext Iff.rfl
theorem n_app : dApp a b env M Q X = a env M (fun o M1 => atRef o fun a => lstAt M1 a fun _ => b env M1 (fun d M2 => lstAt M2 a fun l => l.length < 1000000 ∧ Q .non (mput M2 a (.lst (l ++ [d])))) X) X := propext Iff.rfl
theorem n_pop : dPop a env M Q X = a env M (fun o M1 => atRef o fun a => lstAt M1 a fun l => ∃ d, l[l.length - 1]? = some d ∧ Q d (mput M1 a (.lst l.dropLast))) X := propext Iff.rfl
theorem n_sub {P : EnvD → Mem → Prop} : gSubD a b d env M P = a env M (fun o M1 => b env M1 (fun i M2 => atRef o fun a => asI i fun k => lstAt M2 a fun l => ∃ j, ixN l.length k = some j ∧ P env (mput M2 a (.lst (l.set j d)))) noX) noX := propext Iff.rfl
theorem n_lc {vs : List Nat} : dLc fi dg vs p a env M Q X = fi env M (fun ds Kp M1 => ∀ n, M1 n = none → compL Kp n dg (wipeD env vs) p a Q ds (mput M1 n (.lst []))) X := propext Iff.rfl
theorem n_iRg {R : List D → (Mem → Prop) → Mem → Prop} : iRg a env M R X = a env M (fun d M1 => asI d fun n => (-(2 ^ 62) ≤ n ∧ n < 2 ^ 62) ∧ R (rangeD n) (fun _ => True) M1) X := propext Iff.rfl
theorem n_iSq {R : List D → (Mem → Prop) → Mem → Prop} : iSq a env M R X = a env M (fun d M1 => match seqD M1 d with
  | some (_, l) => R l (keepOf M1 d) M1
  | none => False) X := propext Iff.rfl
theorem n_bl {k : Bool} {P : Bool → Prop} : asB (.v (.bl k)) P = P k := propext Iff.rfl
theorem n_int {P : Int → Prop} : asI (.v (.int k)) P = P k := propext Iff.rfl
theorem n_ref {n : Addr} {P : Addr → Prop} : atRef (.v (.ref n)) P = P n := propext Iff.rfl
theorem n_gI {C : Int → Int → Prop} {h : Int → Int → V} : gI C h (.v (.int k)) (.v (.int l)) M Q = (C k l ∧ Q (.v (h k l)) M) := propext Iff.rfl
theorem n_gI0 {h : Int → Int → V} : gI0 h (.v (.int k)) (.v (.int l)) M Q = Q (.v (h k l)) M := propext Iff.rfl
theorem n_ixL {u : List D} : gIx (.lst u) (.v (.int k)) M Q = ∃ d, atI u k = some d ∧ Q d M := propext Iff.rfl
theorem n_ixT {u : List D} : gIx (.tup u) (.v (.int k)) M Q = ∃ d, atI u k = some d ∧ Q d M := propext Iff.rfl
theorem n_ixR {n : Addr} {u : List D} (h : M n = some (.lst u)) : gIx (.v (.ref n)) (.v (.int k)) M Q = ∃ d, atI u k = some d ∧ Q d M := by
  unfold gIx
  simp only [seqD, h]
theorem n_ixP {n : Addr} {u : List D} : gIx (.v (.ref n)) (.v (.int k)) (mput M n (.lst u)) Q = ∃ d, atI u k = some d ∧ Q d (mput M n (.lst u)) := n_ixR mput_same
theorem n_lenL {u : List D} : gLen [.lst u] M Q = Q (.int u.length) M := propext Iff.rfl
theorem n_lenT {u : List D} : gLen [.tup u] M Q = Q (.int u.length) M := propext Iff.rfl
theorem n_lenR {n : Addr} {u : List D} (h : M n = some (.lst u)) : gLen [.v (.ref n)] M Q = Q (.int u.length) M := by
  unfold gLen
  simp only [seqD, h]
theorem n_lenS {b : Bool} {u : List D} (h : seqD M x = some (b, u)) : gLen [x] M Q = Q (.int u.length) M := by
  unfold gLen
  simp only [h]
theorem n_isi2 {c1 c2 : String} {t : String} (h : tyD M x = some t) : (match tyD M x with | some t => Q (.bl (isiB t c1 || isiB t c2)) M | none => False) = Q (.bl (isiB t c1 || isiB t c2)) M := by
  rw [h]
theorem n_dIsi2 {c1 c2 : String} : dIsi2 c1 c2 a env M Q X = a env M (fun x M1 => match tyD M1 x with
  | some t => Q (.bl (isiB t c1 || isiB t c2)) M1
  | none => False) X := propext Iff.rfl
theorem n_iEn {R : List D → (Mem → Prop) → Mem → Prop} : iEn a env M R X = a env M (fun d M1 => match seqD M1 d with
  | some (_, l) => R (enumD l) (keepOf M1 d) M1
  | none => False) X := propext Iff.rfl
theorem n_latP {n : Addr} {u : List D} {P : List D → Prop} : lstAt (mput M n (.lst u)) n P = P u := by
  unfold lstAt
  rw [mput_same]
theorem n_isi {t : String} : gIsi [x, .v (.ty t)] M Q = (match tyD M x with
  | some u => tyNs.contains t = true ∧ Q (.bl (isiB u t)) M
  | none => False) := propext Iff.rfl
theorem n_sqR {n : Addr} {u : List D} (h : M n = some (.lst u)) : seqD M (.v (.ref n)) = some (true, u) := by
  simp only [seqD, h]
theorem n_sqL {u : List D} : seqD M (.lst u) = some (true, u) := by
  unfold seqD
  rfl
theorem n_sqT {u : List D} : seqD M (.tup u) = some (false, u) := by
  unfold seqD
  rfl
theorem n_sqP {n : Addr} {u : List D} : seqD (mput M n (.lst u)) (.v (.ref n)) = some (true, u) := n_sqR mput_same
theorem n_lat {n : Addr} {u : List D} {P : List D → Prop} (h : M n = some (.lst u)) : lstAt M n P = P u := by
  unfold lstAt
  rw [h]
theorem n_wipe1 : wipeD env [i] = env.set i none := by
  unfold wipeD wipeD
  rfl
theorem n_wipe2 : wipeD env [i, j] = (env.set j none).set i none := by
  unfold wipeD wipeD wipeD
  rfl
theorem n_gtup2 {d1 d2 : DG} {P : EnvD → Mem → Prop} : gTupD 2 (gsCons d1 (gsCons d2 gsNil)) (.tup [x, y]) env M P = d1 x env M (fun e1 M1 => d2 y e1 M1 P) := propext ⟨fun h => by
  have e : ∀ {A B : EnvD → Mem → Prop}, (∀ e m, A e m = B e m) → A = B := fun h => funext fun e => funext fun m => h e m
  obtain ⟨_, h⟩ := h
  have z : (fun e1 M1 => gsCons d2 gsNil [y] e1 M1 P) = (fun e1 M1 => d2 y e1 M1 P) := e fun e1 M1 => by
    show d2 y e1 M1 (fun e2 M2 => gsNil [] e2 M2 P) = d2 y e1 M1 P
    congr 1
    exact e fun e2 M2 => propext ⟨fun h => h.2, fun h => ⟨rfl, h⟩⟩
  have h2 : d1 x env M (fun e1 M1 => gsCons d2 gsNil [y] e1 M1 P) := h
  rw [z] at h2
  exact h2, fun h => by
  have e : ∀ {A B : EnvD → Mem → Prop}, (∀ e m, A e m = B e m) → A = B := fun h => funext fun e => funext fun m => h e m
  refine ⟨rfl, ?_⟩
  have z : (fun e1 M1 => gsCons d2 gsNil [y] e1 M1 P) = (fun e1 M1 => d2 y e1 M1 P) := e fun e1 M1 => by
    show d2 y e1 M1 (fun e2 M2 => gsNil [] e2 M2 P) = d2 y e1 M1 P
    congr 1
    exact e fun e2 M2 => propext ⟨fun h => h.2, fun h => ⟨rfl, h⟩⟩
  show d1 x env M (fun e1 M1 => gsCons d2 gsNil [y] e1 M1 P)
  rw [z]
  exact h⟩
theorem keep_put {b : Bool} {u : List D} {n : Addr} {w : MO} (h : seqD M d = some (b, u)) (hn : M n = none) : keepOf M d (mput M n w) := by
  unfold keepOf
  split
  · rename_i m
    simp only [seqD] at h
    have e : m ≠ n := fun z => by
      rw [z, hn] at h
      cases h
    exact mput_ne e
  · exact True.intro
theorem all_is {u : List Bool} : gAll [.lst (u.map D.bl)] M Q = Q (.bl (u.all id)) M := propext ⟨fun h => by
  obtain ⟨d, l, bs, e1, e2, e3, q⟩ := h
  cases e1
  cases e2
  have e4 : u = bs := by
    have inj : ∀ {a b : List Bool}, a.map D.bl = b.map D.bl → a = b := by
      intro a
      induction a with
      | nil =>
        intro b h
        cases b with
        | nil => rfl
        | cons _ _ => cases h
      | cons x a ih =>
        intro b h
        cases b with
        | nil => cases h
        | cons y b =>
          injection h with h1 h2
          injection h1 with h1
          injection h1 with h1
          rw [h1, ih h2]
    exact inj e3
  rw [e4]
  exact q, fun q => ⟨_, _, u, rfl, rfl, rfl, q⟩⟩
theorem all_of {u : List Bool} (q : Q (.bl (u.all id)) M) : gAll [.lst (u.map D.bl)] M Q := ⟨_, _, u, rfl, rfl, rfl, q⟩
theorem sum_of {u : List Int} (q : Q (.int u.sum) M) : gSum [.lst (u.map D.int)] M Q := ⟨_, _, u, rfl, rfl, rfl, q⟩
theorem n_xone {K : PySem.W.Frag} {c : Value} {w : Option Nat} {h : Addr → Value → Option Addr → SF} {r : ClD} {xn : Xn} : xCl K E (.one c w h r) xn env M = ∃ b, PySem.W.exmOne K xn.cls c = some b ∧ (b = true → ∀ a d, (d = none → xn.fs = []) → h a xn.cls d (unED w E) (inD w a d xn.fs env) M) ∧ (b = false → xCl K E r xn env M) := propext Iff.rfl
theorem n_in {n : Addr} {dd : Addr} {xs : List (Str × D)} : inD (some i) n (some dd) xs env = env.set i (some (.exn n dd xs)) := (Eq.refl _).trans rfl
theorem n_unrt {w : Option Nat} : (unED w E).rt = E.rt := (Eq.refl _).trans rfl
theorem n_fld {n C : Addr} {cls : Value} {dd : Option Addr} {nm : Str} : dFld n cls dd C nm a env M Q X = a env M (fun x M1 => match x with
  | .exn a' d' fs => a' = n ∧ cls = .ref C ∧ dd = some d' ∧ ∃ v, fs.lookup nm = some v ∧ Q v M1
  | _ => False) X := propext Iff.rfl
theorem n_tupL {u : List D} : gTupOf [.lst u] M Q = Q (.tup u) M := propext Iff.rfl
theorem n_tupT {u : List D} : gTupOf [.tup u] M Q = Q (.tup u) M := propext Iff.rfl
theorem n_put {n : Addr} {u : MO} : mput M n u n = some u := mput_same
end
end DL
set_option maxHeartbeats 4000001
/-! ### the walk of law_k02_bits_of_worths -/
namespace L02
open PySem PySem.Spec
open PyProof.Rows L2 DL
abbrev oAdd : G2 := gI0 fun i j => .int (i + j)
abbrev oSub : G2 := gI0 fun i j => .int (i - j)
abbrev oMul : G2 := gI CMul fun i j => .int (i * j)
abbrev oDiv : G2 := gI CDiv fun i j => .int (i / j)
abbrev oMod : G2 := gI (fun _ j => 0 < j) fun i j => .int (i % j)
abbrev oPow : G2 := gI CPow fun i j => .int (i ^ j.toNat)
abbrev oShl : G2 := gI CPow fun i j => .int (i * 2 ^ j.toNat)
abbrev oShr : G2 := gI (fun _ j => 0 ≤ j) fun i j => .int (i / 2 ^ j.toNat)
abbrev oAnd : G2 := gI0 fun i j => .int (Builtin.bitAnd i j)
abbrev oOr : G2 := gI0 fun i j => .int (Builtin.bitOr i j)
abbrev oXor : G2 := gI0 fun i j => .int (Builtin.bitXor i j)
abbrev oLt : G2 := gI0 fun i j => .bl (decide (i < j))
abbrev oLe : G2 := gI0 fun i j => .bl (decide (i ≤ j))
abbrev oGt : G2 := gI0 fun i j => .bl (decide (j < i))
abbrev oGe : G2 := gI0 fun i j => .bl (decide (j ≤ i))
def top (i : Nat) : Stmt := PySem.Challenge.pw_beatflows_k02_bits_of_worths.main.body.getD i (.Pass ⟨0, 0, 0, 0⟩)
def ini (i : Nat) : Stmt := match top i with
  | .ClassDef _ _ _ b _ _ _ _ _ _ _ => b.getD 0 (.Pass ⟨0, 0, 0, 0⟩)
  | s => s
def d_NoWidth__init__ : He.DefD := ⟨("NoWidth", some "__init__"), "__init__", "NoWidth.__init__", defArgs (ini 5), defBody (ini 5), defScope (ini 5), [], []⟩
def d_NoKind__init__ : He.DefD := ⟨("NoKind", some "__init__"), "__init__", "NoKind.__init__", defArgs (ini 4), defBody (ini 4), defScope (ini 4), [], []⟩
def d_NoWorth__init__ : He.DefD := ⟨("NoWorth", some "__init__"), "__init__", "NoWorth.__init__", defArgs (ini 6), defBody (ini 6), defScope (ini 6), [], []⟩
def d_NoBits__init__ : He.DefD := ⟨("NoBits", some "__init__"), "__init__", "NoBits.__init__", defArgs (ini 7), defBody (ini 7), defScope (ini 7), [], []⟩
def d__law_purse : He.DefD := ⟨("_law_purse", none), "_law_purse", "_law_purse", defArgs (top 20), defBody (top 20), defScope (top 20), [], []⟩
def d__law_cell : He.DefD := ⟨("_law_cell", none), "_law_cell", "_law_cell", defArgs (top 19), defBody (top 19), defScope (top 19), [], []⟩
def d__law_take : He.DefD := ⟨("_law_take", none), "_law_take", "_law_take", defArgs (top 21), defBody (top 21), defScope (top 21), [], []⟩
def d__law_bits : He.DefD := ⟨("_law_bits", none), "_law_bits", "_law_bits", defArgs (top 23), defBody (top 23), defScope (top 23), [], []⟩
def d_is_whole : He.DefD := ⟨("is_whole", none), "is_whole", "is_whole", defArgs (top 11), defBody (top 11), defScope (top 11), [], []⟩
def d_is_width : He.DefD := ⟨("is_width", none), "is_width", "is_width", defArgs (top 12), defBody (top 12), defScope (top 12), [], []⟩
def d_is_kind : He.DefD := ⟨("is_kind", none), "is_kind", "is_kind", defArgs (top 14), defBody (top 14), defScope (top 14), [], []⟩
def d_is_worth : He.DefD := ⟨("is_worth", none), "is_worth", "is_worth", defArgs (top 15), defBody (top 15), defScope (top 15), [], []⟩
def d_bits_of : He.DefD := ⟨("bits_of", none), "bits_of", "bits_of", defArgs (top 16), defBody (top 16), defScope (top 16), [], []⟩
def d_is_truth : He.DefD := ⟨("is_truth", none), "is_truth", "is_truth", defArgs (top 13), defBody (top 13), defScope (top 13), [], []⟩
def d_of_bits : He.DefD := ⟨("of_bits", none), "of_bits", "of_bits", defArgs (top 17), defBody (top 17), defScope (top 17), [], []⟩
def d__law_is_truth : He.DefD := ⟨("_law_is_truth", none), "_law_is_truth", "_law_is_truth", defArgs (top 24), defBody (top 24), defScope (top 24), [], []⟩
def d__law_asked : He.DefD := ⟨("_law_asked", none), "_law_asked", "_law_asked", defArgs (top 25), defBody (top 25), defScope (top 25), [], []⟩
def d__law_refused_right : He.DefD := ⟨("_law_refused_right", none), "_law_refused_right", "_law_refused_right", defArgs (top 26), defBody (top 26), defScope (top 26), [], []⟩
def d_law : He.DefD := ⟨("law", none), "law", "law", defArgs (top 27), defBody (top 27), defScope (top 27), [], []⟩
def fns : List He.DefD := [d_NoWidth__init__, d_NoKind__init__, d_NoWorth__init__, d_NoBits__init__, d__law_purse, d__law_cell, d__law_take, d__law_bits, d_is_whole, d_is_width, d_is_kind, d_is_worth, d_bits_of, d_is_truth, d_of_bits, d__law_is_truth, d__law_asked, d__law_refused_right, d_law]
def facts : List FB := [
  fun K => PySem.W.nsOkIn K sysModules,
  fun K => (He.Fa.free "len").ok K,
  fun K => (He.Fa.free "min").ok K,
  fun K => (He.Fa.free "max").ok K,
  fun K => (He.Fa.free "range").ok K,
  fun K => (He.Fa.free "isinstance").ok K,
  fun K => (He.Fa.free "int").ok K,
  fun K => (He.Fa.free "bool").ok K,
  fun K => (He.Fa.int "MOST_WIDTH" 8).ok K,
  xclB "NoWidth" ["found"],
  fun K => (He.Fa.free "tuple").ok K,
  fun K => (He.Fa.int "MOST_ROW" 4).ok K,
  xclB "NoKind" ["found"],
  fun K => (He.Fa.free "all").ok K,
  xclB "NoWorth" ["found"],
  fun K => (He.Fa.free "repr").ok K,
  fun K => (He.Fa.free "list").ok K,
  xclB "NoBits" ["found"],
  fun K => (He.Fa.free "enumerate").ok K,
  fun K => (He.Fa.free "sum").ok K,
  fun K => (He.Fa.glo "NoBits").ok K,
  fun K => (He.Fa.glo "NoWorth").ok K,
  fun K => (He.Fa.glo "NoWidth").ok K,
  fun K => (He.Fa.exm "NoWidth" "NoWidth" true).ok K,
  fun K => (He.Fa.exm "NoWorth" "NoWidth" false).ok K,
  fun K => (He.Fa.exm "NoWorth" "NoWorth" true).ok K,
  fun K => (He.Fa.exm "NoBits" "NoWidth" false).ok K,
  fun K => (He.Fa.exm "NoBits" "NoWorth" false).ok K,
  fun K => (He.Fa.exm "NoBits" "NoBits" true).ok K,
  fun K => (He.Fa.glo "_law_purse").ok K,
  fun K => (He.Fa.glo "_law_cell").ok K,
  fun K => (He.Fa.glo "_law_take").ok K,
  fun K => (He.Fa.glo "_law_bits").ok K,
  fun K => (He.Fa.glo "is_whole").ok K,
  fun K => (He.Fa.glo "is_width").ok K,
  fun K => (He.Fa.glo "is_kind").ok K,
  fun K => (He.Fa.glo "is_worth").ok K,
  fun K => (He.Fa.glo "bits_of").ok K,
  fun K => (He.Fa.glo "is_truth").ok K,
  fun K => (He.Fa.glo "of_bits").ok K,
  fun K => (He.Fa.glo "_law_is_truth").ok K,
  fun K => (He.Fa.glo "_law_asked").ok K,
  fun K => (He.Fa.glo "_law_refused_right").ok K,
  fun K => (He.Fa.glo "law").ok K]
structure Tx (K : PySem.W.Frag) (mg : Str → Option Value) (base : Heap) : Prop where
  inn : K.In base
  g : base.Ns mainGlobals mg
  sys : Sys base
  says : SaysB facts fns K
theorem m_len {K : PySem.W.Frag} {mg : Str → Option Value} {base : Heap} (T : Tx K mg base) : mg "len" = none := He.free_ok (x := "len") T.inn T.g (T.says.fact 1 (f := fun K => (He.Fa.free "len").ok K) rfl)
theorem m_min {K : PySem.W.Frag} {mg : Str → Option Value} {base : Heap} (T : Tx K mg base) : mg "min" = none := He.free_ok (x := "min") T.inn T.g (T.says.fact 2 (f := fun K => (He.Fa.free "min").ok K) rfl)
theorem m_max {K : PySem.W.Frag} {mg : Str → Option Value} {base : Heap} (T : Tx K mg base) : mg "max" = none := He.free_ok (x := "max") T.inn T.g (T.says.fact 3 (f := fun K => (He.Fa.free "max").ok K) rfl)
theorem m_range {K : PySem.W.Frag} {mg : Str → Option Value} {base : Heap} (T : Tx K mg base) : mg "range" = none := He.free_ok (x := "range") T.inn T.g (T.says.fact 4 (f := fun K => (He.Fa.free "range").ok K) rfl)
theorem m_isinstance {K : PySem.W.Frag} {mg : Str → Option Value} {base : Heap} (T : Tx K mg base) : mg "isinstance" = none := He.free_ok (x := "isinstance") T.inn T.g (T.says.fact 5 (f := fun K => (He.Fa.free "isinstance").ok K) rfl)
theorem m_int {K : PySem.W.Frag} {mg : Str → Option Value} {base : Heap} (T : Tx K mg base) : mg "int" = none := He.free_ok (x := "int") T.inn T.g (T.says.fact 6 (f := fun K => (He.Fa.free "int").ok K) rfl)
theorem m_bool {K : PySem.W.Frag} {mg : Str → Option Value} {base : Heap} (T : Tx K mg base) : mg "bool" = none := He.free_ok (x := "bool") T.inn T.g (T.says.fact 7 (f := fun K => (He.Fa.free "bool").ok K) rfl)
theorem c_MOST_WIDTH {K : PySem.W.Frag} {mg : Str → Option Value} {base : Heap} (T : Tx K mg base) : ∃ t, mg "MOST_WIDTH" = some (.int 8 t) := He.int_ok (x := "MOST_WIDTH") T.inn T.g (T.says.fact 8 (f := fun K => (He.Fa.int "MOST_WIDTH" 8).ok K) rfl)
theorem xo_NoWidth {K : PySem.W.Frag} {mg : Str → Option Value} {base : Heap} (T : Tx K mg base) : XclOk K "NoWidth" ["found"] := xclB_ok (T.says.fact 9 (f := xclB "NoWidth" ["found"]) rfl)
theorem si_NoWidth : FnScope ["self", "found"] ["self", "found"] (defScope (ini 5)) := ⟨rfl, rfl, rfl, by decide +kernel, rfl, by decide +kernel, by decide +kernel⟩
theorem m_tuple {K : PySem.W.Frag} {mg : Str → Option Value} {base : Heap} (T : Tx K mg base) : mg "tuple" = none := He.free_ok (x := "tuple") T.inn T.g (T.says.fact 10 (f := fun K => (He.Fa.free "tuple").ok K) rfl)
theorem c_MOST_ROW {K : PySem.W.Frag} {mg : Str → Option Value} {base : Heap} (T : Tx K mg base) : ∃ t, mg "MOST_ROW" = some (.int 4 t) := He.int_ok (x := "MOST_ROW") T.inn T.g (T.says.fact 11 (f := fun K => (He.Fa.int "MOST_ROW" 4).ok K) rfl)
theorem xo_NoKind {K : PySem.W.Frag} {mg : Str → Option Value} {base : Heap} (T : Tx K mg base) : XclOk K "NoKind" ["found"] := xclB_ok (T.says.fact 12 (f := xclB "NoKind" ["found"]) rfl)
theorem si_NoKind : FnScope ["self", "found"] ["self", "found"] (defScope (ini 4)) := ⟨rfl, rfl, rfl, by decide +kernel, rfl, by decide +kernel, by decide +kernel⟩
theorem m_all {K : PySem.W.Frag} {mg : Str → Option Value} {base : Heap} (T : Tx K mg base) : mg "all" = none := He.free_ok (x := "all") T.inn T.g (T.says.fact 13 (f := fun K => (He.Fa.free "all").ok K) rfl)
theorem xo_NoWorth {K : PySem.W.Frag} {mg : Str → Option Value} {base : Heap} (T : Tx K mg base) : XclOk K "NoWorth" ["found"] := xclB_ok (T.says.fact 14 (f := xclB "NoWorth" ["found"]) rfl)
theorem si_NoWorth : FnScope ["self", "found"] ["self", "found"] (defScope (ini 6)) := ⟨rfl, rfl, rfl, by decide +kernel, rfl, by decide +kernel, by decide +kernel⟩
theorem m_repr {K : PySem.W.Frag} {mg : Str → Option Value} {base : Heap} (T : Tx K mg base) : mg "repr" = none := He.free_ok (x := "repr") T.inn T.g (T.says.fact 15 (f := fun K => (He.Fa.free "repr").ok K) rfl)
theorem m_list {K : PySem.W.Frag} {mg : Str → Option Value} {base : Heap} (T : Tx K mg base) : mg "list" = none := He.free_ok (x := "list") T.inn T.g (T.says.fact 16 (f := fun K => (He.Fa.free "list").ok K) rfl)
theorem xo_NoBits {K : PySem.W.Frag} {mg : Str → Option Value} {base : Heap} (T : Tx K mg base) : XclOk K "NoBits" ["found"] := xclB_ok (T.says.fact 17 (f := xclB "NoBits" ["found"]) rfl)
theorem si_NoBits : FnScope ["self", "found"] ["self", "found"] (defScope (ini 7)) := ⟨rfl, rfl, rfl, by decide +kernel, rfl, by decide +kernel, by decide +kernel⟩
theorem m_enumerate {K : PySem.W.Frag} {mg : Str → Option Value} {base : Heap} (T : Tx K mg base) : mg "enumerate" = none := He.free_ok (x := "enumerate") T.inn T.g (T.says.fact 18 (f := fun K => (He.Fa.free "enumerate").ok K) rfl)
theorem m_sum {K : PySem.W.Frag} {mg : Str → Option Value} {base : Heap} (T : Tx K mg base) : mg "sum" = none := He.free_ok (x := "sum") T.inn T.g (T.says.fact 19 (f := fun K => (He.Fa.free "sum").ok K) rfl)
theorem g_NoBits {K : PySem.W.Frag} {mg : Str → Option Value} {base : Heap} (T : Tx K mg base) : mg "NoBits" = some (.ref (He.ga K "NoBits")) := He.glo_ok (x := "NoBits") T.inn T.g (T.says.fact 20 (f := fun K => (He.Fa.glo "NoBits").ok K) rfl)
theorem g_NoWorth {K : PySem.W.Frag} {mg : Str → Option Value} {base : Heap} (T : Tx K mg base) : mg "NoWorth" = some (.ref (He.ga K "NoWorth")) := He.glo_ok (x := "NoWorth") T.inn T.g (T.says.fact 21 (f := fun K => (He.Fa.glo "NoWorth").ok K) rfl)
theorem g_NoWidth {K : PySem.W.Frag} {mg : Str → Option Value} {base : Heap} (T : Tx K mg base) : mg "NoWidth" = some (.ref (He.ga K "NoWidth")) := He.glo_ok (x := "NoWidth") T.inn T.g (T.says.fact 22 (f := fun K => (He.Fa.glo "NoWidth").ok K) rfl)
theorem x_NoWidth_NoWidth {K : PySem.W.Frag} {mg : Str → Option Value} {base : Heap} (T : Tx K mg base) : PySem.W.exmOne K (.ref (He.ga K "NoWidth")) (.ref (He.ga K "NoWidth")) = some true := He.exm_ok (T.says.fact 23 (f := fun K => (He.Fa.exm "NoWidth" "NoWidth" true).ok K) rfl)
theorem x_NoWorth_NoWidth {K : PySem.W.Frag} {mg : Str → Option Value} {base : Heap} (T : Tx K mg base) : PySem.W.exmOne K (.ref (He.ga K "NoWorth")) (.ref (He.ga K "NoWidth")) = some false := He.exm_ok (T.says.fact 24 (f := fun K => (He.Fa.exm "NoWorth" "NoWidth" false).ok K) rfl)
theorem x_NoWorth_NoWorth {K : PySem.W.Frag} {mg : Str → Option Value} {base : Heap} (T : Tx K mg base) : PySem.W.exmOne K (.ref (He.ga K "NoWorth")) (.ref (He.ga K "NoWorth")) = some true := He.exm_ok (T.says.fact 25 (f := fun K => (He.Fa.exm "NoWorth" "NoWorth" true).ok K) rfl)
theorem x_NoBits_NoWidth {K : PySem.W.Frag} {mg : Str → Option Value} {base : Heap} (T : Tx K mg base) : PySem.W.exmOne K (.ref (He.ga K "NoBits")) (.ref (He.ga K "NoWidth")) = some false := He.exm_ok (T.says.fact 26 (f := fun K => (He.Fa.exm "NoBits" "NoWidth" false).ok K) rfl)
theorem x_NoBits_NoWorth {K : PySem.W.Frag} {mg : Str → Option Value} {base : Heap} (T : Tx K mg base) : PySem.W.exmOne K (.ref (He.ga K "NoBits")) (.ref (He.ga K "NoWorth")) = some false := He.exm_ok (T.says.fact 27 (f := fun K => (He.Fa.exm "NoBits" "NoWorth" false).ok K) rfl)
theorem x_NoBits_NoBits {K : PySem.W.Frag} {mg : Str → Option Value} {base : Heap} (T : Tx K mg base) : PySem.W.exmOne K (.ref (He.ga K "NoBits")) (.ref (He.ga K "NoBits")) = some true := He.exm_ok (T.says.fact 28 (f := fun K => (He.Fa.exm "NoBits" "NoBits" true).ok K) rfl)
theorem g__law_purse {K : PySem.W.Frag} {mg : Str → Option Value} {base : Heap} (T : Tx K mg base) : mg "_law_purse" = some (.ref (He.ga K "_law_purse")) := He.glo_ok (x := "_law_purse") T.inn T.g (T.says.fact 29 (f := fun K => (He.Fa.glo "_law_purse").ok K) rfl)
theorem g__law_cell {K : PySem.W.Frag} {mg : Str → Option Value} {base : Heap} (T : Tx K mg base) : mg "_law_cell" = some (.ref (He.ga K "_law_cell")) := He.glo_ok (x := "_law_cell") T.inn T.g (T.says.fact 30 (f := fun K => (He.Fa.glo "_law_cell").ok K) rfl)
theorem g__law_take {K : PySem.W.Frag} {mg : Str → Option Value} {base : Heap} (T : Tx K mg base) : mg "_law_take" = some (.ref (He.ga K "_law_take")) := He.glo_ok (x := "_law_take") T.inn T.g (T.says.fact 31 (f := fun K => (He.Fa.glo "_law_take").ok K) rfl)
theorem g__law_bits {K : PySem.W.Frag} {mg : Str → Option Value} {base : Heap} (T : Tx K mg base) : mg "_law_bits" = some (.ref (He.ga K "_law_bits")) := He.glo_ok (x := "_law_bits") T.inn T.g (T.says.fact 32 (f := fun K => (He.Fa.glo "_law_bits").ok K) rfl)
theorem g_is_whole {K : PySem.W.Frag} {mg : Str → Option Value} {base : Heap} (T : Tx K mg base) : mg "is_whole" = some (.ref (He.ga K "is_whole")) := He.glo_ok (x := "is_whole") T.inn T.g (T.says.fact 33 (f := fun K => (He.Fa.glo "is_whole").ok K) rfl)
theorem g_is_width {K : PySem.W.Frag} {mg : Str → Option Value} {base : Heap} (T : Tx K mg base) : mg "is_width" = some (.ref (He.ga K "is_width")) := He.glo_ok (x := "is_width") T.inn T.g (T.says.fact 34 (f := fun K => (He.Fa.glo "is_width").ok K) rfl)
theorem g_is_kind {K : PySem.W.Frag} {mg : Str → Option Value} {base : Heap} (T : Tx K mg base) : mg "is_kind" = some (.ref (He.ga K "is_kind")) := He.glo_ok (x := "is_kind") T.inn T.g (T.says.fact 35 (f := fun K => (He.Fa.glo "is_kind").ok K) rfl)
theorem g_is_worth {K : PySem.W.Frag} {mg : Str → Option Value} {base : Heap} (T : Tx K mg base) : mg "is_worth" = some (.ref (He.ga K "is_worth")) := He.glo_ok (x := "is_worth") T.inn T.g (T.says.fact 36 (f := fun K => (He.Fa.glo "is_worth").ok K) rfl)
theorem g_bits_of {K : PySem.W.Frag} {mg : Str → Option Value} {base : Heap} (T : Tx K mg base) : mg "bits_of" = some (.ref (He.ga K "bits_of")) := He.glo_ok (x := "bits_of") T.inn T.g (T.says.fact 37 (f := fun K => (He.Fa.glo "bits_of").ok K) rfl)
theorem g_is_truth {K : PySem.W.Frag} {mg : Str → Option Value} {base : Heap} (T : Tx K mg base) : mg "is_truth" = some (.ref (He.ga K "is_truth")) := He.glo_ok (x := "is_truth") T.inn T.g (T.says.fact 38 (f := fun K => (He.Fa.glo "is_truth").ok K) rfl)
theorem g_of_bits {K : PySem.W.Frag} {mg : Str → Option Value} {base : Heap} (T : Tx K mg base) : mg "of_bits" = some (.ref (He.ga K "of_bits")) := He.glo_ok (x := "of_bits") T.inn T.g (T.says.fact 39 (f := fun K => (He.Fa.glo "of_bits").ok K) rfl)
theorem g__law_is_truth {K : PySem.W.Frag} {mg : Str → Option Value} {base : Heap} (T : Tx K mg base) : mg "_law_is_truth" = some (.ref (He.ga K "_law_is_truth")) := He.glo_ok (x := "_law_is_truth") T.inn T.g (T.says.fact 40 (f := fun K => (He.Fa.glo "_law_is_truth").ok K) rfl)
theorem g__law_asked {K : PySem.W.Frag} {mg : Str → Option Value} {base : Heap} (T : Tx K mg base) : mg "_law_asked" = some (.ref (He.ga K "_law_asked")) := He.glo_ok (x := "_law_asked") T.inn T.g (T.says.fact 41 (f := fun K => (He.Fa.glo "_law_asked").ok K) rfl)
theorem g__law_refused_right {K : PySem.W.Frag} {mg : Str → Option Value} {base : Heap} (T : Tx K mg base) : mg "_law_refused_right" = some (.ref (He.ga K "_law_refused_right")) := He.glo_ok (x := "_law_refused_right") T.inn T.g (T.says.fact 42 (f := fun K => (He.Fa.glo "_law_refused_right").ok K) rfl)
theorem g_law {K : PySem.W.Frag} {mg : Str → Option Value} {base : Heap} (T : Tx K mg base) : mg "law" = some (.ref (He.ga K "law")) := He.glo_ok (x := "law") T.inn T.g (T.says.fact 43 (f := fun K => (He.Fa.glo "law").ok K) rfl)
theorem xc_NoWidth {P : Program} {w : World} {K : PySem.W.Frag} {mg : Str → Option Value} {base : Heap} (T : Tx K mg base) {X : Cx} (hP : X.prog = P) (hw : X.w = w) (hK : X.K = K) (hm : X.mg = mg) (hb : X.base = base) : Xcl X "NoWidth" (He.ga K "NoWidth") 1 ["found"] := by
  subst hP hw hK hm hb
  have O := xo_NoWidth T
  obtain ⟨fd, F⟩ := T.says.defs.def_ 0 (d := d_NoWidth__init__) rfl
  have F' : FunD X.K "__init__" "NoWidth.__init__" (defArgs (ini 5)) (defBody (ini 5)) (defScope (ini 5)) [] [] (He.fAd X.K ("NoWidth", some "__init__")) fd := F
  exact ⟨O.o, PySem.W.mg_of T.inn T.g O.glo, ⟨_, fd, _, O.init, O.fn, F'.bindsN (ps := ["self", "found"]) fun _ _ _ _ _ _ us hl => (match us, hl with | [_, _], _ => rfl), init1_ok F' si_NoWidth O.o (O.no "found" (by simp)) (by decide) (by decide)⟩⟩
theorem xc_NoKind {P : Program} {w : World} {K : PySem.W.Frag} {mg : Str → Option Value} {base : Heap} (T : Tx K mg base) {X : Cx} (hP : X.prog = P) (hw : X.w = w) (hK : X.K = K) (hm : X.mg = mg) (hb : X.base = base) : Xcl X "NoKind" (He.ga K "NoKind") 1 ["found"] := by
  subst hP hw hK hm hb
  have O := xo_NoKind T
  obtain ⟨fd, F⟩ := T.says.defs.def_ 1 (d := d_NoKind__init__) rfl
  have F' : FunD X.K "__init__" "NoKind.__init__" (defArgs (ini 4)) (defBody (ini 4)) (defScope (ini 4)) [] [] (He.fAd X.K ("NoKind", some "__init__")) fd := F
  exact ⟨O.o, PySem.W.mg_of T.inn T.g O.glo, ⟨_, fd, _, O.init, O.fn, F'.bindsN (ps := ["self", "found"]) fun _ _ _ _ _ _ us hl => (match us, hl with | [_, _], _ => rfl), init1_ok F' si_NoKind O.o (O.no "found" (by simp)) (by decide) (by decide)⟩⟩
theorem xc_NoWorth {P : Program} {w : World} {K : PySem.W.Frag} {mg : Str → Option Value} {base : Heap} (T : Tx K mg base) {X : Cx} (hP : X.prog = P) (hw : X.w = w) (hK : X.K = K) (hm : X.mg = mg) (hb : X.base = base) : Xcl X "NoWorth" (He.ga K "NoWorth") 1 ["found"] := by
  subst hP hw hK hm hb
  have O := xo_NoWorth T
  obtain ⟨fd, F⟩ := T.says.defs.def_ 2 (d := d_NoWorth__init__) rfl
  have F' : FunD X.K "__init__" "NoWorth.__init__" (defArgs (ini 6)) (defBody (ini 6)) (defScope (ini 6)) [] [] (He.fAd X.K ("NoWorth", some "__init__")) fd := F
  exact ⟨O.o, PySem.W.mg_of T.inn T.g O.glo, ⟨_, fd, _, O.init, O.fn, F'.bindsN (ps := ["self", "found"]) fun _ _ _ _ _ _ us hl => (match us, hl with | [_, _], _ => rfl), init1_ok F' si_NoWorth O.o (O.no "found" (by simp)) (by decide) (by decide)⟩⟩
theorem xc_NoBits {P : Program} {w : World} {K : PySem.W.Frag} {mg : Str → Option Value} {base : Heap} (T : Tx K mg base) {X : Cx} (hP : X.prog = P) (hw : X.w = w) (hK : X.K = K) (hm : X.mg = mg) (hb : X.base = base) : Xcl X "NoBits" (He.ga K "NoBits") 1 ["found"] := by
  subst hP hw hK hm hb
  have O := xo_NoBits T
  obtain ⟨fd, F⟩ := T.says.defs.def_ 3 (d := d_NoBits__init__) rfl
  have F' : FunD X.K "__init__" "NoBits.__init__" (defArgs (ini 7)) (defBody (ini 7)) (defScope (ini 7)) [] [] (He.fAd X.K ("NoBits", some "__init__")) fd := F
  exact ⟨O.o, PySem.W.mg_of T.inn T.g O.glo, ⟨_, fd, _, O.init, O.fn, F'.bindsN (ps := ["self", "found"]) fun _ _ _ _ _ _ us hl => (match us, hl with | [_, _], _ => rfl), init1_ok F' si_NoBits O.o (O.no "found" (by simp)) (by decide) (by decide)⟩⟩
/-! _law_purse: 0 cell -/
theorem sc__law_purse : FnScope ["cell"] ["cell"] (defScope (top 20)) := ⟨rfl, rfl, rfl, by decide +kernel, rfl, by decide +kernel, by decide +kernel⟩
def f__law_purse (K : PySem.W.Frag) : SF := sRet (dLst (dCons (dCB gMax2 (dCons (dC (.int 0)) (dOne (dOp oSub (dVar 0) (dOp oPow (dC (.int 10)) (dC (.int 18))))))) (dCons (dOp oMod (dVar 0) (dC (.int 2147483629))) (dCons (dC (.int 0)) (dNil)))))
def F__law_purse (K : PySem.W.Frag) : FD := bodyF ["cell"] (f__law_purse K)
theorem k__law_purse {P : Program} {w : World} {K : PySem.W.Frag} {mg : Str → Option Value} {base : Heap} (T : Tx K mg base) : DefG P w K mg base "_law_purse" 1 (top 20) ["cell"] (F__law_purse K) := by
  obtain ⟨fd, FF⟩ := T.says.defs.def_ 4 (d := d__law_purse) rfl
  have FF' : FunD K "_law_purse" "_law_purse" (defArgs (top 20)) (defBody (top 20)) (defScope (top 20)) [] [] (He.ga K "_law_purse") fd := FF
  refine ⟨_, fd, g__law_purse T, FF', FF'.bindsN fun _ _ _ _ _ _ us hl => (match us, hl with | [_], _ => rfl), dfn_of FF' sc__law_purse fun cdv A outer s H E go => ?_⟩
  exact ds_one (s_ret (d_lst (da_cons (d_max2 rfl (m_max T) (d_int) (d_sub (d_var 0) (d_pow (d_int) (d_int)))) (da_cons (d_mod (d_var 0) (d_int)) (da_cons (d_int) (da_nil))))))
/-! _law_cell: 0 script, 1 k -/
theorem sc__law_cell : FnScope ["script", "k"] ["script", "k"] (defScope (top 19)) := ⟨rfl, rfl, rfl, by decide +kernel, rfl, by decide +kernel, by decide +kernel⟩
def f__law_cell (K : PySem.W.Frag) : SF := sSeq (sIf (dVal (dOp (oLt) (dVar 1) (dCB gLen (dOne (dVar 0))))) (sRet (dOp gIx (dVar 0) (dVar 1))) (sNext))
  (sRet (dOp oAdd (dOp oMul (dC (.int 6133)) (dVar 1)) (dC (.int 41))))
def F__law_cell (K : PySem.W.Frag) : FD := bodyF ["script", "k"] (f__law_cell K)
theorem k__law_cell {P : Program} {w : World} {K : PySem.W.Frag} {mg : Str → Option Value} {base : Heap} (T : Tx K mg base) : DefG P w K mg base "_law_cell" 1 (top 19) ["script", "k"] (F__law_cell K) := by
  obtain ⟨fd, FF⟩ := T.says.defs.def_ 5 (d := d__law_cell) rfl
  have FF' : FunD K "_law_cell" "_law_cell" (defArgs (top 19)) (defBody (top 19)) (defScope (top 19)) [] [] (He.ga K "_law_cell") fd := FF
  refine ⟨_, fd, g__law_cell T, FF', FF'.bindsN fun _ _ _ _ _ _ us hl => (match us, hl with | [_, _], _ => rfl), dfn_of FF' sc__law_cell fun cdv A outer s H E go => ?_⟩
  exact ds_cons (s_if (dt_lt (d_var 1) (d_len (m_len T) (d_var 0))) (ds_one (s_ret (d_ix (d_var 0) (d_var 1)))) (ds_nil))
    (ds_one (s_ret (d_add (d_mul (d_int) (d_var 1)) (d_int))))
/-! _law_take: 0 purse, 1 many, 2 digit, 3 one, 4 other -/
theorem sc__law_take : FnScope ["purse", "many", "digit", "one", "other"] ["purse", "many"] (defScope (top 21)) := ⟨rfl, rfl, rfl, by decide +kernel, rfl, by decide +kernel, by decide +kernel⟩
def f__law_take (K : PySem.W.Frag) : SF := sSeq (sIf (dVal (dOp (oGt) (dOp gIx (dVar 0) (dC (.int 0))) (dC (.int 0)))) (sSeq (sAsg (dOp oMod (dOp gIx (dVar 0) (dC (.int 0))) (dVar 1)) (gNm 2))
  (sSeq (sAsg (dOp oDiv (dOp gIx (dVar 0) (dC (.int 0))) (dVar 1)) (gSubD (dVar 0) (dC (.int 0))))
  (sRet (dVar 2)))) (sNext))
  (sSeq (sAsg (dOp oAdd (dOp gIx (dVar 0) (dC (.int 2))) (dC (.int 1))) (gSubD (dVar 0) (dC (.int 2))))
  (sSeq (sAsg (dOp oMod (dOp oPow (dOp oAdd (dOp oAdd (dOp gIx (dVar 0) (dC (.int 1))) (dOp oMul (dC (.int 6007)) (dOp gIx (dVar 0) (dC (.int 2))))) (dC (.int 29))) (dC (.int 5))) (dC (.int 2147483647))) (gNm 3))
  (sSeq (sAsg (dOp oMod (dOp oPow (dOp oAdd (dOp oMul (dOp gIx (dVar 0) (dC (.int 1))) (dOp gIx (dVar 0) (dC (.int 2)))) (dC (.int 91193))) (dC (.int 3))) (dC (.int 2147483587))) (gNm 4))
  (sRet (dOp oMod (dOp oDiv (dOp oAdd (dOp oMul (dVar 3) (dC (.int 2147483587))) (dVar 4)) (dC (.int 8))) (dVar 1))))))
def F__law_take (K : PySem.W.Frag) : FD := bodyF ["purse", "many", "digit", "one", "other"] (f__law_take K)
theorem k__law_take {P : Program} {w : World} {K : PySem.W.Frag} {mg : Str → Option Value} {base : Heap} (T : Tx K mg base) : DefG P w K mg base "_law_take" 1 (top 21) ["purse", "many"] (F__law_take K) := by
  obtain ⟨fd, FF⟩ := T.says.defs.def_ 6 (d := d__law_take) rfl
  have FF' : FunD K "_law_take" "_law_take" (defArgs (top 21)) (defBody (top 21)) (defScope (top 21)) [] [] (He.ga K "_law_take") fd := FF
  refine ⟨_, fd, g__law_take T, FF', FF'.bindsN fun _ _ _ _ _ _ us hl => (match us, hl with | [_, _], _ => rfl), dfn_of FF' sc__law_take fun cdv A outer s H E go => ?_⟩
  exact ds_cons (s_if (dt_gt (d_ix (d_var 0) (d_int)) (d_int)) (ds_cons (s_set 2 (d_mod (d_ix (d_var 0) (d_int)) (d_var 1)) sc__law_take.nd)
    (ds_cons (s_asg (d_div (d_ix (d_var 0) (d_int)) (d_var 1)) (g_sub (d_var 0) (d_int)))
    (ds_one (s_ret (d_var 2))))) (ds_nil))
    (ds_cons (s_asg (d_add (d_ix (d_var 0) (d_int)) (d_int)) (g_sub (d_var 0) (d_int)))
    (ds_cons (s_set 3 (d_mod (d_pow (d_add (d_add (d_ix (d_var 0) (d_int)) (d_mul (d_int) (d_ix (d_var 0) (d_int)))) (d_int)) (d_int)) (d_int)) sc__law_take.nd)
    (ds_cons (s_set 4 (d_mod (d_pow (d_add (d_mul (d_ix (d_var 0) (d_int)) (d_ix (d_var 0) (d_int))) (d_int)) (d_int)) (d_int)) sc__law_take.nd)
    (ds_one (s_ret (d_mod (d_div (d_add (d_mul (d_var 3) (d_int)) (d_var 4)) (d_int)) (d_var 1)))))))
/-! _law_bits: 0 size, 1 number, 2 found, 3 k -/
theorem sc__law_bits : FnScope ["size", "number", "found", "k"] ["size", "number"] (defScope (top 23)) := ⟨rfl, rfl, rfl, by decide +kernel, rfl, by decide +kernel, by decide +kernel⟩
def f__law_bits (K : PySem.W.Frag) : SF := sSeq (sAsg (dLst (dNil)) (gNm 2))
  (sSeq (sFor (iRg (dVar 0)) (gNm 3) (sSeq (sDrop (dApp (dVar 2) (dOp oMod (dVar 1) (dC (.int 2)))))
  (sAsg (dOp oDiv (dVar 1) (dC (.int 2))) (gNm 1))))
  (sRet (dFrz (dVar 2))))
def F__law_bits (K : PySem.W.Frag) : FD := bodyF ["size", "number", "found", "k"] (f__law_bits K)
theorem k__law_bits {P : Program} {w : World} {K : PySem.W.Frag} {mg : Str → Option Value} {base : Heap} (T : Tx K mg base) : DefG P w K mg base "_law_bits" 1 (top 23) ["size", "number"] (F__law_bits K) := by
  obtain ⟨fd, FF⟩ := T.says.defs.def_ 7 (d := d__law_bits) rfl
  have FF' : FunD K "_law_bits" "_law_bits" (defArgs (top 23)) (defBody (top 23)) (defScope (top 23)) [] [] (He.ga K "_law_bits") fd := FF
  refine ⟨_, fd, g__law_bits T, FF', FF'.bindsN fun _ _ _ _ _ _ us hl => (match us, hl with | [_, _], _ => rfl), dfn_of FF' sc__law_bits fun cdv A outer s H E go => ?_⟩
  exact ds_cons (s_set 2 (d_lst (da_nil)) sc__law_bits.nd)
    (ds_cons (s_for PassesOwn.leaving rfl (di_rg (m_range T) (d_var 0)) (g_name 3 sc__law_bits.nd) (ds_cons (s_expr (d_append (d_var 2) (d_mod (d_var 1) (d_int))))
    (ds_one (s_set 1 (d_div (d_var 1) (d_int)) sc__law_bits.nd))))
    (ds_one (s_ret (d_frz (d_var 2)))))
/-! is_whole: 0 thing, 1 low, 2 high -/
theorem sc_is_whole : FnScope ["thing", "low", "high"] ["thing", "low", "high"] (defScope (top 11)) := ⟨rfl, rfl, rfl, by decide +kernel, rfl, by decide +kernel, by decide +kernel⟩
def f_is_whole (K : PySem.W.Frag) : SF := sRet (dAnd (dCB gIsi (dCons (dVar 0) (dOne (dC (.v (.ty "int")))))) (dAnd (dNot (dCB gIsi (dCons (dVar 0) (dOne (dC (.v (.ty "bool"))))))) (dChain oLe oLe (dVar 1) (dVar 0) (dVar 2))))
def F_is_whole (K : PySem.W.Frag) : FD := bodyF ["thing", "low", "high"] (f_is_whole K)
theorem k_is_whole {P : Program} {w : World} {K : PySem.W.Frag} {mg : Str → Option Value} {base : Heap} (T : Tx K mg base) : DefG P w K mg base "is_whole" 1 (top 11) ["thing", "low", "high"] (F_is_whole K) := by
  obtain ⟨fd, FF⟩ := T.says.defs.def_ 8 (d := d_is_whole) rfl
  have FF' : FunD K "is_whole" "is_whole" (defArgs (top 11)) (defBody (top 11)) (defScope (top 11)) [] [] (He.ga K "is_whole") fd := FF
  refine ⟨_, fd, g_is_whole T, FF', FF'.bindsN fun _ _ _ _ _ _ us hl => (match us, hl with | [_, _, _], _ => rfl), dfn_of FF' sc_is_whole fun cdv A outer s H E go => ?_⟩
  exact ds_one (s_ret (d_andV (d_isi (m_isinstance T) (m_int T) rfl (d_var 0)) (d_andV (d_notV (d_isi (m_isinstance T) (m_bool T) rfl (d_var 0))) (d_one (d_leLe (d_var 1) (d_var 0) (d_var 2))))))
/-! is_width: 0 thing -/
theorem sc_is_width : FnScope ["thing"] ["thing"] (defScope (top 12)) := ⟨rfl, rfl, rfl, by decide +kernel, rfl, by decide +kernel, by decide +kernel⟩
def f_is_width (K : PySem.W.Frag) : SF := sRet (dCall (F_is_whole K) (dCons (dVar 0) (dCons (dC (.int 1)) (dCons (dC (.int 8)) (dNil)))))
def F_is_width (K : PySem.W.Frag) : FD := bodyF ["thing"] (f_is_width K)
theorem k_is_width {P : Program} {w : World} {K : PySem.W.Frag} {mg : Str → Option Value} {base : Heap} (T : Tx K mg base) : DefG P w K mg base "is_width" 2 (top 12) ["thing"] (F_is_width K) := by
  obtain ⟨fd, FF⟩ := T.says.defs.def_ 9 (d := d_is_width) rfl
  have FF' : FunD K "is_width" "is_width" (defArgs (top 12)) (defBody (top 12)) (defScope (top 12)) [] [] (He.ga K "is_width") fd := FF
  refine ⟨_, fd, g_is_width T, FF', FF'.bindsN fun _ _ _ _ _ _ us hl => (match us, hl with | [_], _ => rfl), dfn_of FF' sc_is_width fun cdv A outer s H E go => ?_⟩
  exact ds_one (s_ret (d_callG (k_is_whole T) (go.room.mono (by decide)) go.gd takes_cx (da_cons (d_var 0) (da_cons (d_int) (da_cons (d_gint (c_MOST_WIDTH T)) (da_nil))))))
/-! is_kind: 0 thing -/
theorem sc_is_kind : FnScope ["thing"] ["thing"] (defScope (top 14)) := ⟨rfl, rfl, rfl, by decide +kernel, rfl, by decide +kernel, by decide +kernel⟩
def f_is_kind (K : PySem.W.Frag) : SF := sSeq (sIf (dNotT (dVal (dCB gIsi (dCons (dVar 0) (dOne (dC (.v (.ty "tuple")))))))) (sRet (dCall (F_is_width K) (dCons (dVar 0) (dNil)))) (sNext))
  (sRet (dAnd (dOp (gE false) (dCB gLen (dOne (dVar 0))) (dC (.int 2))) (dAnd (dCall (F_is_whole K) (dCons (dOp gIx (dVar 0) (dC (.int 0))) (dCons (dC (.int 2)) (dCons (dC (.int 4)) (dNil))))) (dCall (F_is_width K) (dCons (dOp gIx (dVar 0) (dC (.int 1))) (dNil))))))
def F_is_kind (K : PySem.W.Frag) : FD := bodyF ["thing"] (f_is_kind K)
theorem k_is_kind {P : Program} {w : World} {K : PySem.W.Frag} {mg : Str → Option Value} {base : Heap} (T : Tx K mg base) : DefG P w K mg base "is_kind" 3 (top 14) ["thing"] (F_is_kind K) := by
  obtain ⟨fd, FF⟩ := T.says.defs.def_ 10 (d := d_is_kind) rfl
  have FF' : FunD K "is_kind" "is_kind" (defArgs (top 14)) (defBody (top 14)) (defScope (top 14)) [] [] (He.ga K "is_kind") fd := FF
  refine ⟨_, fd, g_is_kind T, FF', FF'.bindsN fun _ _ _ _ _ _ us hl => (match us, hl with | [_], _ => rfl), dfn_of FF' sc_is_kind fun cdv A outer s H E go => ?_⟩
  exact ds_cons (s_if (dt_not (dt_val (d_isi (m_isinstance T) (m_tuple T) rfl (d_var 0)))) (ds_one (s_ret (d_callG (k_is_width T) (go.room.mono (by decide)) go.gd takes_cx (da_cons (d_var 0) (da_nil))))) (ds_nil))
    (ds_one (s_ret (d_andV (d_eq T.sys go.room (d_len (m_len T) (d_var 0)) (d_int)) (d_andV (d_callG (k_is_whole T) (go.room.mono (by decide)) go.gd takes_cx (da_cons (d_ix (d_var 0) (d_int)) (da_cons (d_int) (da_cons (d_gint (c_MOST_ROW T)) (da_nil))))) (d_one (d_callG (k_is_width T) (go.room.mono (by decide)) go.gd takes_cx (da_cons (d_ix (d_var 0) (d_int)) (da_nil))))))))
/-! is_worth: 0 thing, 1 kind, 2 many, 3 width, 4 one -/
theorem sc_is_worth : FnScope ["thing", "kind", "many", "width", "one"] ["thing", "kind"] (defScope (top 15)) := ⟨rfl, rfl, rfl, by decide +kernel, rfl, by decide +kernel, by decide +kernel⟩
def f_is_worth (K : PySem.W.Frag) : SF := sSeq (sIf (dNotT (dVal (dCall (F_is_kind K) (dCons (dVar 1) (dNil))))) (sRaise (He.ga K "NoKind") ["found"] (dCons (dVar 1) (dNil))) (sNext))
  (sSeq (sIf (dNotT (dVal (dCB gIsi (dCons (dVar 1) (dOne (dC (.v (.ty "tuple")))))))) (sRet (dCall (F_is_whole K) (dCons (dVar 0) (dCons (dC (.int 0)) (dCons (dOp oSub (dOp oShl (dC (.int 1)) (dVar 1)) (dC (.int 1))) (dNil)))))) (sNext))
  (sSeq (sAsg (dVar 1) (gTupD 2 (gsCons (gNm 2) (gsCons (gNm 3) (gsNil)))))
  (sSeq (sIf (dOrT (dNotT (dVal (dCB gIsi (dCons (dVar 0) (dOne (dC (.v (.ty "tuple")))))))) (dVal (dOp (gE true) (dCB gLen (dOne (dVar 0))) (dVar 2)))) (sRet (dC (.bl false))) (sNext))
  (sRet (dCB gAll (dOne (dFrz (dLc (iSq (dVar 0)) (gNm 4) [4] dYes (dCall (F_is_whole K) (dCons (dVar 4) (dCons (dC (.int 0)) (dCons (dOp oSub (dOp oShl (dC (.int 1)) (dVar 3)) (dC (.int 1))) (dNil)))))))))))))
def F_is_worth (K : PySem.W.Frag) : FD := bodyF ["thing", "kind", "many", "width", "one"] (f_is_worth K)
theorem k_is_worth {P : Program} {w : World} {K : PySem.W.Frag} {mg : Str → Option Value} {base : Heap} (T : Tx K mg base) : DefG P w K mg base "is_worth" 4 (top 15) ["thing", "kind"] (F_is_worth K) := by
  obtain ⟨fd, FF⟩ := T.says.defs.def_ 11 (d := d_is_worth) rfl
  have FF' : FunD K "is_worth" "is_worth" (defArgs (top 15)) (defBody (top 15)) (defScope (top 15)) [] [] (He.ga K "is_worth") fd := FF
  refine ⟨_, fd, g_is_worth T, FF', FF'.bindsN fun _ _ _ _ _ _ us hl => (match us, hl with | [_, _], _ => rfl), dfn_of FF' sc_is_worth fun cdv A outer s H E go => ?_⟩
  exact ds_cons (s_if (dt_not (dt_val (d_callG (k_is_kind T) (go.room.mono (by decide)) go.gd takes_cx (da_cons (d_var 1) (da_nil))))) (ds_one (s_raise (xc_NoKind T rfl rfl rfl rfl rfl) rfl (go.room.mono (by decide)) takes_cx (da_cons (d_var 1) (da_nil)))) (ds_nil))
    (ds_cons (s_if (dt_not (dt_val (d_isi (m_isinstance T) (m_tuple T) rfl (d_var 1)))) (ds_one (s_ret (d_callG (k_is_whole T) (go.room.mono (by decide)) go.gd takes_cx (da_cons (d_var 0) (da_cons (d_int) (da_cons (d_sub (d_shl (d_int) (d_var 1)) (d_int)) (da_nil))))))) (ds_nil))
    (ds_cons (s_asg (d_var 1) (g_tup rfl (gs_cons (g_name 2 sc_is_worth.nd) (gs_cons (g_name 3 sc_is_worth.nd) (gs_nil))) (n := 2)))
    (ds_cons (s_if (dt_w (dw_or (dt_not (dt_val (d_isi (m_isinstance T) (m_tuple T) rfl (d_var 0)))) (dw_or1 (dt_ne T.sys go.room (d_len (m_len T) (d_var 0)) (d_var 2))))) (ds_one (s_ret (d_bl))) (ds_nil))
    (ds_one (s_ret (d_all rfl (m_all T) (d_frz (d_lc [("one", 4)] (gName 4) rfl sc_is_worth.nd (di_seq (d_var 0)) (by rfl) (fun _ _ _ _ _ => pg_name (i := 4) sc_is_worth.nd rfl (by first | exact Or.inl rfl | exact Or.inr rfl) (by first | exact .inl rfl | exact .inr rfl)) (simg_nm) (only_name (by decide)) (fun _ _ _ _ _ => d_callG (k_is_whole T) (go.room.mono (by decide)) go.gd takes_none5 (da_cons (d_var 4) (da_cons (d_int) (da_cons (d_sub (d_shl (d_int) (d_var 3)) (d_int)) (da_nil)))))))))))))
/-! bits_of: 0 width, 1 worth, 2 k -/
theorem sc_bits_of : FnScope ["width", "worth", "k"] ["width", "worth"] (defScope (top 16)) := ⟨rfl, rfl, rfl, by decide +kernel, rfl, by decide +kernel, by decide +kernel⟩
def f_bits_of (K : PySem.W.Frag) : SF := sSeq (sIf (dNotT (dVal (dCall (F_is_width K) (dCons (dVar 0) (dNil))))) (sRaise (He.ga K "NoWidth") ["found"] (dCons (dVar 0) (dNil))) (sNext))
  (sSeq (sIf (dNotT (dVal (dCall (F_is_worth K) (dCons (dVar 1) (dCons (dVar 0) (dNil)))))) (sRaise (He.ga K "NoWorth") ["found"] (dCons (dVar 1) (dNil))) (sNext))
  (sRet (dLc (iRg (dVar 0)) (gNm 2) [2] dYes (dOp oAnd (dOp oShr (dVar 1) (dVar 2)) (dC (.int 1))))))
def F_bits_of (K : PySem.W.Frag) : FD := bodyF ["width", "worth", "k"] (f_bits_of K)
theorem k_bits_of {P : Program} {w : World} {K : PySem.W.Frag} {mg : Str → Option Value} {base : Heap} (T : Tx K mg base) : DefG P w K mg base "bits_of" 5 (top 16) ["width", "worth"] (F_bits_of K) := by
  obtain ⟨fd, FF⟩ := T.says.defs.def_ 12 (d := d_bits_of) rfl
  have FF' : FunD K "bits_of" "bits_of" (defArgs (top 16)) (defBody (top 16)) (defScope (top 16)) [] [] (He.ga K "bits_of") fd := FF
  refine ⟨_, fd, g_bits_of T, FF', FF'.bindsN fun _ _ _ _ _ _ us hl => (match us, hl with | [_, _], _ => rfl), dfn_of FF' sc_bits_of fun cdv A outer s H E go => ?_⟩
  exact ds_cons (s_if (dt_not (dt_val (d_callG (k_is_width T) (go.room.mono (by decide)) go.gd takes_cx (da_cons (d_var 0) (da_nil))))) (ds_one (s_raise (xc_NoWidth T rfl rfl rfl rfl rfl) rfl (go.room.mono (by decide)) takes_cx (da_cons (d_var 0) (da_nil)))) (ds_nil))
    (ds_cons (s_if (dt_not (dt_val (d_callG (k_is_worth T) (go.room.mono (by decide)) go.gd takes_cx (da_cons (d_var 1) (da_cons (d_var 0) (da_nil)))))) (ds_one (s_raise (xc_NoWorth T rfl rfl rfl rfl rfl) rfl (go.room.mono (by decide)) takes_cx (da_cons (d_var 1) (da_nil)))) (ds_nil))
    (ds_one (s_ret (d_lc [("k", 2)] (gName 2) rfl sc_bits_of.nd (di_rg (m_range T) (d_var 0)) (by rfl) (fun _ _ _ _ _ => pg_name (i := 2) sc_bits_of.nd rfl (by first | exact Or.inl rfl | exact Or.inr rfl) (by first | exact .inl rfl | exact .inr rfl)) (simg_nm) (only_name (by decide)) (fun _ _ _ _ _ => d_and (d_shr (d_var 1) (d_var 2)) (d_int))))))
/-! is_truth: 0 thing -/
theorem sc_is_truth : FnScope ["thing"] ["thing"] (defScope (top 13)) := ⟨rfl, rfl, rfl, by decide +kernel, rfl, by decide +kernel, by decide +kernel⟩
def f_is_truth (K : PySem.W.Frag) : SF := sRet (dCall (F_is_whole K) (dCons (dVar 0) (dCons (dC (.int 0)) (dCons (dC (.int 1)) (dNil)))))
def F_is_truth (K : PySem.W.Frag) : FD := bodyF ["thing"] (f_is_truth K)
theorem k_is_truth {P : Program} {w : World} {K : PySem.W.Frag} {mg : Str → Option Value} {base : Heap} (T : Tx K mg base) : DefG P w K mg base "is_truth" 2 (top 13) ["thing"] (F_is_truth K) := by
  obtain ⟨fd, FF⟩ := T.says.defs.def_ 13 (d := d_is_truth) rfl
  have FF' : FunD K "is_truth" "is_truth" (defArgs (top 13)) (defBody (top 13)) (defScope (top 13)) [] [] (He.ga K "is_truth") fd := FF
  refine ⟨_, fd, g_is_truth T, FF', FF'.bindsN fun _ _ _ _ _ _ us hl => (match us, hl with | [_], _ => rfl), dfn_of FF' sc_is_truth fun cdv A outer s H E go => ?_⟩
  exact ds_one (s_ret (d_callG (k_is_whole T) (go.room.mono (by decide)) go.gd takes_cx (da_cons (d_var 0) (da_cons (d_int) (da_cons (d_int) (da_nil))))))
/-! of_bits: 0 bits, 1 bit, 2 k -/
theorem sc_of_bits : FnScope ["bits", "bit", "k"] ["bits"] (defScope (top 17)) := ⟨rfl, rfl, rfl, by decide +kernel, rfl, by decide +kernel, by decide +kernel⟩
def f_of_bits (K : PySem.W.Frag) : SF := sSeq (sIf (dOrT (dNotT (dVal (dIsi2 "list" "tuple" (dVar 0)))) (dNotT (dVal (dChain oLe oLe (dC (.int 1)) (dCB gLen (dOne (dVar 0))) (dC (.int 8)))))) (sRaise (He.ga K "NoBits") ["found"] (dCons (dVar 0) (dNil))) (sNext))
  (sSeq (sIf (dNotT (dVal (dCB gAll (dOne (dFrz (dLc (iSq (dVar 0)) (gNm 1) [1] dYes (dCall (F_is_truth K) (dCons (dVar 1) (dNil))))))))) (sRaise (He.ga K "NoBits") ["found"] (dCons (dVar 0) (dNil))) (sNext))
  (sRet (dCB gSum (dOne (dFrz (dLc (iEn (dVar 0)) (gTupD 2 (gsCons (gNm 2) (gsCons (gNm 1) gsNil))) [2, 1] dYes (dOp oShl (dVar 1) (dVar 2))))))))
def F_of_bits (K : PySem.W.Frag) : FD := bodyF ["bits", "bit", "k"] (f_of_bits K)
theorem k_of_bits {P : Program} {w : World} {K : PySem.W.Frag} {mg : Str → Option Value} {base : Heap} (T : Tx K mg base) : DefG P w K mg base "of_bits" 3 (top 17) ["bits"] (F_of_bits K) := by
  obtain ⟨fd, FF⟩ := T.says.defs.def_ 14 (d := d_of_bits) rfl
  have FF' : FunD K "of_bits" "of_bits" (defArgs (top 17)) (defBody (top 17)) (defScope (top 17)) [] [] (He.ga K "of_bits") fd := FF
  refine ⟨_, fd, g_of_bits T, FF', FF'.bindsN fun _ _ _ _ _ _ us hl => (match us, hl with | [_], _ => rfl), dfn_of FF' sc_of_bits fun cdv A outer s H E go => ?_⟩
  exact ds_cons (s_if (dt_w (dw_or (dt_not (dt_val (d_isi2 (m_isinstance T) rfl (m_list T) rfl (m_tuple T) rfl (d_var 0)))) (dw_or1 (dt_not (dt_leLe (d_int) (d_len (m_len T) (d_var 0)) (d_gint (c_MOST_WIDTH T))))))) (ds_one (s_raise (xc_NoBits T rfl rfl rfl rfl rfl) rfl (go.room.mono (by decide)) takes_cx (da_cons (d_var 0) (da_nil)))) (ds_nil))
    (ds_cons (s_if (dt_not (dt_val (d_all rfl (m_all T) (d_frz (d_lc [("bit", 1)] (gName 1) rfl sc_of_bits.nd (di_seq (d_var 0)) (by rfl) (fun _ _ _ _ _ => pg_name (i := 1) sc_of_bits.nd rfl (by first | exact Or.inl rfl | exact Or.inr rfl) (by first | exact .inl rfl | exact .inr rfl)) (simg_nm) (only_name (by decide)) (fun _ _ _ _ _ => d_callG (k_is_truth T) (go.room.mono (by decide)) go.gd takes_none5 (da_cons (d_var 1) (da_nil)))))))) (ds_one (s_raise (xc_NoBits T rfl rfl rfl rfl rfl) rfl (go.room.mono (by decide)) takes_cx (da_cons (d_var 0) (da_nil)))) (ds_nil))
    (ds_one (s_ret (d_sum rfl (m_sum T) (d_frz (d_lc [("k", 2), ("bit", 1)] (gTup K 2 (gCons (gName 2) (gCons (gName 1) gNil))) rfl sc_of_bits.nd (di_en (m_enumerate T) (d_var 0)) (by rfl) (fun _ _ _ _ _ => pg_tup rfl (pgs_cons (pg_name (i := 2) sc_of_bits.nd rfl (by first | exact Or.inl rfl | exact Or.inr rfl) (by first | exact .inl rfl | exact .inr rfl)) (pgs_cons (pg_name (i := 1) sc_of_bits.nd rfl (by first | exact Or.inl rfl | exact Or.inr rfl) (by first | exact .inl rfl | exact .inr rfl)) pgs_nil (by rfl)) (by rfl)) (by rfl) (by rfl)) ((simg_tup (simgs_cons simg_nm (simgs_cons simg_nm simgs_nil)))) ((only_tup (only_cons (by decide) (only_cons (by decide) only_nil)))) (fun _ _ _ _ _ => d_shl (d_var 1) (d_var 2))))))))
/-! _law_is_truth: 0 thing -/
theorem sc__law_is_truth : FnScope ["thing"] ["thing"] (defScope (top 24)) := ⟨rfl, rfl, rfl, by decide +kernel, rfl, by decide +kernel, by decide +kernel⟩
def f__law_is_truth (K : PySem.W.Frag) : SF := sRet (dAnd (dCB gIsi (dCons (dVar 0) (dOne (dC (.v (.ty "int")))))) (dAnd (dNot (dCB gIsi (dCons (dVar 0) (dOne (dC (.v (.ty "bool"))))))) (dOp (gIn false) (dVar 0) (dTup (dCons (dC (.int 0)) (dCons (dC (.int 1)) (dNil)))))))
def F__law_is_truth (K : PySem.W.Frag) : FD := bodyF ["thing"] (f__law_is_truth K)
theorem k__law_is_truth {P : Program} {w : World} {K : PySem.W.Frag} {mg : Str → Option Value} {base : Heap} (T : Tx K mg base) : DefG P w K mg base "_law_is_truth" 1 (top 24) ["thing"] (F__law_is_truth K) := by
  obtain ⟨fd, FF⟩ := T.says.defs.def_ 15 (d := d__law_is_truth) rfl
  have FF' : FunD K "_law_is_truth" "_law_is_truth" (defArgs (top 24)) (defBody (top 24)) (defScope (top 24)) [] [] (He.ga K "_law_is_truth") fd := FF
  refine ⟨_, fd, g__law_is_truth T, FF', FF'.bindsN fun _ _ _ _ _ _ us hl => (match us, hl with | [_], _ => rfl), dfn_of FF' sc__law_is_truth fun cdv A outer s H E go => ?_⟩
  exact ds_one (s_ret (d_andV (d_isi (m_isinstance T) (m_int T) rfl (d_var 0)) (d_andV (d_notV (d_isi (m_isinstance T) (m_bool T) rfl (d_var 0))) (d_one (d_in (d_var 0) (d_tup (da_cons (d_int) (da_cons (d_int) (da_nil)))))))))
/-! _law_asked: 0 way, 1 one, 2 other, 3 e -/
theorem sc__law_asked : FnScope ["way", "one", "other", "e"] ["way", "one", "other"] (defScope (top 25)) := ⟨rfl, rfl, rfl, by decide +kernel, rfl, by decide +kernel, by decide +kernel⟩
def f__law_asked (K : PySem.W.Frag) : SF := sTry K (sRet (dLstF (dCons (dC (.str "told")) (dCons (dIf (dVal (dOp (gE false) (dVar 0) (dC (.int 0)))) (dFrz (dCall (F_bits_of K) (dCons (dVar 1) (dCons (dVar 2) (dNil))))) (dCall (F_of_bits K) (dCons (dVar 1) (dNil)))) (dNil))))) (.one (.ref (He.ga K "NoWidth")) (some 3) (fun a cls d => sRet (dLstF (dCons (dC (.str "width")) (dCons (dFld a cls d (He.ga K "NoWidth") "found" (dVar 3)) (dNil))))) (.one (.ref (He.ga K "NoWorth")) (some 3) (fun a cls d => sRet (dLstF (dCons (dC (.str "worth")) (dCons (dFld a cls d (He.ga K "NoWorth") "found" (dVar 3)) (dNil))))) (.one (.ref (He.ga K "NoBits")) (some 3) (fun a cls d => sRet (dLstF (dCons (dC (.str "bits")) (dCons (dFld a cls d (He.ga K "NoBits") "found" (dVar 3)) (dNil))))) (.bad))))
def F__law_asked (K : PySem.W.Frag) : FD := bodyF ["way", "one", "other", "e"] (f__law_asked K)
theorem k__law_asked {P : Program} {w : World} {K : PySem.W.Frag} {mg : Str → Option Value} {base : Heap} (T : Tx K mg base) : DefG P w K mg base "_law_asked" 6 (top 25) ["way", "one", "other"] (F__law_asked K) := by
  obtain ⟨fd, FF⟩ := T.says.defs.def_ 16 (d := d__law_asked) rfl
  have FF' : FunD K "_law_asked" "_law_asked" (defArgs (top 25)) (defBody (top 25)) (defScope (top 25)) [] [] (He.ga K "_law_asked") fd := FF
  refine ⟨_, fd, g__law_asked T, FF', FF'.bindsN fun _ _ _ _ _ _ us hl => (match us, hl with | [_, _, _], _ => rfl), dfn_of FF' sc__law_asked fun cdv A outer s H E go => ?_⟩
  exact ds_one (s_try takes_cx sc__law_asked.nd (fun W pn xe tk2 po2 => ds_one (s_ret (d_lstF (da_cons (d_str) (da_cons (d_ifE (dt_eq T.sys go.room (d_var 0) (d_int)) (d_frz (d_callG (k_bits_of T) (go.room.mono (by decide)) go.gd tk2 (da_cons (d_var 1) (da_cons (d_var 2) (da_nil))))) (d_callG (k_of_bits T) (go.room.mono (by decide)) go.gd tk2 (da_cons (d_var 1) (da_nil)))) (da_nil)))))) (ClsOk.as (i := 3) rfl rfl ⟨rfl, by decide, .inl (g_NoWidth T)⟩ (fun a oe cls d pn hz hf => ds_one (s_ret (d_lstF (da_cons (d_str) (da_cons (d_fld (xo_NoWidth T).xf ((xo_NoWidth T).no "found" (by simp)) hz hf (d_var 3)) (da_nil)))))) (ClsOk.as (i := 3) rfl rfl ⟨rfl, by decide, .inl (g_NoWorth T)⟩ (fun a oe cls d pn hz hf => ds_one (s_ret (d_lstF (da_cons (d_str) (da_cons (d_fld (xo_NoWorth T).xf ((xo_NoWorth T).no "found" (by simp)) hz hf (d_var 3)) (da_nil)))))) (ClsOk.as (i := 3) rfl rfl ⟨rfl, by decide, .inl (g_NoBits T)⟩ (fun a oe cls d pn hz hf => ds_one (s_ret (d_lstF (da_cons (d_str) (da_cons (d_fld (xo_NoBits T).xf ((xo_NoBits T).no "found" (by simp)) hz hf (d_var 3)) (da_nil)))))) (ClsOk.bad)))))
/-! _law_refused_right: 0 purse, 1 size, 2 top, 3 odd, 4 far, 5 rows, 6 row, 7 k, 8 at, 9 none, 10 way, 11 one, 12 other, 13 due, 14 kept, 15 found -/
theorem sc__law_refused_right : FnScope ["purse", "size", "top", "odd", "far", "rows", "row", "k", "at", "none", "way", "one", "other", "due", "kept", "found"] ["purse", "size"] (defScope (top 26)) := ⟨rfl, rfl, rfl, by decide +kernel, rfl, by decide +kernel, by decide +kernel⟩
def f__law_refused_right (K : PySem.W.Frag) : SF := sSeq (sAsg (dOp oShl (dC (.int 1)) (dVar 1)) (gNm 2))
  (sSeq (sAsg (dOp gIx (dLstF (dCons (dC .non) (dCons (dC (.bl true)) (dCons (dNeg (dC (.int 1))) (dCons (dVar 2) (dCons (dC (.str "1")) (dCons (dLst (dCons (dC (.int 0)) (dNil))) (dCons (dTup (dCons (dC (.int 0)) (dNil))) (dCons (dDct0) (dCons (dOp oPow (dC (.int 10)) (dC (.int 29))) (dCons (dOp oSub (dC (.int 0)) (dVar 2)) (dNil)))))))))))) (dCall (F__law_take K) (dCons (dVar 0) (dCons (dC (.int 10)) (dNil))))) (gNm 3))
  (sSeq (sAsg (dOp gIx (dLstF (dCons (dC .non) (dCons (dC (.bl true)) (dCons (dC (.int 0)) (dCons (dC (.int 9)) (dCons (dC (.str "8")) (dCons (dLst (dCons (dC (.int 1)) (dNil))) (dCons (dTup (dCons (dC (.int 1)) (dNil))) (dCons (dDct0) (dCons (dNeg (dC (.int 1))) (dCons (dOp oPow (dC (.int 10)) (dC (.int 29))) (dNil)))))))))))) (dCall (F__law_take K) (dCons (dVar 0) (dCons (dC (.int 10)) (dNil))))) (gNm 4))
  (sSeq (sAsg (dLst (dCons (dTup (dCons (dC (.int 0)) (dCons (dVar 1) (dCons (dVar 3) (dCons (dLstF (dCons (dC (.str "worth")) (dCons (dVar 3) (dNil)))) (dNil)))))) (dCons (dTup (dCons (dC (.int 0)) (dCons (dVar 4) (dCons (dVar 3) (dCons (dLstF (dCons (dC (.str "width")) (dCons (dVar 4) (dNil)))) (dNil)))))) (dCons (dTup (dCons (dC (.int 0)) (dCons (dVar 4) (dCons (dC (.int 0)) (dCons (dLstF (dCons (dC (.str "width")) (dCons (dVar 4) (dNil)))) (dNil)))))) (dNil))))) (gNm 5))
  (sSeq (sAsg (dLc (iRg (dOp gIx (dLstF (dCons (dC (.int 0)) (dCons (dC (.int 9)) (dCons (dOp oAdd (dC (.int 1)) (dCall (F__law_take K) (dCons (dVar 0) (dCons (dC (.int 8)) (dNil))))) (dNil))))) (dCall (F__law_take K) (dCons (dVar 0) (dCons (dC (.int 3)) (dNil)))))) (gNm 7) [7] dYes (dCall (F__law_take K) (dCons (dVar 0) (dCons (dC (.int 2)) (dNil))))) (gNm 6))
  (sSeq (sIf (dAndT (dVal (dOp (gE true) (dVar 6) (dLstF (dNil)))) (dVal (dOp (oLt) (dCB gLen (dOne (dVar 6))) (dC (.int 9))))) (sSeq (sAsg (dCall (F__law_take K) (dCons (dVar 0) (dCons (dCB gLen (dOne (dVar 6))) (dNil)))) (gNm 8))
  (sAsg (dOp gIx (dLstF (dCons (dC (.int 2)) (dCons (dNeg (dC (.int 1))) (dCons (dC (.bl true)) (dCons (dC .non) (dCons (dC (.str "1")) (dCons (dLstF (dCons (dC (.int 0)) (dNil))) (dNil)))))))) (dCall (F__law_take K) (dCons (dVar 0) (dCons (dC (.int 6)) (dNil))))) (gSubD (dVar 6) (dVar 8)))) (sNext))
  (sSeq (sDrop (dApp (dVar 5) (dTup (dCons (dC (.int 1)) (dCons (dVar 6) (dCons (dC .non) (dCons (dLstF (dCons (dC (.str "bits")) (dCons (dVar 6) (dNil)))) (dNil))))))))
  (sSeq (sAsg (dOp gIx (dLstF (dCons (dC .non) (dCons (dC (.int 5)) (dCons (dC (.str "01")) (dCons (dDct0) (dCons (dC (.bl true)) (dNil))))))) (dCall (F__law_take K) (dCons (dVar 0) (dCons (dC (.int 5)) (dNil))))) (gNm 9))
  (sSeq (sDrop (dApp (dVar 5) (dTup (dCons (dC (.int 1)) (dCons (dVar 9) (dCons (dC .non) (dCons (dLstF (dCons (dC (.str "bits")) (dCons (dVar 9) (dNil)))) (dNil))))))))
  (sSeq (sFor (iSq (dVar 5)) (gTupD 4 (gsCons (gNm 10) (gsCons (gNm 11) (gsCons (gNm 12) (gsCons (gNm 13) (gsNil)))))) (sSeq (sAsg (dCB gRepr (dOne (dVar 13))) (gNm 14))
  (sSeq (sAsg (dCall (F__law_asked K) (dCons (dVar 10) (dCons (dVar 11) (dCons (dVar 12) (dNil))))) (gNm 15))
  (sSeq (sIf (dVal (dOp (gE true) (dCB gRepr (dOne (dVar 15))) (dVar 14))) (sRet (dC (.bl false))) (sNext))
  (sIf (dVal (dCB gIsi (dCons (dOp gIx (dVar 13) (dC (.int 1))) (dOne (dC (.v (.ty "list"))))))) (sSeq (sDrop (dApp (dOp gIx (dVar 13) (dC (.int 1))) (dC (.int 7))))
  (sSeq (sIf (dVal (dOp (gE true) (dCB gRepr (dOne (dOp gIx (dVar 15) (dC (.int 1))))) (dCB gRepr (dOne (dOp gIx (dVar 13) (dC (.int 1))))))) (sRet (dC (.bl false))) (sNext))
  (sDrop (dPop (dOp gIx (dVar 13) (dC (.int 1))))))) (sNext))))))
  (sRet (dC (.bl true))))))))))))
def F__law_refused_right (K : PySem.W.Frag) : FD := bodyF ["purse", "size", "top", "odd", "far", "rows", "row", "k", "at", "none", "way", "one", "other", "due", "kept", "found"] (f__law_refused_right K)
theorem k__law_refused_right {P : Program} {w : World} {K : PySem.W.Frag} {mg : Str → Option Value} {base : Heap} (T : Tx K mg base) : DefG P w K mg base "_law_refused_right" 7 (top 26) ["purse", "size"] (F__law_refused_right K) := by
  obtain ⟨fd, FF⟩ := T.says.defs.def_ 17 (d := d__law_refused_right) rfl
  have FF' : FunD K "_law_refused_right" "_law_refused_right" (defArgs (top 26)) (defBody (top 26)) (defScope (top 26)) [] [] (He.ga K "_law_refused_right") fd := FF
  refine ⟨_, fd, g__law_refused_right T, FF', FF'.bindsN fun _ _ _ _ _ _ us hl => (match us, hl with | [_, _], _ => rfl), dfn_of FF' sc__law_refused_right fun cdv A outer s H E go => ?_⟩
  exact ds_cons (s_set 2 (d_shl (d_int) (d_var 1)) sc__law_refused_right.nd)
    (ds_cons (s_set 3 (d_ix (d_lstF (da_cons (d_non) (da_cons (d_bl) (da_cons (d_neg (d_int)) (da_cons (d_var 2) (da_cons (d_str) (da_cons (d_lst (da_cons (d_int) (da_nil))) (da_cons (d_tup (da_cons (d_int) (da_nil))) (da_cons (d_dct0) (da_cons (d_pow (d_int) (d_int)) (da_cons (d_sub (d_int) (d_var 2)) (da_nil)))))))))))) (d_callG (k__law_take T) (go.room.mono (by decide)) go.gd takes_cx (da_cons (d_var 0) (da_cons (d_int) (da_nil))))) sc__law_refused_right.nd)
    (ds_cons (s_set 4 (d_ix (d_lstF (da_cons (d_non) (da_cons (d_bl) (da_cons (d_int) (da_cons (d_int) (da_cons (d_str) (da_cons (d_lst (da_cons (d_int) (da_nil))) (da_cons (d_tup (da_cons (d_int) (da_nil))) (da_cons (d_dct0) (da_cons (d_neg (d_int)) (da_cons (d_pow (d_int) (d_int)) (da_nil)))))))))))) (d_callG (k__law_take T) (go.room.mono (by decide)) go.gd takes_cx (da_cons (d_var 0) (da_cons (d_int) (da_nil))))) sc__law_refused_right.nd)
    (ds_cons (s_set 5 (d_lst (da_cons (d_tup (da_cons (d_int) (da_cons (d_var 1) (da_cons (d_var 3) (da_cons (d_lstF (da_cons (d_str) (da_cons (d_var 3) (da_nil)))) (da_nil)))))) (da_cons (d_tup (da_cons (d_int) (da_cons (d_var 4) (da_cons (d_var 3) (da_cons (d_lstF (da_cons (d_str) (da_cons (d_var 4) (da_nil)))) (da_nil)))))) (da_cons (d_tup (da_cons (d_int) (da_cons (d_var 4) (da_cons (d_int) (da_cons (d_lstF (da_cons (d_str) (da_cons (d_var 4) (da_nil)))) (da_nil)))))) (da_nil))))) sc__law_refused_right.nd)
    (ds_cons (s_setLc 6 [("k", 7)] (gName 7) rfl sc__law_refused_right.nd (di_rg (m_range T) (d_ix (d_lstF (da_cons (d_int) (da_cons (d_int) (da_cons (d_add (d_int) (d_callG (k__law_take T) (go.room.mono (by decide)) go.gd takes_cx (da_cons (d_var 0) (da_cons (d_int) (da_nil))))) (da_nil))))) (d_callG (k__law_take T) (go.room.mono (by decide)) go.gd takes_cx (da_cons (d_var 0) (da_cons (d_int) (da_nil)))))) (by rfl) (fun _ _ _ _ _ => pg_name (i := 7) sc__law_refused_right.nd rfl (by first | exact Or.inl rfl | exact Or.inr rfl) (by first | exact .inl rfl | exact .inr rfl)) (simg_nm) (only_name (by decide)) (fun _ _ _ _ _ => d_callG (k__law_take T) (go.room.mono (by decide)) go.gd takes_none5 (da_cons (d_var 0) (da_cons (d_int) (da_nil)))) (by rfl))
    (ds_cons (s_if (dt_w (dw_and (dt_ne T.sys go.room (d_var 6) (d_lstF (da_nil))) (dw_and1 (dt_lt (d_len (m_len T) (d_var 6)) (d_int))))) (ds_cons (s_set 8 (d_callG (k__law_take T) (go.room.mono (by decide)) go.gd takes_cx (da_cons (d_var 0) (da_cons (d_len (m_len T) (d_var 6)) (da_nil)))) sc__law_refused_right.nd)
    (ds_one (s_asg (d_ix (d_lstF (da_cons (d_int) (da_cons (d_neg (d_int)) (da_cons (d_bl) (da_cons (d_non) (da_cons (d_str) (da_cons (d_lstF (da_cons (d_int) (da_nil))) (da_nil)))))))) (d_callG (k__law_take T) (go.room.mono (by decide)) go.gd takes_cx (da_cons (d_var 0) (da_cons (d_int) (da_nil))))) (g_sub (d_var 6) (d_var 8))))) (ds_nil))
    (ds_cons (s_expr (d_append (d_var 5) (d_tup (da_cons (d_int) (da_cons (d_var 6) (da_cons (d_non) (da_cons (d_lstF (da_cons (d_str) (da_cons (d_var 6) (da_nil)))) (da_nil))))))))
    (ds_cons (s_set 9 (d_ix (d_lstF (da_cons (d_non) (da_cons (d_int) (da_cons (d_str) (da_cons (d_dct0) (da_cons (d_bl) (da_nil))))))) (d_callG (k__law_take T) (go.room.mono (by decide)) go.gd takes_cx (da_cons (d_var 0) (da_cons (d_int) (da_nil))))) sc__law_refused_right.nd)
    (ds_cons (s_expr (d_append (d_var 5) (d_tup (da_cons (d_int) (da_cons (d_var 9) (da_cons (d_non) (da_cons (d_lstF (da_cons (d_str) (da_cons (d_var 9) (da_nil)))) (da_nil))))))))
    (ds_cons (s_for PassesOwn.leaving rfl (di_seq (d_var 5)) (g_tup rfl (gs_cons (g_name 10 sc__law_refused_right.nd) (gs_cons (g_name 11 sc__law_refused_right.nd) (gs_cons (g_name 12 sc__law_refused_right.nd) (gs_cons (g_name 13 sc__law_refused_right.nd) (gs_nil))))) (n := 4)) (ds_cons (s_set 14 (d_repr T.sys go.gd go.room (m_repr T) (d_var 13)) sc__law_refused_right.nd)
    (ds_cons (s_set 15 (d_callG (k__law_asked T) (go.room.mono (by decide)) go.gd takes_cx (da_cons (d_var 10) (da_cons (d_var 11) (da_cons (d_var 12) (da_nil))))) sc__law_refused_right.nd)
    (ds_cons (s_if (dt_ne T.sys go.room (d_repr T.sys go.gd go.room (m_repr T) (d_var 15)) (d_var 14)) (ds_one (s_ret (d_bl))) (ds_nil))
    (ds_one (s_if (dt_val (d_isi (m_isinstance T) (m_list T) rfl (d_ix (d_var 13) (d_int)))) (ds_cons (s_expr (d_append (d_ix (d_var 13) (d_int)) (d_int)))
    (ds_cons (s_if (dt_ne T.sys go.room (d_repr T.sys go.gd go.room (m_repr T) (d_ix (d_var 15) (d_int))) (d_repr T.sys go.gd go.room (m_repr T) (d_ix (d_var 13) (d_int)))) (ds_one (s_ret (d_bl))) (ds_nil))
    (ds_one (s_expr (d_pop (d_ix (d_var 13) (d_int))))))) (ds_nil)))))))
    (ds_one (s_ret (d_bl))))))))))))
/-! law: 0 script, 1 k, 2 purse, 3 size, 4 number, 5 due, 6 found, 7 row, 8 bit, 9 turn -/
theorem sc_law : FnScope ["script", "k", "purse", "size", "number", "due", "found", "row", "bit", "turn"] ["script"] (defScope (top 27)) := ⟨rfl, rfl, rfl, by decide +kernel, rfl, by decide +kernel, by decide +kernel⟩
def f_law (K : PySem.W.Frag) : SF := sSeq (sFor (iRg (dCB gMax2 (dCons (dC (.int 2)) (dOne (dCB gMin2 (dCons (dC (.int 8)) (dOne (dCB gLen (dOne (dVar 0)))))))))) (gNm 1) (sSeq (sAsg (dCall (F__law_purse K) (dCons (dCall (F__law_cell K) (dCons (dVar 0) (dCons (dVar 1) (dNil)))) (dNil))) (gNm 2))
  (sSeq (sAsg (dOp gIx (dLstF (dCons (dC (.int 1)) (dCons (dC (.int 8)) (dCons (dOp oAdd (dC (.int 1)) (dCall (F__law_take K) (dCons (dVar 2) (dCons (dC (.int 8)) (dNil))))) (dNil))))) (dCall (F__law_take K) (dCons (dVar 2) (dCons (dC (.int 3)) (dNil))))) (gNm 3))
  (sSeq (sFor (iRg (dOp oShl (dC (.int 1)) (dVar 3))) (gNm 4) (sSeq (sAsg (dCall (F__law_bits K) (dCons (dVar 3) (dCons (dVar 4) (dNil)))) (gNm 5))
  (sSeq (sAsg (dCall (F_bits_of K) (dCons (dVar 3) (dCons (dVar 4) (dNil)))) (gNm 6))
  (sSeq (sIf (dOrT (dVal (dOp (gE true) (dCB gRepr (dOne (dVar 6))) (dCB gRepr (dOne (dVar 5))))) (dVal (dOp (gE true) (dCB gRepr (dOne (dCall (F_of_bits K) (dCons (dCB gTupOf (dOne (dVar 5))) (dNil))))) (dCB gRepr (dOne (dVar 4)))))) (sRet (dC (.bl false))) (sNext))
  (sSeq (sDrop (dApp (dVar 6) (dC (.int 1))))
  (sIf (dOrT (dVal (dOp (gE true) (dFrz (dCallK (F_bits_of K) (permG .non [1, 0]) dNil (dCons (dVar 4) (dCons (dVar 3) (dNil))))) (dVar 5))) (dOrT (dVal (dOp (gE true) (dCallK (F_of_bits K) (permG .non [0]) dNil (dCons (dVar 5) (dNil))) (dVar 4))) (dVal (dOp (gE true) (dCB gLen (dOne (dVar 5))) (dVar 3))))) (sRet (dC (.bl false))) (sNext)))))))
  (sSeq (sAsg (dFrz (dLc (iRg (dOp oAdd (dC (.int 1)) (dCall (F__law_take K) (dCons (dVar 2) (dCons (dC (.int 8)) (dNil)))))) (gNm 1) [1] dYes (dCall (F__law_take K) (dCons (dVar 2) (dCons (dC (.int 2)) (dNil)))))) (gNm 7))
  (sSeq (sIf (dOrT (dNotT (dVal (dCB gAll (dOne (dFrz (dLc (iSq (dVar 7)) (gNm 8) [8] dYes (dCall (F__law_is_truth K) (dCons (dVar 8) (dNil))))))))) (dVal (dOp (gE true) (dFrz (dCall (F_bits_of K) (dCons (dCB gLen (dOne (dVar 7))) (dCons (dCall (F_of_bits K) (dCons (dVar 7) (dNil))) (dNil))))) (dVar 7)))) (sRet (dC (.bl false))) (sNext))
  (sFor (iRg (dC (.int 4))) (gNm 9) (sIf (dNotT (dVal (dCall (F__law_refused_right K) (dCons (dVar 2) (dCons (dVar 3) (dNil)))))) (sRet (dC (.bl false))) (sNext)))))))))
  (sRet (dC (.bl true)))
def F_law (K : PySem.W.Frag) : FD := bodyF ["script", "k", "purse", "size", "number", "due", "found", "row", "bit", "turn"] (f_law K)
theorem k_law {P : Program} {w : World} {K : PySem.W.Frag} {mg : Str → Option Value} {base : Heap} (T : Tx K mg base) : DefG P w K mg base "law" 8 (top 27) ["script"] (F_law K) := by
  obtain ⟨fd, FF⟩ := T.says.defs.def_ 18 (d := d_law) rfl
  have FF' : FunD K "law" "law" (defArgs (top 27)) (defBody (top 27)) (defScope (top 27)) [] [] (He.ga K "law") fd := FF
  refine ⟨_, fd, g_law T, FF', FF'.bindsN fun _ _ _ _ _ _ us hl => (match us, hl with | [_], _ => rfl), dfn_of FF' sc_law fun cdv A outer s H E go => ?_⟩
  exact ds_cons (s_for PassesOwn.leaving rfl (di_rg (m_range T) (d_max2 rfl (m_max T) (d_int) (d_min2 rfl (m_min T) (d_int) (d_len (m_len T) (d_var 0))))) (g_name 1 sc_law.nd) (ds_cons (s_set 2 (d_callG (k__law_purse T) (go.room.mono (by decide)) go.gd takes_cx (da_cons (d_callG (k__law_cell T) (go.room.mono (by decide)) go.gd takes_cx (da_cons (d_var 0) (da_cons (d_var 1) (da_nil)))) (da_nil))) sc_law.nd)
    (ds_cons (s_set 3 (d_ix (d_lstF (da_cons (d_int) (da_cons (d_int) (da_cons (d_add (d_int) (d_callG (k__law_take T) (go.room.mono (by decide)) go.gd takes_cx (da_cons (d_var 2) (da_cons (d_int) (da_nil))))) (da_nil))))) (d_callG (k__law_take T) (go.room.mono (by decide)) go.gd takes_cx (da_cons (d_var 2) (da_cons (d_int) (da_nil))))) sc_law.nd)
    (ds_cons (s_for PassesOwn.leaving rfl (di_rg (m_range T) (d_shl (d_int) (d_var 3))) (g_name 4 sc_law.nd) (ds_cons (s_set 5 (d_callG (k__law_bits T) (go.room.mono (by decide)) go.gd takes_cx (da_cons (d_var 3) (da_cons (d_var 4) (da_nil)))) sc_law.nd)
    (ds_cons (s_set 6 (d_callG (k_bits_of T) (go.room.mono (by decide)) go.gd takes_cx (da_cons (d_var 3) (da_cons (d_var 4) (da_nil)))) sc_law.nd)
    (ds_cons (s_if (dt_w (dw_or (dt_ne T.sys go.room (d_repr T.sys go.gd go.room (m_repr T) (d_var 6)) (d_repr T.sys go.gd go.room (m_repr T) (d_var 5))) (dw_or1 (dt_ne T.sys go.room (d_repr T.sys go.gd go.room (m_repr T) (d_callG (k_of_bits T) (go.room.mono (by decide)) go.gd takes_cx (da_cons (d_tupOf (m_tuple T) (d_var 5)) (da_nil)))) (d_repr T.sys go.gd go.room (m_repr T) (d_var 4)))))) (ds_one (s_ret (d_bl))) (ds_nil))
    (ds_cons (s_expr (d_append (d_var 6) (d_int)))
    (ds_one (s_if (dt_w (dw_or (dt_ne T.sys go.room (d_frz (d_callK0 ["worth", "width"] [1, 0] (k_bits_of T) (go.room.mono (by decide)) go.gd takes_cx (dk_cons (d_var 4) (dk_cons (d_var 3) (dk_nil))) (fun _ _ _ _ _ _ us ws h1 h2 => match us, ws, h1, h2 with | [], [_, _], _, _ => rfl))) (d_var 5)) (dw_or (dt_ne T.sys go.room (d_callK0 ["bits"] [0] (k_of_bits T) (go.room.mono (by decide)) go.gd takes_cx (dk_cons (d_var 5) (dk_nil)) (fun _ _ _ _ _ _ us ws h1 h2 => match us, ws, h1, h2 with | [], [_], _, _ => rfl)) (d_var 4)) (dw_or1 (dt_ne T.sys go.room (d_len (m_len T) (d_var 5)) (d_var 3)))))) (ds_one (s_ret (d_bl))) (ds_nil))))))))
    (ds_cons (s_setLcF 7 [("k", 1)] (gName 1) rfl sc_law.nd (di_rg (m_range T) (d_add (d_int) (d_callG (k__law_take T) (go.room.mono (by decide)) go.gd takes_cx (da_cons (d_var 2) (da_cons (d_int) (da_nil)))))) (by rfl) (fun _ _ _ _ _ => pg_name (i := 1) sc_law.nd rfl (by first | exact Or.inl rfl | exact Or.inr rfl) (by first | exact .inl rfl | exact .inr rfl)) (simg_nm) (only_name (by decide)) (fun _ _ _ _ _ => d_callG (k__law_take T) (go.room.mono (by decide)) go.gd takes_none5 (da_cons (d_var 2) (da_cons (d_int) (da_nil)))) (by rfl))
    (ds_cons (s_if (dt_w (dw_or (dt_not (dt_val (d_all rfl (m_all T) (d_frz (d_lc [("bit", 8)] (gName 8) rfl sc_law.nd (di_seq (d_var 7)) (by rfl) (fun _ _ _ _ _ => pg_name (i := 8) sc_law.nd rfl (by first | exact Or.inl rfl | exact Or.inr rfl) (by first | exact .inl rfl | exact .inr rfl)) (simg_nm) (only_name (by decide)) (fun _ _ _ _ _ => d_callG (k__law_is_truth T) (go.room.mono (by decide)) go.gd takes_none5 (da_cons (d_var 8) (da_nil)))))))) (dw_or1 (dt_ne T.sys go.room (d_frz (d_callG (k_bits_of T) (go.room.mono (by decide)) go.gd takes_cx (da_cons (d_len (m_len T) (d_var 7)) (da_cons (d_callG (k_of_bits T) (go.room.mono (by decide)) go.gd takes_cx (da_cons (d_var 7) (da_nil))) (da_nil))))) (d_var 7))))) (ds_one (s_ret (d_bl))) (ds_nil))
    (ds_one (s_for PassesOwn.leaving rfl (di_rg (m_range T) (d_int)) (g_name 9 sc_law.nd) (ds_one (s_if (dt_not (dt_val (d_callG (k__law_refused_right T) (go.room.mono (by decide)) go.gd takes_cx (da_cons (d_var 2) (da_cons (d_var 3) (da_nil)))))) (ds_one (s_ret (d_bl))) (ds_nil)))))))))))
    (ds_one (s_ret (d_bl)))
end L02
set_option maxHeartbeats 4000001
namespace L02
open PySem PySem.Spec
open PyProof.Rows L2 DL
variable {K : PySem.W.Frag} {M : Mem} {P : QD} {Z : XD}
theorem s_purse {c : Int} (q : ∀ a M', M a = none → Pu M' a 0 → But a M M' → P (.ref a) M') : F__law_purse K [.int c] M P Z := by
  show f__law_purse K _ [some (.int c)] M
  unfold f__law_purse
  simp only [n_seq, n_next, n_sif, n_ret, n_retN, n_asg, n_drop, n_raise, n_for, n_try, n_nm, n_var0, n_varS, n_c, n_op, n_cb, n_nil, n_cons, n_tup, n_lstF, n_lst, n_val, n_notT, n_andT, n_orT, n_and, n_or, n_not, n_dif, n_chain, n_neg, n_dct0, n_call, n_callK, n_frzV, n_frzC, n_frzK, n_frzL, n_app, n_pop, n_sub, n_lc, n_iRg, n_iSq, n_iEn, n_bl, n_int, n_ref, n_gI, n_gI0, n_ixL, n_ixT, n_ixP, n_lenL, n_lenT, n_isi, n_dIsi2, n_sqL, n_sqT, n_latP, n_tupL, n_tupT, n_sqP, n_in, n_unrt, n_fld, n_wipe1, n_wipe2, n_gtup2, max2_is, min2_is, selT, selF, decide_true, decide_false, at10, at20, at21, at30, at31, at32, at40, at41, at42, at43, ix30, ix31, ix32, mput_same, mput_mput, dOne, oAdd, oSub, oMul, oDiv, oMod, oPow, oShl, oShr, oAnd, oOr, oXor, oLt, oLe, oGt, oGe, Nat.reduceAdd, Option.some.injEq, exists_eq_left', true_and, and_true, List.set_cons_zero, List.set_cons_succ, List.length_cons, List.length_nil]
  refine ⟨⟨by decide, by decide, by decide⟩, by decide, by decide, fun a ha => q a _ ha ⟨_, _, _, mput_same, ?_, Int.emod_nonneg _ (by decide), Int.emod_lt_of_pos _ (by decide), by decide, by decide⟩ But.put⟩
  split <;> omega
theorem s_cell {ns : List Int} {k : Int} (hk : 0 ≤ k) (hz : k < 2 ^ 62) (q : ∀ c, P (.int c) M) : F__law_cell K [.lst (ns.map D.int), .int k] M P Z := by
  show f__law_cell K _ [some (.lst (ns.map D.int)), some (.int k)] M
  unfold f__law_cell
  simp only [n_seq, n_next, n_sif, n_ret, n_retN, n_asg, n_drop, n_raise, n_for, n_try, n_nm, n_var0, n_varS, n_c, n_op, n_cb, n_nil, n_cons, n_tup, n_lstF, n_lst, n_val, n_notT, n_andT, n_orT, n_and, n_or, n_not, n_dif, n_chain, n_neg, n_dct0, n_call, n_callK, n_frzV, n_frzC, n_frzK, n_frzL, n_app, n_pop, n_sub, n_lc, n_iRg, n_iSq, n_iEn, n_bl, n_int, n_ref, n_gI, n_gI0, n_ixL, n_ixT, n_ixP, n_lenL, n_lenT, n_isi, n_dIsi2, n_sqL, n_sqT, n_latP, n_tupL, n_tupT, n_sqP, n_in, n_unrt, n_fld, n_wipe1, n_wipe2, n_gtup2, max2_is, min2_is, selT, selF, decide_true, decide_false, at10, at20, at21, at30, at31, at32, at40, at41, at42, at43, ix30, ix31, ix32, mput_same, mput_mput, dOne, oAdd, oSub, oMul, oDiv, oMod, oPow, oShl, oShr, oAnd, oOr, oXor, oLt, oLe, oGt, oGe, Nat.reduceAdd, Option.some.injEq, exists_eq_left', true_and, and_true, List.set_cons_zero, List.set_cons_succ, List.length_cons, List.length_nil]
  refine by2 (fun h => ?_) fun h => ?_
  · have h := of_decide_eq_true h
    obtain ⟨d, e1, e2⟩ := at_int hk h
    rw [List.getElem?_map] at e2
    obtain ⟨i, _, rfl⟩ := Option.map_eq_some_iff.mp e2
    exact ⟨_, e1, q i⟩
  · exact ⟨.inl ⟨by decide, by decide⟩, q _⟩
theorem s_take {a : Addr} {many n : Int} (hp : Pu M a n) (hn : n ≤ 1000000) (h0 : 0 < many) (h1 : many < 1000000) (q : ∀ d M', 0 ≤ d → d < many → Pu M' a (n + 1) → But a M M' → P (.int d) M') : F__law_take K [.ref a, .int many] M P Z := by
  obtain ⟨x, y, z, e, x0, y0, y1, z0, z1⟩ := hp
  show f__law_take K _ [some (.ref a), some (.int many), none, none, none] M
  unfold f__law_take
  simp only [n_seq, n_next, n_sif, n_ret, n_retN, n_asg, n_drop, n_raise, n_for, n_try, n_nm, n_var0, n_varS, n_c, n_op, n_cb, n_nil, n_cons, n_tup, n_lstF, n_lst, n_val, n_notT, n_andT, n_orT, n_and, n_or, n_not, n_dif, n_chain, n_neg, n_dct0, n_call, n_callK, n_frzV, n_frzC, n_frzK, n_frzL, n_app, n_pop, n_sub, n_lc, n_iRg, n_iSq, n_iEn, n_bl, n_int, n_ref, n_gI, n_gI0, n_ixL, n_ixT, n_ixP, n_lenL, n_lenT, n_isi, n_dIsi2, n_sqL, n_sqT, n_latP, n_tupL, n_tupT, n_sqP, n_in, n_unrt, n_fld, n_wipe1, n_wipe2, n_gtup2, max2_is, min2_is, selT, selF, decide_true, decide_false, at10, at20, at21, at30, at31, at32, at40, at41, at42, at43, ix30, ix31, ix32, mput_same, mput_mput, dOne, oAdd, oSub, oMul, oDiv, oMod, oPow, oShl, oShr, oAnd, oOr, oXor, oLt, oLe, oGt, oGe, Nat.reduceAdd, Option.some.injEq, exists_eq_left', true_and, and_true, List.set_cons_zero, List.set_cons_succ, List.length_cons, List.length_nil, n_ixR e, n_lat e]
  refine by2 (fun h => ⟨h0, ⟨h0, by omega⟩, ?_⟩) fun h => ?_
  · refine q _ _ (Int.emod_nonneg _ (by omega)) (Int.emod_lt_of_pos _ h0) ⟨_, y, z, mput_same, Int.ediv_nonneg x0 (by omega), y0, y1, z0, by omega⟩ But.put
  · have b1 : 0 ≤ y * (z + 1) := Int.mul_nonneg y0 (by omega)
    have b2 : y * (z + 1) < 2147483629 * 1000002 := Int.lt_of_lt_of_le (Int.mul_lt_mul_of_pos_right y1 (by omega)) (Int.mul_le_mul_of_nonneg_left (by omega) (by decide))
    have b3 : ∀ k : Int, 0 < k → ∀ u : Int, 0 ≤ u % k ∧ u % k < k := fun k hk u => ⟨Int.emod_nonneg _ (by omega), Int.emod_lt_of_pos _ hk⟩
    have b4 := b3 2147483647 (by decide) ((y + 6007 * (z + 1) + 29) ^ Int.toNat 5)
    refine ⟨.inl ⟨by decide, by decide⟩, ⟨by decide, by decide, by omega⟩, by decide, .inl ⟨by omega, by omega⟩, ⟨by decide, by decide, by omega⟩, by decide, .inl ⟨by omega, by omega⟩, ⟨by decide, by decide⟩, h0, ?_⟩
    exact q _ _ (b3 _ h0 _).1 (b3 _ h0 _).2 ⟨_, _, _, mput_same, x0, y0, y1, by omega, by omega⟩ But.put

theorem s_whole {d : D} {t : String} {lo hi : Int} (h : tyD M d = some t) (q : P (.bl (wholeD d lo hi)) M) : F_is_whole K [d, .int lo, .int hi] M P Z := by
  show f_is_whole K _ [some d, some (.int lo), some (.int hi)] M
  unfold f_is_whole
  simp only [n_seq, n_next, n_sif, n_ret, n_retN, n_asg, n_drop, n_raise, n_for, n_try, n_nm, n_var0, n_varS, n_c, n_op, n_cb, n_nil, n_cons, n_tup, n_lstF, n_lst, n_val, n_notT, n_andT, n_orT, n_and, n_or, n_not, n_dif, n_chain, n_neg, n_dct0, n_call, n_callK, n_frzV, n_frzC, n_frzK, n_frzL, n_app, n_pop, n_sub, n_lc, n_iRg, n_iSq, n_iEn, n_bl, n_int, n_ref, n_gI, n_gI0, n_ixL, n_ixT, n_ixP, n_lenL, n_lenT, n_isi, n_dIsi2, n_sqL, n_sqT, n_latP, n_tupL, n_tupT, n_sqP, n_in, n_unrt, n_fld, n_wipe1, n_wipe2, n_gtup2, max2_is, min2_is, selT, selF, decide_true, decide_false, at10, at20, at21, at30, at31, at32, at40, at41, at42, at43, ix30, ix31, ix32, mput_same, mput_mput, dOne, oAdd, oSub, oMul, oDiv, oMod, oPow, oShl, oShr, oAnd, oOr, oXor, oLt, oLe, oGt, oGe, Nat.reduceAdd, Option.some.injEq, exists_eq_left', true_and, and_true, List.set_cons_zero, List.set_cons_succ, List.length_cons, List.length_nil, h]
  have c1 : tyNs.contains "int" = true := by decide
  have c2 : tyNs.contains "bool" = true := by decide
  refine ⟨c1, ?_⟩
  by_cases e1 : t = "int"
  · subst e1
    obtain ⟨i, rfl⟩ := tyD_int h
    refine byT (by decide) ⟨c2, byT (by decide) ?_⟩
    simp only [n_seq, n_next, n_sif, n_ret, n_retN, n_asg, n_drop, n_raise, n_for, n_try, n_nm, n_var0, n_varS, n_c, n_op, n_cb, n_nil, n_cons, n_tup, n_lstF, n_lst, n_val, n_notT, n_andT, n_orT, n_and, n_or, n_not, n_dif, n_chain, n_neg, n_dct0, n_call, n_callK, n_frzV, n_frzC, n_frzK, n_frzL, n_app, n_pop, n_sub, n_lc, n_iRg, n_iSq, n_iEn, n_bl, n_int, n_ref, n_gI, n_gI0, n_ixL, n_ixT, n_ixP, n_lenL, n_lenT, n_isi, n_dIsi2, n_sqL, n_sqT, n_latP, n_tupL, n_tupT, n_sqP, n_in, n_unrt, n_fld, n_wipe1, n_wipe2, n_gtup2, max2_is, min2_is, selT, selF, decide_true, decide_false, at10, at20, at21, at30, at31, at32, at40, at41, at42, at43, ix30, ix31, ix32, mput_same, mput_mput, dOne, oAdd, oSub, oMul, oDiv, oMod, oPow, oShl, oShr, oAnd, oOr, oXor, oLt, oLe, oGt, oGe, Nat.reduceAdd, Option.some.injEq, exists_eq_left', true_and, and_true, List.set_cons_zero, List.set_cons_succ, List.length_cons, List.length_nil]
    refine by2 (fun h1 => ?_) fun h1 => ?_
    · simpa [wholeD, h1] using q
    · simpa [wholeD, h1] using q
  · by_cases e2 : t = "bool"
    · subst e2
      obtain ⟨i, rfl⟩ := tyD_bool h
      exact byT (by decide) ⟨c2, byF (by decide) q⟩
    · have e3 : isiB t "int" = false := by simp [isiB, e1, e2]
      have e4 : wholeD d lo hi = false := by
        unfold wholeD
        split
        · cases h
          exact absurd rfl e1
        · rfl
      rw [e4] at q
      exact byF e3 q
theorem s_width {d : D} {t : String} (h : tyD M d = some t) (q : P (.bl (wholeD d 1 8)) M) : F_is_width K [d] M P Z := by
  show f_is_width K _ [some d] M
  unfold f_is_width
  have hw := @s_whole K
  generalize F_is_whole K = Fw at hw ⊢
  simp only [n_seq, n_next, n_sif, n_ret, n_retN, n_asg, n_drop, n_raise, n_for, n_try, n_nm, n_var0, n_varS, n_c, n_op, n_cb, n_nil, n_cons, n_tup, n_lstF, n_lst, n_val, n_notT, n_andT, n_orT, n_and, n_or, n_not, n_dif, n_chain, n_neg, n_dct0, n_call, n_callK, n_frzV, n_frzC, n_frzK, n_frzL, n_app, n_pop, n_sub, n_lc, n_iRg, n_iSq, n_iEn, n_bl, n_int, n_ref, n_gI, n_gI0, n_ixL, n_ixT, n_ixP, n_lenL, n_lenT, n_isi, n_dIsi2, n_sqL, n_sqT, n_latP, n_tupL, n_tupT, n_sqP, n_in, n_unrt, n_fld, n_wipe1, n_wipe2, n_gtup2, max2_is, min2_is, selT, selF, decide_true, decide_false, at10, at20, at21, at30, at31, at32, at40, at41, at42, at43, ix30, ix31, ix32, mput_same, mput_mput, dOne, oAdd, oSub, oMul, oDiv, oMod, oPow, oShl, oShr, oAnd, oOr, oXor, oLt, oLe, oGt, oGe, Nat.reduceAdd, Option.some.injEq, exists_eq_left', true_and, and_true, List.set_cons_zero, List.set_cons_succ, List.length_cons, List.length_nil]
  exact hw h q
theorem s_truth {d : D} {t : String} (h : tyD M d = some t) (q : P (.bl (wholeD d 0 1)) M) : F_is_truth K [d] M P Z := by
  show f_is_truth K _ [some d] M
  unfold f_is_truth
  have hw := @s_whole K
  generalize F_is_whole K = Fw at hw ⊢
  simp only [n_seq, n_next, n_sif, n_ret, n_retN, n_asg, n_drop, n_raise, n_for, n_try, n_nm, n_var0, n_varS, n_c, n_op, n_cb, n_nil, n_cons, n_tup, n_lstF, n_lst, n_val, n_notT, n_andT, n_orT, n_and, n_or, n_not, n_dif, n_chain, n_neg, n_dct0, n_call, n_callK, n_frzV, n_frzC, n_frzK, n_frzL, n_app, n_pop, n_sub, n_lc, n_iRg, n_iSq, n_iEn, n_bl, n_int, n_ref, n_gI, n_gI0, n_ixL, n_ixT, n_ixP, n_lenL, n_lenT, n_isi, n_dIsi2, n_sqL, n_sqT, n_latP, n_tupL, n_tupT, n_sqP, n_in, n_unrt, n_fld, n_wipe1, n_wipe2, n_gtup2, max2_is, min2_is, selT, selF, decide_true, decide_false, at10, at20, at21, at30, at31, at32, at40, at41, at42, at43, ix30, ix31, ix32, mput_same, mput_mput, dOne, oAdd, oSub, oMul, oDiv, oMod, oPow, oShl, oShr, oAnd, oOr, oXor, oLt, oLe, oGt, oGe, Nat.reduceAdd, Option.some.injEq, exists_eq_left', true_and, and_true, List.set_cons_zero, List.set_cons_succ, List.length_cons, List.length_nil]
  exact hw h q
theorem s_kind {n : Int} (q : P (.bl (decide (1 ≤ n) && decide (n ≤ 8))) M) : F_is_kind K [.int n] M P Z := by
  show f_is_kind K _ [some (.int n)] M
  unfold f_is_kind
  have hw := @s_width K
  generalize F_is_width K = Fw at hw ⊢
  generalize F_is_whole K = Fx
  simp only [n_seq, n_next, n_sif, n_ret, n_retN, n_asg, n_drop, n_raise, n_for, n_try, n_nm, n_var0, n_varS, n_c, n_op, n_cb, n_nil, n_cons, n_tup, n_lstF, n_lst, n_val, n_notT, n_andT, n_orT, n_and, n_or, n_not, n_dif, n_chain, n_neg, n_dct0, n_call, n_callK, n_frzV, n_frzC, n_frzK, n_frzL, n_app, n_pop, n_sub, n_lc, n_iRg, n_iSq, n_iEn, n_bl, n_int, n_ref, n_gI, n_gI0, n_ixL, n_ixT, n_ixP, n_lenL, n_lenT, n_isi, n_dIsi2, n_sqL, n_sqT, n_latP, n_tupL, n_tupT, n_sqP, n_in, n_unrt, n_fld, n_wipe1, n_wipe2, n_gtup2, max2_is, min2_is, selT, selF, decide_true, decide_false, at10, at20, at21, at30, at31, at32, at40, at41, at42, at43, ix30, ix31, ix32, mput_same, mput_mput, dOne, oAdd, oSub, oMul, oDiv, oMod, oPow, oShl, oShr, oAnd, oOr, oXor, oLt, oLe, oGt, oGe, Nat.reduceAdd, Option.some.injEq, exists_eq_left', true_and, and_true, List.set_cons_zero, List.set_cons_succ, List.length_cons, List.length_nil, tyD]
  exact ⟨by decide, byT (by decide) (hw (t := "int") rfl q)⟩
theorem s_worth {d : D} {t : String} {n : Int} (h : tyD M d = some t) (h1 : 1 ≤ n) (h8 : n ≤ 8) (q : P (.bl (wholeD d 0 (2 ^ n.toNat - 1))) M) : F_is_worth K [d, .int n] M P Z := by
  show f_is_worth K _ [some d, some (.int n), none, none, none] M
  unfold f_is_worth
  have hk := @s_kind K
  have hw := @s_whole K
  generalize F_is_kind K = Fk at hk ⊢
  generalize F_is_whole K = Fw at hw ⊢
  simp only [n_seq, n_next, n_sif, n_ret, n_retN, n_asg, n_drop, n_raise, n_for, n_try, n_nm, n_var0, n_varS, n_c, n_op, n_cb, n_nil, n_cons, n_tup, n_lstF, n_lst, n_val, n_notT, n_andT, n_orT, n_and, n_or, n_not, n_dif, n_chain, n_neg, n_dct0, n_call, n_callK, n_frzV, n_frzC, n_frzK, n_frzL, n_app, n_pop, n_sub, n_lc, n_iRg, n_iSq, n_iEn, n_bl, n_int, n_ref, n_gI, n_gI0, n_ixL, n_ixT, n_ixP, n_lenL, n_lenT, n_isi, n_dIsi2, n_sqL, n_sqT, n_latP, n_tupL, n_tupT, n_sqP, n_in, n_unrt, n_fld, n_wipe1, n_wipe2, n_gtup2, max2_is, min2_is, selT, selF, decide_true, decide_false, at10, at20, at21, at30, at31, at32, at40, at41, at42, at43, ix30, ix31, ix32, mput_same, mput_mput, dOne, oAdd, oSub, oMul, oDiv, oMod, oPow, oShl, oShr, oAnd, oOr, oXor, oLt, oLe, oGt, oGe, Nat.reduceAdd, Option.some.injEq, exists_eq_left', true_and, and_true, List.set_cons_zero, List.set_cons_succ, List.length_cons, List.length_nil, tyD]
  refine hk ?_
  simp only [n_seq, n_next, n_sif, n_ret, n_retN, n_asg, n_drop, n_raise, n_for, n_try, n_nm, n_var0, n_varS, n_c, n_op, n_cb, n_nil, n_cons, n_tup, n_lstF, n_lst, n_val, n_notT, n_andT, n_orT, n_and, n_or, n_not, n_dif, n_chain, n_neg, n_dct0, n_call, n_callK, n_frzV, n_frzC, n_frzK, n_frzL, n_app, n_pop, n_sub, n_lc, n_iRg, n_iSq, n_iEn, n_bl, n_int, n_ref, n_gI, n_gI0, n_ixL, n_ixT, n_ixP, n_lenL, n_lenT, n_isi, n_dIsi2, n_sqL, n_sqT, n_latP, n_tupL, n_tupT, n_sqP, n_in, n_unrt, n_fld, n_wipe1, n_wipe2, n_gtup2, max2_is, min2_is, selT, selF, decide_true, decide_false, at10, at20, at21, at30, at31, at32, at40, at41, at42, at43, ix30, ix31, ix32, mput_same, mput_mput, dOne, oAdd, oSub, oMul, oDiv, oMod, oPow, oShl, oShr, oAnd, oOr, oXor, oLt, oLe, oGt, oGe, Nat.reduceAdd, Option.some.injEq, exists_eq_left', true_and, and_true, List.set_cons_zero, List.set_cons_succ, List.length_cons, List.length_nil, decide_eq_true h1, decide_eq_true h8, Bool.and_self, Bool.not_true]
  refine ⟨by decide, byT (by decide) ⟨⟨by omega, by omega, by decide⟩, hw h ?_⟩⟩
  rw [Int.one_mul]
  exact q
end L02
set_option maxHeartbeats 4000001
namespace L02
open PySem PySem.Spec
open PyProof.Rows L2 DL
variable {K : PySem.W.Frag} {M : Mem} {P : QD} {Z : XD}
def bitsI (n : Nat) (m : Int) : List Int := (List.range n).map fun k => m / 2 ^ k % 2
theorem bitsI_length (n : Nat) (m : Int) : (bitsI n m).length = n := by simp [bitsI]
theorem bitsI_succ (n : Nat) (m : Int) : bitsI (n + 1) m = bitsI n m ++ [m / 2 ^ n % 2] := by simp [bitsI, List.range_succ]
theorem rangeD_length (n : Int) : (rangeD n).length = n.toNat := by simp [rangeD]
theorem rangeD_mem {n : Int} {d : D} (h : d ∈ rangeD n) : ∃ i : Nat, d = .int i ∧ (i : Int) < n := by
  unfold rangeD at h
  obtain ⟨i, h1, rfl⟩ := List.mem_map.mp h
  exact ⟨i, rfl, by have := List.mem_range.mp h1; omega⟩
theorem rangeD_get {n : Int} {i : Nat} {d : D} (h : (rangeD n)[i]? = some d) : d = .int i ∧ (i : Int) < n := by
  have hl : i < n.toNat := by
    rcases Nat.lt_or_ge i n.toNat with z | z
    · exact z
    · rw [List.getElem?_eq_none (by rw [rangeD_length]; exact z)] at h
      cases h
  unfold rangeD at h
  rw [List.getElem?_map, List.getElem?_range hl] at h
  cases h
  exact ⟨rfl, by omega⟩
def vBit (m : Int) (d : D) : D := match d with
  | .v (.int k) => .int (m / 2 ^ k.toNat % 2)
  | _ => .non
theorem s_bits {n m : Int} (h1 : 1 ≤ n) (h8 : n ≤ 8) (m0 : 0 ≤ m) (m1 : m < 2 ^ n.toNat) (q : ∀ a, M a = none → P (.ref a) (mput M a (.lst ((bitsI n.toNat m).map D.int)))) : F_bits_of K [.int n, .int m] M P Z := by
  show f_bits_of K _ [some (.int n), some (.int m), none] M
  unfold f_bits_of
  simp only [n_seq, n_next, n_sif, n_ret, n_retN, n_asg, n_drop, n_raise, n_for, n_try, n_nm, n_var0, n_varS, n_c, n_op, n_cb, n_nil, n_cons, n_tup, n_lstF, n_lst, n_val, n_notT, n_andT, n_orT, n_and, n_or, n_not, n_dif, n_chain, n_neg, n_dct0, n_call, n_callK, n_frzV, n_frzC, n_frzK, n_frzL, n_app, n_pop, n_sub, n_lc, n_iRg, n_iSq, n_iEn, n_bl, n_int, n_ref, n_gI, n_gI0, n_ixL, n_ixT, n_ixP, n_lenL, n_lenT, n_isi, n_dIsi2, n_sqL, n_sqT, n_latP, n_tupL, n_tupT, n_sqP, n_in, n_unrt, n_fld, n_wipe1, n_wipe2, n_gtup2, max2_is, min2_is, selT, selF, decide_true, decide_false, at10, at20, at21, at30, at31, at32, at40, at41, at42, at43, ix30, ix31, ix32, mput_same, mput_mput, dOne, oAdd, oSub, oMul, oDiv, oMod, oPow, oShl, oShr, oAnd, oOr, oXor, oLt, oLe, oGt, oGe, Nat.reduceAdd, Option.some.injEq, exists_eq_left', true_and, and_true, List.set_cons_zero, List.set_cons_succ, List.length_cons, List.length_nil]
  have e1 : wholeD (.int n) 1 8 = true := by simp [wholeD, h1, h8]
  have e2 : wholeD (.int m) 0 (2 ^ n.toNat - 1) = true := by
    simp only [wholeD, Bool.and_eq_true, decide_eq_true_eq]
    omega
  refine s_width (t := "int") rfl ?_
  simp only [n_seq, n_next, n_sif, n_ret, n_retN, n_asg, n_drop, n_raise, n_for, n_try, n_nm, n_var0, n_varS, n_c, n_op, n_cb, n_nil, n_cons, n_tup, n_lstF, n_lst, n_val, n_notT, n_andT, n_orT, n_and, n_or, n_not, n_dif, n_chain, n_neg, n_dct0, n_call, n_callK, n_frzV, n_frzC, n_frzK, n_frzL, n_app, n_pop, n_sub, n_lc, n_iRg, n_iSq, n_iEn, n_bl, n_int, n_ref, n_gI, n_gI0, n_ixL, n_ixT, n_ixP, n_lenL, n_lenT, n_isi, n_dIsi2, n_sqL, n_sqT, n_latP, n_tupL, n_tupT, n_sqP, n_in, n_unrt, n_fld, n_wipe1, n_wipe2, n_gtup2, max2_is, min2_is, selT, selF, decide_true, decide_false, at10, at20, at21, at30, at31, at32, at40, at41, at42, at43, ix30, ix31, ix32, mput_same, mput_mput, dOne, oAdd, oSub, oMul, oDiv, oMod, oPow, oShl, oShr, oAnd, oOr, oXor, oLt, oLe, oGt, oGe, Nat.reduceAdd, Option.some.injEq, exists_eq_left', true_and, and_true, List.set_cons_zero, List.set_cons_succ, List.length_cons, List.length_nil, e1, Bool.not_true]
  refine s_worth (t := "int") rfl h1 h8 ?_
  simp only [n_seq, n_next, n_sif, n_ret, n_retN, n_asg, n_drop, n_raise, n_for, n_try, n_nm, n_var0, n_varS, n_c, n_op, n_cb, n_nil, n_cons, n_tup, n_lstF, n_lst, n_val, n_notT, n_andT, n_orT, n_and, n_or, n_not, n_dif, n_chain, n_neg, n_dct0, n_call, n_callK, n_frzV, n_frzC, n_frzK, n_frzL, n_app, n_pop, n_sub, n_lc, n_iRg, n_iSq, n_iEn, n_bl, n_int, n_ref, n_gI, n_gI0, n_ixL, n_ixT, n_ixP, n_lenL, n_lenT, n_isi, n_dIsi2, n_sqL, n_sqT, n_latP, n_tupL, n_tupT, n_sqP, n_in, n_unrt, n_fld, n_wipe1, n_wipe2, n_gtup2, max2_is, min2_is, selT, selF, decide_true, decide_false, at10, at20, at21, at30, at31, at32, at40, at41, at42, at43, ix30, ix31, ix32, mput_same, mput_mput, dOne, oAdd, oSub, oMul, oDiv, oMod, oPow, oShl, oShr, oAnd, oOr, oXor, oLt, oLe, oGt, oGe, Nat.reduceAdd, Option.some.injEq, exists_eq_left', true_and, and_true, List.set_cons_zero, List.set_cons_succ, List.length_cons, List.length_nil, e2, Bool.not_true]
  refine ⟨⟨by omega, by omega⟩, comp_mem (vBit m) (fun _ _ _ => True.intro) (by rw [rangeD_length]; omega) (fun d a l R hd ha r => ?_) fun a ha => ?_⟩
  · obtain ⟨i, rfl, hi⟩ := rangeD_mem hd
    simp only [n_seq, n_next, n_sif, n_ret, n_retN, n_asg, n_drop, n_raise, n_for, n_try, n_nm, n_var0, n_varS, n_c, n_op, n_cb, n_nil, n_cons, n_tup, n_lstF, n_lst, n_val, n_notT, n_andT, n_orT, n_and, n_or, n_not, n_dif, n_chain, n_neg, n_dct0, n_call, n_callK, n_frzV, n_frzC, n_frzK, n_frzL, n_app, n_pop, n_sub, n_lc, n_iRg, n_iSq, n_iEn, n_bl, n_int, n_ref, n_gI, n_gI0, n_ixL, n_ixT, n_ixP, n_lenL, n_lenT, n_isi, n_dIsi2, n_sqL, n_sqT, n_latP, n_tupL, n_tupT, n_sqP, n_in, n_unrt, n_fld, n_wipe1, n_wipe2, n_gtup2, max2_is, min2_is, selT, selF, decide_true, decide_false, at10, at20, at21, at30, at31, at32, at40, at41, at42, at43, ix30, ix31, ix32, mput_same, mput_mput, dOne, oAdd, oSub, oMul, oDiv, oMod, oPow, oShl, oShr, oAnd, oOr, oXor, oLt, oLe, oGt, oGe, Nat.reduceAdd, Option.some.injEq, exists_eq_left', true_and, and_true, List.set_cons_zero, List.set_cons_succ, List.length_cons, List.length_nil]
    refine ⟨by omega, ?_⟩
    rw [bitAnd_m1]
    exact r
  · have e : (rangeD n).map (vBit m) = (bitsI n.toNat m).map D.int := by
      unfold rangeD bitsI
      rw [(List.map_map), List.map_map]
      exact List.map_congr_left fun i _ => rfl
    rw [e]
    exact q a ha
theorem s_lbits {n m : Int} (h1 : 0 ≤ n) (h8 : n ≤ 1000) (q : P (.lst ((bitsI n.toNat m).map D.int)) M) : F__law_bits K [.int n, .int m] M P Z := by
  show f__law_bits K _ [some (.int n), some (.int m), none, none] M
  unfold f__law_bits
  simp only [n_seq, n_next, n_sif, n_ret, n_retN, n_asg, n_drop, n_raise, n_for, n_try, n_nm, n_var0, n_varS, n_c, n_op, n_cb, n_nil, n_cons, n_tup, n_lstF, n_lst, n_val, n_notT, n_andT, n_orT, n_and, n_or, n_not, n_dif, n_chain, n_neg, n_dct0, n_call, n_callK, n_frzV, n_frzC, n_frzK, n_frzL, n_app, n_pop, n_sub, n_lc, n_iRg, n_iSq, n_iEn, n_bl, n_int, n_ref, n_gI, n_gI0, n_ixL, n_ixT, n_ixP, n_lenL, n_lenT, n_isi, n_dIsi2, n_sqL, n_sqT, n_latP, n_tupL, n_tupT, n_sqP, n_in, n_unrt, n_fld, n_wipe1, n_wipe2, n_gtup2, max2_is, min2_is, selT, selF, decide_true, decide_false, at10, at20, at21, at30, at31, at32, at40, at41, at42, at43, ix30, ix31, ix32, mput_same, mput_mput, dOne, oAdd, oSub, oMul, oDiv, oMod, oPow, oShl, oShr, oAnd, oOr, oXor, oLt, oLe, oGt, oGe, Nat.reduceAdd, Option.some.injEq, exists_eq_left', true_and, and_true, List.set_cons_zero, List.set_cons_succ, List.length_cons, List.length_nil]
  refine ⟨by decide, fun a ha => ⟨⟨by omega, by omega⟩, ?_⟩⟩
  refine forL_inv (fun i env M' => ∃ x, env = [some (.int n), some (.int (m / 2 ^ i)), some (.ref a), x] ∧ M' = mput M a (.lst ((bitsI i m).map D.int))) (fun _ _ _ _ => True.intro) ?_ ⟨none, by simp, by simp [bitsI]⟩ ?_
  · rintro i d env M' R hd ⟨x, rfl, rfl⟩ k
    obtain ⟨rfl, hi⟩ := rangeD_get hd
    simp only [n_seq, n_next, n_sif, n_ret, n_retN, n_asg, n_drop, n_raise, n_for, n_try, n_nm, n_var0, n_varS, n_c, n_op, n_cb, n_nil, n_cons, n_tup, n_lstF, n_lst, n_val, n_notT, n_andT, n_orT, n_and, n_or, n_not, n_dif, n_chain, n_neg, n_dct0, n_call, n_callK, n_frzV, n_frzC, n_frzK, n_frzL, n_app, n_pop, n_sub, n_lc, n_iRg, n_iSq, n_iEn, n_bl, n_int, n_ref, n_gI, n_gI0, n_ixL, n_ixT, n_ixP, n_lenL, n_lenT, n_isi, n_dIsi2, n_sqL, n_sqT, n_latP, n_tupL, n_tupT, n_sqP, n_in, n_unrt, n_fld, n_wipe1, n_wipe2, n_gtup2, max2_is, min2_is, selT, selF, decide_true, decide_false, at10, at20, at21, at30, at31, at32, at40, at41, at42, at43, ix30, ix31, ix32, mput_same, mput_mput, dOne, oAdd, oSub, oMul, oDiv, oMod, oPow, oShl, oShr, oAnd, oOr, oXor, oLt, oLe, oGt, oGe, Nat.reduceAdd, Option.some.injEq, exists_eq_left', true_and, and_true, List.set_cons_zero, List.set_cons_succ, List.length_cons, List.length_nil]
    refine ⟨by decide, by rw [List.length_map, bitsI_length]; omega, ⟨by decide, by decide⟩, k _ _ ⟨some (.int i), ?_, ?_⟩⟩
    · rw [Int.pow_succ, Int.ediv_ediv_of_nonneg (Int.pow_nonneg (by decide))]
    · rw [bitsI_succ, List.map_append]
      rfl
  · rintro env M' ⟨x, rfl, rfl⟩
    simp only [n_seq, n_next, n_sif, n_ret, n_retN, n_asg, n_drop, n_raise, n_for, n_try, n_nm, n_var0, n_varS, n_c, n_op, n_cb, n_nil, n_cons, n_tup, n_lstF, n_lst, n_val, n_notT, n_andT, n_orT, n_and, n_or, n_not, n_dif, n_chain, n_neg, n_dct0, n_call, n_callK, n_frzV, n_frzC, n_frzK, n_frzL, n_app, n_pop, n_sub, n_lc, n_iRg, n_iSq, n_iEn, n_bl, n_int, n_ref, n_gI, n_gI0, n_ixL, n_ixT, n_ixP, n_lenL, n_lenT, n_isi, n_dIsi2, n_sqL, n_sqT, n_latP, n_tupL, n_tupT, n_sqP, n_in, n_unrt, n_fld, n_wipe1, n_wipe2, n_gtup2, max2_is, min2_is, selT, selF, decide_true, decide_false, at10, at20, at21, at30, at31, at32, at40, at41, at42, at43, ix30, ix31, ix32, mput_same, mput_mput, dOne, oAdd, oSub, oMul, oDiv, oMod, oPow, oShl, oShr, oAnd, oOr, oXor, oLt, oLe, oGt, oGe, Nat.reduceAdd, Option.some.injEq, exists_eq_left', true_and, and_true, List.set_cons_zero, List.set_cons_succ, List.length_cons, List.length_nil]
    rw [rangeD_length, mdel_mput ha]
    exact q

/-! of_bits -/
theorem s_lis_truth {x : Int} (q : P (.bl (decide (x = 0 ∨ x = 1))) M) : F__law_is_truth K [.int x] M P Z := by
  show f__law_is_truth K _ [some (.int x)] M
  unfold f__law_is_truth
  simp only [n_seq, n_next, n_sif, n_ret, n_retN, n_asg, n_drop, n_raise, n_for, n_try, n_nm, n_var0, n_varS, n_c, n_op, n_cb, n_nil, n_cons, n_tup, n_lstF, n_lst, n_val, n_notT, n_andT, n_orT, n_and, n_or, n_not, n_dif, n_chain, n_neg, n_dct0, n_call, n_callK, n_frzV, n_frzC, n_frzK, n_frzL, n_app, n_pop, n_sub, n_lc, n_iRg, n_iSq, n_iEn, n_bl, n_int, n_ref, n_gI, n_gI0, n_ixL, n_ixT, n_ixP, n_lenL, n_lenT, n_isi, n_dIsi2, n_sqL, n_sqT, n_latP, n_tupL, n_tupT, n_sqP, n_in, n_unrt, n_fld, n_wipe1, n_wipe2, n_gtup2, max2_is, min2_is, selT, selF, decide_true, decide_false, at10, at20, at21, at30, at31, at32, at40, at41, at42, at43, ix30, ix31, ix32, mput_same, mput_mput, dOne, oAdd, oSub, oMul, oDiv, oMod, oPow, oShl, oShr, oAnd, oOr, oXor, oLt, oLe, oGt, oGe, Nat.reduceAdd, Option.some.injEq, exists_eq_left', true_and, and_true, List.set_cons_zero, List.set_cons_succ, List.length_cons, List.length_nil, tyD]
  refine ⟨by decide, byT (by decide) ⟨by decide, byT (by decide) ⟨by decide, .int x, [.int 0, .int 1], false, rfl, rfl, rfl, rfl, ?_⟩⟩⟩
  have e : inV (.int x) [.int 0, .int 1] = decide (x = 0 ∨ x = 1) := by
    rw [Bool.eq_iff_iff]
    simp [inV, eqV]
    omega
  simpa [e] using q
def okBits : PyData → Bool
  | .list ps => decide (1 ≤ ps.length) && decide (ps.length ≤ 8) && ps.all fun q => wholeD (ofP q) 0 1
  | .tuple ps => decide (1 ≤ ps.length) && decide (ps.length ≤ 8) && ps.all fun q => wholeD (ofP q) 0 1
  | _ => false
theorem ints_of : ∀ {ps : List PyData}, plainPs ps = true → (ps.all fun q => wholeD (ofP q) 0 1) = true → ∃ bs : List Int, ps = bs.map .int
  | [], _, _ => ⟨[], rfl⟩
  | x :: ps, hp, c => by
    simp only [List.all_cons, Bool.and_eq_true] at c
    simp only [plainPs, Bool.and_eq_true] at hp
    obtain ⟨bs, rfl⟩ := ints_of hp.2 c.2
    cases x with
    | int i => exact ⟨i :: bs, rfl⟩
    | _ => cases c.1
def sumI (bs : List Int) : Int := (bs.mapIdx fun i x => x * 2 ^ i).sum
def vShl (d : D) : D := match d with
  | .tup [.v (.int i), .v (.int x)] => .int (x * 2 ^ i.toNat)
  | _ => .non
theorem s_ofbits {d : D} {p : PyData} (h : Val M d p) (hz : ∀ ps, p = .list ps ∨ p = .tuple ps → ps.length ≤ 1000) (ok : ∀ bs : List Int, (p = .list (bs.map .int) ∨ p = .tuple (bs.map .int)) → okBits p = true → P (.int (sumI bs)) M)
    (bad : okBits p = false → Z ⟨.ref (He.ga K "NoBits"), [("found", d)]⟩ M) : F_of_bits K [d] M P Z := by
  show f_of_bits K _ [some d, none, none] M
  unfold f_of_bits
  simp only [n_seq, n_next, n_sif, n_ret, n_retN, n_asg, n_drop, n_raise, n_for, n_try, n_nm, n_var0, n_varS, n_c, n_op, n_cb, n_nil, n_cons, n_tup, n_lstF, n_lst, n_val, n_notT, n_andT, n_orT, n_and, n_or, n_not, n_dif, n_chain, n_neg, n_dct0, n_call, n_callK, n_frzV, n_frzC, n_frzK, n_frzL, n_app, n_pop, n_sub, n_lc, n_iRg, n_iSq, n_iEn, n_bl, n_int, n_ref, n_gI, n_gI0, n_ixL, n_ixT, n_ixP, n_lenL, n_lenT, n_isi, n_dIsi2, n_sqL, n_sqT, n_latP, n_tupL, n_tupT, n_sqP, n_in, n_unrt, n_fld, n_wipe1, n_wipe2, n_gtup2, max2_is, min2_is, selT, selF, decide_true, decide_false, at10, at20, at21, at30, at31, at32, at40, at41, at42, at43, ix30, ix31, ix32, mput_same, mput_mput, dOne, oAdd, oSub, oMul, oDiv, oMod, oPow, oShl, oShr, oAnd, oOr, oXor, oLt, oLe, oGt, oGe, Nat.reduceAdd, Option.some.injEq, exists_eq_left', true_and, and_true, List.set_cons_zero, List.set_cons_succ, List.length_cons, List.length_nil, h.ty]
  by_cases hs : ∃ ps, p = .list ps ∨ p = .tuple ps
  · obtain ⟨ps, hs⟩ := hs
    obtain ⟨b, e, hp⟩ := h.seq hs
    have ty : (isiB (tyP p) "list" || isiB (tyP p) "tuple") = true := by rcases hs with rfl | rfl <;> simp [isiB, tyP]
    have okE : okBits p = (decide (1 ≤ ps.length) && decide (ps.length ≤ 8) && ps.all fun q => wholeD (ofP q) 0 1) := by rcases hs with rfl | rfl <;> rfl
    simp only [n_seq, n_next, n_sif, n_ret, n_retN, n_asg, n_drop, n_raise, n_for, n_try, n_nm, n_var0, n_varS, n_c, n_op, n_cb, n_nil, n_cons, n_tup, n_lstF, n_lst, n_val, n_notT, n_andT, n_orT, n_and, n_or, n_not, n_dif, n_chain, n_neg, n_dct0, n_call, n_callK, n_frzV, n_frzC, n_frzK, n_frzL, n_app, n_pop, n_sub, n_lc, n_iRg, n_iSq, n_iEn, n_bl, n_int, n_ref, n_gI, n_gI0, n_ixL, n_ixT, n_ixP, n_lenL, n_lenT, n_isi, n_dIsi2, n_sqL, n_sqT, n_latP, n_tupL, n_tupT, n_sqP, n_in, n_unrt, n_fld, n_wipe1, n_wipe2, n_gtup2, max2_is, min2_is, selT, selF, decide_true, decide_false, at10, at20, at21, at30, at31, at32, at40, at41, at42, at43, ix30, ix31, ix32, mput_same, mput_mput, dOne, oAdd, oSub, oMul, oDiv, oMod, oPow, oShl, oShr, oAnd, oOr, oXor, oLt, oLe, oGt, oGe, Nat.reduceAdd, Option.some.injEq, exists_eq_left', true_and, and_true, List.set_cons_zero, List.set_cons_succ, List.length_cons, List.length_nil, ty, Bool.not_true, n_lenS e, ofPs_length]
    refine by2 (fun c1 => ?_) fun c1 => ?_
    · have c1 := of_decide_eq_true c1
      refine by2 (fun c2 => ?_) fun c2 => ?_
      · refine bad ?_
        rw [okE]
        have : ¬ ps.length ≤ 8 := fun z => by
          have : decide ((ps.length : Int) ≤ 8) = true := decide_eq_true (by omega)
          rw [this] at c2
          cases c2
        simp [this]
      · have c2 : (ps.length : Int) ≤ 8 := by
          by_cases z : (ps.length : Int) ≤ 8
          · exact z
          · rw [decide_eq_false z] at c2
            cases c2
        simp only [n_seq, n_next, n_sif, n_ret, n_retN, n_asg, n_drop, n_raise, n_for, n_try, n_nm, n_var0, n_varS, n_c, n_op, n_cb, n_nil, n_cons, n_tup, n_lstF, n_lst, n_val, n_notT, n_andT, n_orT, n_and, n_or, n_not, n_dif, n_chain, n_neg, n_dct0, n_call, n_callK, n_frzV, n_frzC, n_frzK, n_frzL, n_app, n_pop, n_sub, n_lc, n_iRg, n_iSq, n_iEn, n_bl, n_int, n_ref, n_gI, n_gI0, n_ixL, n_ixT, n_ixP, n_lenL, n_lenT, n_isi, n_dIsi2, n_sqL, n_sqT, n_latP, n_tupL, n_tupT, n_sqP, n_in, n_unrt, n_fld, n_wipe1, n_wipe2, n_gtup2, max2_is, min2_is, selT, selF, decide_true, decide_false, at10, at20, at21, at30, at31, at32, at40, at41, at42, at43, ix30, ix31, ix32, mput_same, mput_mput, dOne, oAdd, oSub, oMul, oDiv, oMod, oPow, oShl, oShr, oAnd, oOr, oXor, oLt, oLe, oGt, oGe, Nat.reduceAdd, Option.some.injEq, exists_eq_left', true_and, and_true, List.set_cons_zero, List.set_cons_succ, List.length_cons, List.length_nil, e]
        refine cFrz_of (fun d => .bl (wholeD d 0 1)) (fun a l ha => keep_put e ha) (by rw [ofPs_length]; omega) (fun x a l R hx ha r => ?_) ?_
        · obtain ⟨y, _, rfl, hy⟩ := ofPs_mem hp hx
          simp only [n_seq, n_next, n_sif, n_ret, n_retN, n_asg, n_drop, n_raise, n_for, n_try, n_nm, n_var0, n_varS, n_c, n_op, n_cb, n_nil, n_cons, n_tup, n_lstF, n_lst, n_val, n_notT, n_andT, n_orT, n_and, n_or, n_not, n_dif, n_chain, n_neg, n_dct0, n_call, n_callK, n_frzV, n_frzC, n_frzK, n_frzL, n_app, n_pop, n_sub, n_lc, n_iRg, n_iSq, n_iEn, n_bl, n_int, n_ref, n_gI, n_gI0, n_ixL, n_ixT, n_ixP, n_lenL, n_lenT, n_isi, n_dIsi2, n_sqL, n_sqT, n_latP, n_tupL, n_tupT, n_sqP, n_in, n_unrt, n_fld, n_wipe1, n_wipe2, n_gtup2, max2_is, min2_is, selT, selF, decide_true, decide_false, at10, at20, at21, at30, at31, at32, at40, at41, at42, at43, ix30, ix31, ix32, mput_same, mput_mput, dOne, oAdd, oSub, oMul, oDiv, oMod, oPow, oShl, oShr, oAnd, oOr, oXor, oLt, oLe, oGt, oGe, Nat.reduceAdd, Option.some.injEq, exists_eq_left', true_and, and_true, List.set_cons_zero, List.set_cons_succ, List.length_cons, List.length_nil]
          exact s_truth (Val.tree (M := mput M a (.lst l)) hy).ty r
        have eB : (ofPs ps).map (fun d => D.bl (wholeD d 0 1)) = (ps.map fun q => wholeD (ofP q) 0 1).map D.bl := by
          rw [ofPs_map, List.map_map, List.map_map]
          rfl
        have eC : (ps.map fun q => wholeD (ofP q) 0 1).all id = ps.all fun q => wholeD (ofP q) 0 1 := by
          rw [List.all_map]
          rfl
        rw [eB]
        refine all_of ?_
        rw [eC]
        simp only [n_seq, n_next, n_sif, n_ret, n_retN, n_asg, n_drop, n_raise, n_for, n_try, n_nm, n_var0, n_varS, n_c, n_op, n_cb, n_nil, n_cons, n_tup, n_lstF, n_lst, n_val, n_notT, n_andT, n_orT, n_and, n_or, n_not, n_dif, n_chain, n_neg, n_dct0, n_call, n_callK, n_frzV, n_frzC, n_frzK, n_frzL, n_app, n_pop, n_sub, n_lc, n_iRg, n_iSq, n_iEn, n_bl, n_int, n_ref, n_gI, n_gI0, n_ixL, n_ixT, n_ixP, n_lenL, n_lenT, n_isi, n_dIsi2, n_sqL, n_sqT, n_latP, n_tupL, n_tupT, n_sqP, n_in, n_unrt, n_fld, n_wipe1, n_wipe2, n_gtup2, max2_is, min2_is, selT, selF, decide_true, decide_false, at10, at20, at21, at30, at31, at32, at40, at41, at42, at43, ix30, ix31, ix32, mput_same, mput_mput, dOne, oAdd, oSub, oMul, oDiv, oMod, oPow, oShl, oShr, oAnd, oOr, oXor, oLt, oLe, oGt, oGe, Nat.reduceAdd, Option.some.injEq, exists_eq_left', true_and, and_true, List.set_cons_zero, List.set_cons_succ, List.length_cons, List.length_nil]
        refine by2 (fun c3 => ?_) fun c3 => ?_
        · refine bad ?_
          rw [okE]
          have c3' : (ps.all fun q => wholeD (ofP q) 0 1) = false := by simpa using c3
          rw [c3', Bool.and_false]
        · have c3' : (ps.all fun q => wholeD (ofP q) 0 1) = true := by simpa using c3
          have allI := ints_of hp c3'
          obtain ⟨bs, rfl⟩ := allI
          simp only [n_seq, n_next, n_sif, n_ret, n_retN, n_asg, n_drop, n_raise, n_for, n_try, n_nm, n_var0, n_varS, n_c, n_op, n_cb, n_nil, n_cons, n_tup, n_lstF, n_lst, n_val, n_notT, n_andT, n_orT, n_and, n_or, n_not, n_dif, n_chain, n_neg, n_dct0, n_call, n_callK, n_frzV, n_frzC, n_frzK, n_frzL, n_app, n_pop, n_sub, n_lc, n_iRg, n_iSq, n_iEn, n_bl, n_int, n_ref, n_gI, n_gI0, n_ixL, n_ixT, n_ixP, n_lenL, n_lenT, n_isi, n_dIsi2, n_sqL, n_sqT, n_latP, n_tupL, n_tupT, n_sqP, n_in, n_unrt, n_fld, n_wipe1, n_wipe2, n_gtup2, max2_is, min2_is, selT, selF, decide_true, decide_false, at10, at20, at21, at30, at31, at32, at40, at41, at42, at43, ix30, ix31, ix32, mput_same, mput_mput, dOne, oAdd, oSub, oMul, oDiv, oMod, oPow, oShl, oShr, oAnd, oOr, oXor, oLt, oLe, oGt, oGe, Nat.reduceAdd, Option.some.injEq, exists_eq_left', true_and, and_true, List.set_cons_zero, List.set_cons_succ, List.length_cons, List.length_nil, e]
          refine cFrz_of vShl (fun a l ha => keep_put e ha) ?_ (fun x a l R hx ha r => ?_) ?_
          · unfold enumD
            rw [List.length_mapIdx, ofPs_length]
            omega
          · unfold enumD at hx
            obtain ⟨i, hi, rfl⟩ := List.mem_mapIdx.mp hx
            have e5 : ∃ z, (ofPs (bs.map PyData.int))[i] = .int z := by
              have : (ofPs (bs.map PyData.int))[i]? = (bs.map D.int)[i]? := by rw [ofPs_ints]
              rw [List.getElem?_eq_getElem hi, List.getElem?_map] at this
              obtain ⟨z, _, hz⟩ := Option.map_eq_some_iff.mp this.symm
              exact ⟨z, hz.symm⟩
            obtain ⟨z, e5⟩ := e5
            rw [e5] at r ⊢
            simp only [n_seq, n_next, n_sif, n_ret, n_retN, n_asg, n_drop, n_raise, n_for, n_try, n_nm, n_var0, n_varS, n_c, n_op, n_cb, n_nil, n_cons, n_tup, n_lstF, n_lst, n_val, n_notT, n_andT, n_orT, n_and, n_or, n_not, n_dif, n_chain, n_neg, n_dct0, n_call, n_callK, n_frzV, n_frzC, n_frzK, n_frzL, n_app, n_pop, n_sub, n_lc, n_iRg, n_iSq, n_iEn, n_bl, n_int, n_ref, n_gI, n_gI0, n_ixL, n_ixT, n_ixP, n_lenL, n_lenT, n_isi, n_dIsi2, n_sqL, n_sqT, n_latP, n_tupL, n_tupT, n_sqP, n_in, n_unrt, n_fld, n_wipe1, n_wipe2, n_gtup2, max2_is, min2_is, selT, selF, decide_true, decide_false, at10, at20, at21, at30, at31, at32, at40, at41, at42, at43, ix30, ix31, ix32, mput_same, mput_mput, dOne, oAdd, oSub, oMul, oDiv, oMod, oPow, oShl, oShr, oAnd, oOr, oXor, oLt, oLe, oGt, oGe, Nat.reduceAdd, Option.some.injEq, exists_eq_left', true_and, and_true, List.set_cons_zero, List.set_cons_succ, List.length_cons, List.length_nil]
            rw [ofPs_length, List.length_map] at hi
            rw [List.length_map] at c1 c2
            exact ⟨⟨by omega, by omega, by
              have t : wholeD (ofP (.int z)) 0 1 = true := by
                have hz2 : ofP (.int z) ∈ ofPs (bs.map PyData.int) := by
                  show D.int z ∈ _
                  rw [← e5]
                  exact List.getElem_mem _
                obtain ⟨y, hy, hy2, _⟩ := ofPs_mem hp hz2
                rw [hy2]
                exact List.all_eq_true.mp c3' y hy
              simp only [wholeD, ofP, Bool.and_eq_true, decide_eq_true_eq] at t
              omega⟩, r⟩
          · have e6 : (enumD (ofPs (bs.map PyData.int))).map vShl = (bs.mapIdx fun i x => x * 2 ^ i).map D.int := by
              unfold enumD
              rw [ofPs_ints]
              apply List.ext_getElem?
              intro i
              simp only [List.getElem?_map, List.getElem?_mapIdx]
              cases bs[i]? <;> rfl
            rw [e6]
            exact sum_of (ok bs hs (by rw [okE, c3']; simp; rw [List.length_map] at c1 c2; omega))
    · refine byT (by decide) (bad ?_)
      have c1 : ¬ (1 : Int) ≤ ps.length := by simpa using c1
      rw [okE]
      have : ¬ 1 ≤ ps.length := by omega
      simp [this]
  · have ty : (isiB (tyP p) "list" || isiB (tyP p) "tuple") = false := by
      cases p <;> first | rfl | exact absurd ⟨_, .inl rfl⟩ hs | exact absurd ⟨_, .inr rfl⟩ hs
    have okE : okBits p = false := by
      cases p <;> first | rfl | exact absurd ⟨_, .inl rfl⟩ hs | exact absurd ⟨_, .inr rfl⟩ hs
    simp only [n_seq, n_next, n_sif, n_ret, n_retN, n_asg, n_drop, n_raise, n_for, n_try, n_nm, n_var0, n_varS, n_c, n_op, n_cb, n_nil, n_cons, n_tup, n_lstF, n_lst, n_val, n_notT, n_andT, n_orT, n_and, n_or, n_not, n_dif, n_chain, n_neg, n_dct0, n_call, n_callK, n_frzV, n_frzC, n_frzK, n_frzL, n_app, n_pop, n_sub, n_lc, n_iRg, n_iSq, n_iEn, n_bl, n_int, n_ref, n_gI, n_gI0, n_ixL, n_ixT, n_ixP, n_lenL, n_lenT, n_isi, n_dIsi2, n_sqL, n_sqT, n_latP, n_tupL, n_tupT, n_sqP, n_in, n_unrt, n_fld, n_wipe1, n_wipe2, n_gtup2, max2_is, min2_is, selT, selF, decide_true, decide_false, at10, at20, at21, at30, at31, at32, at40, at41, at42, at43, ix30, ix31, ix32, mput_same, mput_mput, dOne, oAdd, oSub, oMul, oDiv, oMod, oPow, oShl, oShr, oAnd, oOr, oXor, oLt, oLe, oGt, oGe, Nat.reduceAdd, Option.some.injEq, exists_eq_left', true_and, and_true, List.set_cons_zero, List.set_cons_succ, List.length_cons, List.length_nil, ty, Bool.not_false]
    exact bad okE
end L02
set_option maxHeartbeats 4000001
namespace L02
open PySem PySem.Spec
open PyProof.Rows L2 DL
variable {K : PySem.W.Frag} {M : Mem} {P : QD} {Z : XD} {mg : Str → Option Value} {base : Heap}
theorem s_asked_bits (T : Tx K mg base) {x o : D} {p : PyData} (h : Val M x p) (hz : ∀ ps, p = .list ps ∨ p = .tuple ps → ps.length ≤ 1000) (bad : okBits p = false) (q : P (.lst [.str "bits", x]) M) : F__law_asked K [.int 1, x, o] M P Z := by
  show f__law_asked K _ [some (.int 1), some x, some o, none] M
  unfold f__law_asked
  simp only [n_seq, n_next, n_sif, n_ret, n_retN, n_asg, n_drop, n_raise, n_for, n_try, n_nm, n_var0, n_varS, n_c, n_op, n_cb, n_nil, n_cons, n_tup, n_lstF, n_lst, n_val, n_notT, n_andT, n_orT, n_and, n_or, n_not, n_dif, n_chain, n_neg, n_dct0, n_call, n_callK, n_frzV, n_frzC, n_frzK, n_frzL, n_app, n_pop, n_sub, n_lc, n_iRg, n_iSq, n_iEn, n_bl, n_int, n_ref, n_gI, n_gI0, n_ixL, n_ixT, n_ixP, n_lenL, n_lenT, n_isi, n_dIsi2, n_sqL, n_sqT, n_latP, n_tupL, n_tupT, n_sqP, n_in, n_unrt, n_fld, n_wipe1, n_wipe2, n_gtup2, max2_is, min2_is, selT, selF, decide_true, decide_false, at10, at20, at21, at30, at31, at32, at40, at41, at42, at43, ix30, ix31, ix32, mput_same, mput_mput, dOne, oAdd, oSub, oMul, oDiv, oMod, oPow, oShl, oShr, oAnd, oOr, oXor, oLt, oLe, oGt, oGe, Nat.reduceAdd, Option.some.injEq, exists_eq_left', true_and, and_true, List.set_cons_zero, List.set_cons_succ, List.length_cons, List.length_nil]
  refine eq_int' ?_
  simp only [n_seq, n_next, n_sif, n_ret, n_retN, n_asg, n_drop, n_raise, n_for, n_try, n_nm, n_var0, n_varS, n_c, n_op, n_cb, n_nil, n_cons, n_tup, n_lstF, n_lst, n_val, n_notT, n_andT, n_orT, n_and, n_or, n_not, n_dif, n_chain, n_neg, n_dct0, n_call, n_callK, n_frzV, n_frzC, n_frzK, n_frzL, n_app, n_pop, n_sub, n_lc, n_iRg, n_iSq, n_iEn, n_bl, n_int, n_ref, n_gI, n_gI0, n_ixL, n_ixT, n_ixP, n_lenL, n_lenT, n_isi, n_dIsi2, n_sqL, n_sqT, n_latP, n_tupL, n_tupT, n_sqP, n_in, n_unrt, n_fld, n_wipe1, n_wipe2, n_gtup2, max2_is, min2_is, selT, selF, decide_true, decide_false, at10, at20, at21, at30, at31, at32, at40, at41, at42, at43, ix30, ix31, ix32, mput_same, mput_mput, dOne, oAdd, oSub, oMul, oDiv, oMod, oPow, oShl, oShr, oAnd, oOr, oXor, oLt, oLe, oGt, oGe, Nat.reduceAdd, Option.some.injEq, exists_eq_left', true_and, and_true, List.set_cons_zero, List.set_cons_succ, List.length_cons, List.length_nil]
  refine byF (by decide) (s_ofbits h hz (fun bs _ ok => by rw [bad] at ok; cases ok) fun _ => ?_)
  simp only [n_xone]
  refine ⟨false, x_NoBits_NoWidth T, fun z => (by cases z), fun _ => ⟨false, x_NoBits_NoWorth T, fun z => (by cases z), fun _ => ⟨true, x_NoBits_NoBits T, fun _ a d hd => ?_, fun z => (by cases z)⟩⟩⟩
  cases d with
  | none => cases hd rfl
  | some dd =>
    simp only [n_seq, n_next, n_sif, n_ret, n_retN, n_asg, n_drop, n_raise, n_for, n_try, n_nm, n_var0, n_varS, n_c, n_op, n_cb, n_nil, n_cons, n_tup, n_lstF, n_lst, n_val, n_notT, n_andT, n_orT, n_and, n_or, n_not, n_dif, n_chain, n_neg, n_dct0, n_call, n_callK, n_frzV, n_frzC, n_frzK, n_frzL, n_app, n_pop, n_sub, n_lc, n_iRg, n_iSq, n_iEn, n_bl, n_int, n_ref, n_gI, n_gI0, n_ixL, n_ixT, n_ixP, n_lenL, n_lenT, n_isi, n_dIsi2, n_sqL, n_sqT, n_latP, n_tupL, n_tupT, n_sqP, n_in, n_unrt, n_fld, n_wipe1, n_wipe2, n_gtup2, max2_is, min2_is, selT, selF, decide_true, decide_false, at10, at20, at21, at30, at31, at32, at40, at41, at42, at43, ix30, ix31, ix32, mput_same, mput_mput, dOne, oAdd, oSub, oMul, oDiv, oMod, oPow, oShl, oShr, oAnd, oOr, oXor, oLt, oLe, oGt, oGe, Nat.reduceAdd, Option.some.injEq, exists_eq_left', true_and, and_true, List.set_cons_zero, List.set_cons_succ, List.length_cons, List.length_nil]
    exact ⟨x, by simp, by decide, q⟩
theorem s_bits_width {w v : D} {t : String} (h : tyD M w = some t) (bad : wholeD w 1 8 = false) (q : Z ⟨.ref (He.ga K "NoWidth"), [("found", w)]⟩ M) : F_bits_of K [w, v] M P Z := by
  show f_bits_of K _ [some w, some v, none] M
  unfold f_bits_of
  simp only [n_seq, n_next, n_sif, n_ret, n_retN, n_asg, n_drop, n_raise, n_for, n_try, n_nm, n_var0, n_varS, n_c, n_op, n_cb, n_nil, n_cons, n_tup, n_lstF, n_lst, n_val, n_notT, n_andT, n_orT, n_and, n_or, n_not, n_dif, n_chain, n_neg, n_dct0, n_call, n_callK, n_frzV, n_frzC, n_frzK, n_frzL, n_app, n_pop, n_sub, n_lc, n_iRg, n_iSq, n_iEn, n_bl, n_int, n_ref, n_gI, n_gI0, n_ixL, n_ixT, n_ixP, n_lenL, n_lenT, n_isi, n_dIsi2, n_sqL, n_sqT, n_latP, n_tupL, n_tupT, n_sqP, n_in, n_unrt, n_fld, n_wipe1, n_wipe2, n_gtup2, max2_is, min2_is, selT, selF, decide_true, decide_false, at10, at20, at21, at30, at31, at32, at40, at41, at42, at43, ix30, ix31, ix32, mput_same, mput_mput, dOne, oAdd, oSub, oMul, oDiv, oMod, oPow, oShl, oShr, oAnd, oOr, oXor, oLt, oLe, oGt, oGe, Nat.reduceAdd, Option.some.injEq, exists_eq_left', true_and, and_true, List.set_cons_zero, List.set_cons_succ, List.length_cons, List.length_nil]
  refine s_width h ?_
  simp only [n_seq, n_next, n_sif, n_ret, n_retN, n_asg, n_drop, n_raise, n_for, n_try, n_nm, n_var0, n_varS, n_c, n_op, n_cb, n_nil, n_cons, n_tup, n_lstF, n_lst, n_val, n_notT, n_andT, n_orT, n_and, n_or, n_not, n_dif, n_chain, n_neg, n_dct0, n_call, n_callK, n_frzV, n_frzC, n_frzK, n_frzL, n_app, n_pop, n_sub, n_lc, n_iRg, n_iSq, n_iEn, n_bl, n_int, n_ref, n_gI, n_gI0, n_ixL, n_ixT, n_ixP, n_lenL, n_lenT, n_isi, n_dIsi2, n_sqL, n_sqT, n_latP, n_tupL, n_tupT, n_sqP, n_in, n_unrt, n_fld, n_wipe1, n_wipe2, n_gtup2, max2_is, min2_is, selT, selF, decide_true, decide_false, at10, at20, at21, at30, at31, at32, at40, at41, at42, at43, ix30, ix31, ix32, mput_same, mput_mput, dOne, oAdd, oSub, oMul, oDiv, oMod, oPow, oShl, oShr, oAnd, oOr, oXor, oLt, oLe, oGt, oGe, Nat.reduceAdd, Option.some.injEq, exists_eq_left', true_and, and_true, List.set_cons_zero, List.set_cons_succ, List.length_cons, List.length_nil, bad, Bool.not_false]
  exact q
theorem s_bits_worth {n : Int} {v : D} {t : String} (h1 : 1 ≤ n) (h8 : n ≤ 8) (h : tyD M v = some t) (bad : wholeD v 0 (2 ^ n.toNat - 1) = false) (q : Z ⟨.ref (He.ga K "NoWorth"), [("found", v)]⟩ M) : F_bits_of K [.int n, v] M P Z := by
  show f_bits_of K _ [some (.int n), some v, none] M
  unfold f_bits_of
  simp only [n_seq, n_next, n_sif, n_ret, n_retN, n_asg, n_drop, n_raise, n_for, n_try, n_nm, n_var0, n_varS, n_c, n_op, n_cb, n_nil, n_cons, n_tup, n_lstF, n_lst, n_val, n_notT, n_andT, n_orT, n_and, n_or, n_not, n_dif, n_chain, n_neg, n_dct0, n_call, n_callK, n_frzV, n_frzC, n_frzK, n_frzL, n_app, n_pop, n_sub, n_lc, n_iRg, n_iSq, n_iEn, n_bl, n_int, n_ref, n_gI, n_gI0, n_ixL, n_ixT, n_ixP, n_lenL, n_lenT, n_isi, n_dIsi2, n_sqL, n_sqT, n_latP, n_tupL, n_tupT, n_sqP, n_in, n_unrt, n_fld, n_wipe1, n_wipe2, n_gtup2, max2_is, min2_is, selT, selF, decide_true, decide_false, at10, at20, at21, at30, at31, at32, at40, at41, at42, at43, ix30, ix31, ix32, mput_same, mput_mput, dOne, oAdd, oSub, oMul, oDiv, oMod, oPow, oShl, oShr, oAnd, oOr, oXor, oLt, oLe, oGt, oGe, Nat.reduceAdd, Option.some.injEq, exists_eq_left', true_and, and_true, List.set_cons_zero, List.set_cons_succ, List.length_cons, List.length_nil]
  have e1 : wholeD (.int n) 1 8 = true := by simp [wholeD, h1, h8]
  refine s_width (t := "int") rfl ?_
  simp only [n_seq, n_next, n_sif, n_ret, n_retN, n_asg, n_drop, n_raise, n_for, n_try, n_nm, n_var0, n_varS, n_c, n_op, n_cb, n_nil, n_cons, n_tup, n_lstF, n_lst, n_val, n_notT, n_andT, n_orT, n_and, n_or, n_not, n_dif, n_chain, n_neg, n_dct0, n_call, n_callK, n_frzV, n_frzC, n_frzK, n_frzL, n_app, n_pop, n_sub, n_lc, n_iRg, n_iSq, n_iEn, n_bl, n_int, n_ref, n_gI, n_gI0, n_ixL, n_ixT, n_ixP, n_lenL, n_lenT, n_isi, n_dIsi2, n_sqL, n_sqT, n_latP, n_tupL, n_tupT, n_sqP, n_in, n_unrt, n_fld, n_wipe1, n_wipe2, n_gtup2, max2_is, min2_is, selT, selF, decide_true, decide_false, at10, at20, at21, at30, at31, at32, at40, at41, at42, at43, ix30, ix31, ix32, mput_same, mput_mput, dOne, oAdd, oSub, oMul, oDiv, oMod, oPow, oShl, oShr, oAnd, oOr, oXor, oLt, oLe, oGt, oGe, Nat.reduceAdd, Option.some.injEq, exists_eq_left', true_and, and_true, List.set_cons_zero, List.set_cons_succ, List.length_cons, List.length_nil, e1, Bool.not_true]
  refine s_worth h h1 h8 ?_
  simp only [n_seq, n_next, n_sif, n_ret, n_retN, n_asg, n_drop, n_raise, n_for, n_try, n_nm, n_var0, n_varS, n_c, n_op, n_cb, n_nil, n_cons, n_tup, n_lstF, n_lst, n_val, n_notT, n_andT, n_orT, n_and, n_or, n_not, n_dif, n_chain, n_neg, n_dct0, n_call, n_callK, n_frzV, n_frzC, n_frzK, n_frzL, n_app, n_pop, n_sub, n_lc, n_iRg, n_iSq, n_iEn, n_bl, n_int, n_ref, n_gI, n_gI0, n_ixL, n_ixT, n_ixP, n_lenL, n_lenT, n_isi, n_dIsi2, n_sqL, n_sqT, n_latP, n_tupL, n_tupT, n_sqP, n_in, n_unrt, n_fld, n_wipe1, n_wipe2, n_gtup2, max2_is, min2_is, selT, selF, decide_true, decide_false, at10, at20, at21, at30, at31, at32, at40, at41, at42, at43, ix30, ix31, ix32, mput_same, mput_mput, dOne, oAdd, oSub, oMul, oDiv, oMod, oPow, oShl, oShr, oAnd, oOr, oXor, oLt, oLe, oGt, oGe, Nat.reduceAdd, Option.some.injEq, exists_eq_left', true_and, and_true, List.set_cons_zero, List.set_cons_succ, List.length_cons, List.length_nil, bad, Bool.not_false]
  exact q
theorem s_asked_width (T : Tx K mg base) {w v : D} {t : String} (h : tyD M w = some t) (bad : wholeD w 1 8 = false) (q : P (.lst [.str "width", w]) M) : F__law_asked K [.int 0, w, v] M P Z := by
  show f__law_asked K _ [some (.int 0), some w, some v, none] M
  unfold f__law_asked
  simp only [n_seq, n_next, n_sif, n_ret, n_retN, n_asg, n_drop, n_raise, n_for, n_try, n_nm, n_var0, n_varS, n_c, n_op, n_cb, n_nil, n_cons, n_tup, n_lstF, n_lst, n_val, n_notT, n_andT, n_orT, n_and, n_or, n_not, n_dif, n_chain, n_neg, n_dct0, n_call, n_callK, n_frzV, n_frzC, n_frzK, n_frzL, n_app, n_pop, n_sub, n_lc, n_iRg, n_iSq, n_iEn, n_bl, n_int, n_ref, n_gI, n_gI0, n_ixL, n_ixT, n_ixP, n_lenL, n_lenT, n_isi, n_dIsi2, n_sqL, n_sqT, n_latP, n_tupL, n_tupT, n_sqP, n_in, n_unrt, n_fld, n_wipe1, n_wipe2, n_gtup2, max2_is, min2_is, selT, selF, decide_true, decide_false, at10, at20, at21, at30, at31, at32, at40, at41, at42, at43, ix30, ix31, ix32, mput_same, mput_mput, dOne, oAdd, oSub, oMul, oDiv, oMod, oPow, oShl, oShr, oAnd, oOr, oXor, oLt, oLe, oGt, oGe, Nat.reduceAdd, Option.some.injEq, exists_eq_left', true_and, and_true, List.set_cons_zero, List.set_cons_succ, List.length_cons, List.length_nil]
  refine eq_int' ?_
  simp only [n_seq, n_next, n_sif, n_ret, n_retN, n_asg, n_drop, n_raise, n_for, n_try, n_nm, n_var0, n_varS, n_c, n_op, n_cb, n_nil, n_cons, n_tup, n_lstF, n_lst, n_val, n_notT, n_andT, n_orT, n_and, n_or, n_not, n_dif, n_chain, n_neg, n_dct0, n_call, n_callK, n_frzV, n_frzC, n_frzK, n_frzL, n_app, n_pop, n_sub, n_lc, n_iRg, n_iSq, n_iEn, n_bl, n_int, n_ref, n_gI, n_gI0, n_ixL, n_ixT, n_ixP, n_lenL, n_lenT, n_isi, n_dIsi2, n_sqL, n_sqT, n_latP, n_tupL, n_tupT, n_sqP, n_in, n_unrt, n_fld, n_wipe1, n_wipe2, n_gtup2, max2_is, min2_is, selT, selF, decide_true, decide_false, at10, at20, at21, at30, at31, at32, at40, at41, at42, at43, ix30, ix31, ix32, mput_same, mput_mput, dOne, oAdd, oSub, oMul, oDiv, oMod, oPow, oShl, oShr, oAnd, oOr, oXor, oLt, oLe, oGt, oGe, Nat.reduceAdd, Option.some.injEq, exists_eq_left', true_and, and_true, List.set_cons_zero, List.set_cons_succ, List.length_cons, List.length_nil]
  refine s_bits_width h bad ?_
  simp only [n_xone]
  refine ⟨true, x_NoWidth_NoWidth T, fun _ a d hd => ?_, fun z => (by cases z)⟩
  cases d with
  | none => cases hd rfl
  | some dd =>
    simp only [n_seq, n_next, n_sif, n_ret, n_retN, n_asg, n_drop, n_raise, n_for, n_try, n_nm, n_var0, n_varS, n_c, n_op, n_cb, n_nil, n_cons, n_tup, n_lstF, n_lst, n_val, n_notT, n_andT, n_orT, n_and, n_or, n_not, n_dif, n_chain, n_neg, n_dct0, n_call, n_callK, n_frzV, n_frzC, n_frzK, n_frzL, n_app, n_pop, n_sub, n_lc, n_iRg, n_iSq, n_iEn, n_bl, n_int, n_ref, n_gI, n_gI0, n_ixL, n_ixT, n_ixP, n_lenL, n_lenT, n_isi, n_dIsi2, n_sqL, n_sqT, n_latP, n_tupL, n_tupT, n_sqP, n_in, n_unrt, n_fld, n_wipe1, n_wipe2, n_gtup2, max2_is, min2_is, selT, selF, decide_true, decide_false, at10, at20, at21, at30, at31, at32, at40, at41, at42, at43, ix30, ix31, ix32, mput_same, mput_mput, dOne, oAdd, oSub, oMul, oDiv, oMod, oPow, oShl, oShr, oAnd, oOr, oXor, oLt, oLe, oGt, oGe, Nat.reduceAdd, Option.some.injEq, exists_eq_left', true_and, and_true, List.set_cons_zero, List.set_cons_succ, List.length_cons, List.length_nil]
    exact ⟨w, by simp, by decide, q⟩
theorem s_asked_worth (T : Tx K mg base) {n : Int} {v : D} {t : String} (h1 : 1 ≤ n) (h8 : n ≤ 8) (h : tyD M v = some t) (bad : wholeD v 0 (2 ^ n.toNat - 1) = false) (q : P (.lst [.str "worth", v]) M) : F__law_asked K [.int 0, .int n, v] M P Z := by
  show f__law_asked K _ [some (.int 0), some (.int n), some v, none] M
  unfold f__law_asked
  simp only [n_seq, n_next, n_sif, n_ret, n_retN, n_asg, n_drop, n_raise, n_for, n_try, n_nm, n_var0, n_varS, n_c, n_op, n_cb, n_nil, n_cons, n_tup, n_lstF, n_lst, n_val, n_notT, n_andT, n_orT, n_and, n_or, n_not, n_dif, n_chain, n_neg, n_dct0, n_call, n_callK, n_frzV, n_frzC, n_frzK, n_frzL, n_app, n_pop, n_sub, n_lc, n_iRg, n_iSq, n_iEn, n_bl, n_int, n_ref, n_gI, n_gI0, n_ixL, n_ixT, n_ixP, n_lenL, n_lenT, n_isi, n_dIsi2, n_sqL, n_sqT, n_latP, n_tupL, n_tupT, n_sqP, n_in, n_unrt, n_fld, n_wipe1, n_wipe2, n_gtup2, max2_is, min2_is, selT, selF, decide_true, decide_false, at10, at20, at21, at30, at31, at32, at40, at41, at42, at43, ix30, ix31, ix32, mput_same, mput_mput, dOne, oAdd, oSub, oMul, oDiv, oMod, oPow, oShl, oShr, oAnd, oOr, oXor, oLt, oLe, oGt, oGe, Nat.reduceAdd, Option.some.injEq, exists_eq_left', true_and, and_true, List.set_cons_zero, List.set_cons_succ, List.length_cons, List.length_nil]
  refine eq_int' ?_
  simp only [n_seq, n_next, n_sif, n_ret, n_retN, n_asg, n_drop, n_raise, n_for, n_try, n_nm, n_var0, n_varS, n_c, n_op, n_cb, n_nil, n_cons, n_tup, n_lstF, n_lst, n_val, n_notT, n_andT, n_orT, n_and, n_or, n_not, n_dif, n_chain, n_neg, n_dct0, n_call, n_callK, n_frzV, n_frzC, n_frzK, n_frzL, n_app, n_pop, n_sub, n_lc, n_iRg, n_iSq, n_iEn, n_bl, n_int, n_ref, n_gI, n_gI0, n_ixL, n_ixT, n_ixP, n_lenL, n_lenT, n_isi, n_dIsi2, n_sqL, n_sqT, n_latP, n_tupL, n_tupT, n_sqP, n_in, n_unrt, n_fld, n_wipe1, n_wipe2, n_gtup2, max2_is, min2_is, selT, selF, decide_true, decide_false, at10, at20, at21, at30, at31, at32, at40, at41, at42, at43, ix30, ix31, ix32, mput_same, mput_mput, dOne, oAdd, oSub, oMul, oDiv, oMod, oPow, oShl, oShr, oAnd, oOr, oXor, oLt, oLe, oGt, oGe, Nat.reduceAdd, Option.some.injEq, exists_eq_left', true_and, and_true, List.set_cons_zero, List.set_cons_succ, List.length_cons, List.length_nil]
  refine s_bits_worth h1 h8 h bad ?_
  simp only [n_xone]
  refine ⟨false, x_NoWorth_NoWidth T, fun z => (by cases z), fun _ => ⟨true, x_NoWorth_NoWorth T, fun _ a d hd => ?_, fun z => (by cases z)⟩⟩
  cases d with
  | none => cases hd rfl
  | some dd =>
    simp only [n_seq, n_next, n_sif, n_ret, n_retN, n_asg, n_drop, n_raise, n_for, n_try, n_nm, n_var0, n_varS, n_c, n_op, n_cb, n_nil, n_cons, n_tup, n_lstF, n_lst, n_val, n_notT, n_andT, n_orT, n_and, n_or, n_not, n_dif, n_chain, n_neg, n_dct0, n_call, n_callK, n_frzV, n_frzC, n_frzK, n_frzL, n_app, n_pop, n_sub, n_lc, n_iRg, n_iSq, n_iEn, n_bl, n_int, n_ref, n_gI, n_gI0, n_ixL, n_ixT, n_ixP, n_lenL, n_lenT, n_isi, n_dIsi2, n_sqL, n_sqT, n_latP, n_tupL, n_tupT, n_sqP, n_in, n_unrt, n_fld, n_wipe1, n_wipe2, n_gtup2, max2_is, min2_is, selT, selF, decide_true, decide_false, at10, at20, at21, at30, at31, at32, at40, at41, at42, at43, ix30, ix31, ix32, mput_same, mput_mput, dOne, oAdd, oSub, oMul, oDiv, oMod, oPow, oShl, oShr, oAnd, oOr, oXor, oLt, oLe, oGt, oGe, Nat.reduceAdd, Option.some.injEq, exists_eq_left', true_and, and_true, List.set_cons_zero, List.set_cons_succ, List.length_cons, List.length_nil]
    exact ⟨v, by simp, by decide, q⟩
end L02
set_option maxHeartbeats 4000001
namespace L02
open PySem PySem.Spec
open PyProof.Rows L2 DL
variable {K : PySem.W.Frag} {M : Mem} {P : QD} {Z : XD} {mg : Str → Option Value} {base : Heap}
/-- a thing that is no list, or a list that may change, not the purse at a -/
def Thing (a : Addr) (M : Mem) (x : D) (p : PyData) : Prop := Tame 200 5 p ∧ ((x = ofP p ∧ plainP p = true ∧ ∀ ps, p ≠ .list ps) ∨ ∃ r ps, x = .ref r ∧ p = .list ps ∧ M r = some (.lst (ofPs ps)) ∧ plainPs ps = true ∧ r ≠ a ∧ ps.length ≤ 9 ∧ ∀ y ∈ ps, Tame 40 2 y)
theorem Thing.val {a : Addr} {x : D} {p : PyData} (h : Thing a M x p) : Val M x p := by
  obtain ⟨_, ⟨rfl, h2, _⟩ | ⟨r, ps, rfl, rfl, h3, h4, _⟩⟩ := h
  · exact .tree h2
  · exact .mem h3 h4
theorem Thing.to {a : Addr} {M' : Mem} {x : D} {p : PyData} (h : Thing a M x p) (k : ∀ b, b ≠ a → M b ≠ none → M' b = M b) : Thing a M' x p := by
  obtain ⟨t, h | ⟨r, ps, h1, h2, h3, h4, h5, h6⟩⟩ := h
  · exact ⟨t, .inl h⟩
  · exact ⟨t, .inr ⟨r, ps, h1, h2, by rw [k r h5 (by rw [h3]; simp)]; exact h3, h4, h5, h6⟩⟩
def rowB (K : PySem.W.Frag) : SF := (sSeq (sAsg (dCB gRepr (dOne (dVar 13))) (gNm 14))
  (sSeq (sAsg (dCall (F__law_asked K) (dCons (dVar 10) (dCons (dVar 11) (dCons (dVar 12) (dNil))))) (gNm 15))
  (sSeq (sIf (dVal (dOp (gE true) (dCB gRepr (dOne (dVar 15))) (dVar 14))) (sRet (dC (.bl false))) (sNext))
  (sIf (dVal (dCB gIsi (dCons (dOp gIx (dVar 13) (dC (.int 1))) (dOne (dC (.v (.ty "list"))))))) (sSeq (sDrop (dApp (dOp gIx (dVar 13) (dC (.int 1))) (dC (.int 7))))
  (sSeq (sIf (dVal (dOp (gE true) (dCB gRepr (dOne (dOp gIx (dVar 15) (dC (.int 1))))) (dCB gRepr (dOne (dOp gIx (dVar 13) (dC (.int 1))))))) (sRet (dC (.bl false))) (sNext))
  (sDrop (dPop (dOp gIx (dVar 13) (dC (.int 1))))))) (sNext)))))
theorem pair_tame {s : Str} {p : PyData} (hs : Tame 200 5 (.str s)) (hp : Tame 200 5 p) : Tame 1000 6 (.list [.str s, p]) := by
  refine (Tame.list (b := 200) (k := 5) (xs := [.str s, p]) fun x hx => ?_).mono (by simp) (by decide)
  obtain rfl | hx := List.mem_cons.mp hx
  · exact hs
  · rcases List.mem_cons.mp hx with rfl | hx
    · exact hp
    · cases hx
theorem s_row {E : EndsD} {a : Addr} {e0 e1 e2 e3 e4 e5 e6 e7 e8 e9 e14 e15 : Option D} {way one other x : D} {s : Str} {p : PyData} (hs : Tame 200 5 (.str s)) (th : Thing a M x p)
    (asked : ∀ (P' : QD) (Z' : XD), P' (.lst [.str s, x]) M → F__law_asked K [way, one, other] M P' Z')
    (q : ∀ u v, E.nx [e0, e1, e2, e3, e4, e5, e6, e7, e8, e9, some way, some one, some other, some (.lst [.str s, x]), u, v] M) :
    rowB K E [e0, e1, e2, e3, e4, e5, e6, e7, e8, e9, some way, some one, some other, some (.lst [.str s, x]), e14, e15] M := by
  unfold rowB
  have pd := th.val.pair (s := s)
  have tm := pair_tame hs th.1
  try simp only [n_seq, n_next, n_sif, n_ret, n_retN, n_asg, n_drop, n_raise, n_for, n_try, n_nm, n_var0, n_varS, n_c, n_op, n_cb, n_nil, n_cons, n_tup, n_lstF, n_lst, n_val, n_notT, n_andT, n_orT, n_and, n_or, n_not, n_dif, n_chain, n_neg, n_dct0, n_call, n_callK, n_frzV, n_frzC, n_frzK, n_frzL, n_app, n_pop, n_sub, n_lc, n_iRg, n_iSq, n_iEn, n_bl, n_int, n_ref, n_gI, n_gI0, n_ixL, n_ixT, n_ixP, n_lenL, n_lenT, n_isi, n_dIsi2, n_sqL, n_sqT, n_latP, n_tupL, n_tupT, n_sqP, n_in, n_unrt, n_fld, n_wipe1, n_wipe2, n_gtup2, max2_is, min2_is, selT, selF, decide_true, decide_false, at10, at20, at21, at30, at31, at32, at40, at41, at42, at43, ix30, ix31, ix32, mput_same, mput_mput, dOne, oAdd, oSub, oMul, oDiv, oMod, oPow, oShl, oShr, oAnd, oOr, oXor, oLt, oLe, oGt, oGe, Nat.reduceAdd, Option.some.injEq, exists_eq_left', true_and, and_true, List.set_cons_zero, List.set_cons_succ, List.length_cons, List.length_nil]
  refine repr_is pd tm (by decide) (by decide) ?_
  try simp only [n_seq, n_next, n_sif, n_ret, n_retN, n_asg, n_drop, n_raise, n_for, n_try, n_nm, n_var0, n_varS, n_c, n_op, n_cb, n_nil, n_cons, n_tup, n_lstF, n_lst, n_val, n_notT, n_andT, n_orT, n_and, n_or, n_not, n_dif, n_chain, n_neg, n_dct0, n_call, n_callK, n_frzV, n_frzC, n_frzK, n_frzL, n_app, n_pop, n_sub, n_lc, n_iRg, n_iSq, n_iEn, n_bl, n_int, n_ref, n_gI, n_gI0, n_ixL, n_ixT, n_ixP, n_lenL, n_lenT, n_isi, n_dIsi2, n_sqL, n_sqT, n_latP, n_tupL, n_tupT, n_sqP, n_in, n_unrt, n_fld, n_wipe1, n_wipe2, n_gtup2, max2_is, min2_is, selT, selF, decide_true, decide_false, at10, at20, at21, at30, at31, at32, at40, at41, at42, at43, ix30, ix31, ix32, mput_same, mput_mput, dOne, oAdd, oSub, oMul, oDiv, oMod, oPow, oShl, oShr, oAnd, oOr, oXor, oLt, oLe, oGt, oGe, Nat.reduceAdd, Option.some.injEq, exists_eq_left', true_and, and_true, List.set_cons_zero, List.set_cons_succ, List.length_cons, List.length_nil]
  refine asked _ _ ?_
  try simp only [n_seq, n_next, n_sif, n_ret, n_retN, n_asg, n_drop, n_raise, n_for, n_try, n_nm, n_var0, n_varS, n_c, n_op, n_cb, n_nil, n_cons, n_tup, n_lstF, n_lst, n_val, n_notT, n_andT, n_orT, n_and, n_or, n_not, n_dif, n_chain, n_neg, n_dct0, n_call, n_callK, n_frzV, n_frzC, n_frzK, n_frzL, n_app, n_pop, n_sub, n_lc, n_iRg, n_iSq, n_iEn, n_bl, n_int, n_ref, n_gI, n_gI0, n_ixL, n_ixT, n_ixP, n_lenL, n_lenT, n_isi, n_dIsi2, n_sqL, n_sqT, n_latP, n_tupL, n_tupT, n_sqP, n_in, n_unrt, n_fld, n_wipe1, n_wipe2, n_gtup2, max2_is, min2_is, selT, selF, decide_true, decide_false, at10, at20, at21, at30, at31, at32, at40, at41, at42, at43, ix30, ix31, ix32, mput_same, mput_mput, dOne, oAdd, oSub, oMul, oDiv, oMod, oPow, oShl, oShr, oAnd, oOr, oXor, oLt, oLe, oGt, oGe, Nat.reduceAdd, Option.some.injEq, exists_eq_left', true_and, and_true, List.set_cons_zero, List.set_cons_succ, List.length_cons, List.length_nil]
  refine repr_is pd tm (by decide) (by decide) (ne_str ?_)
  try simp only [n_seq, n_next, n_sif, n_ret, n_retN, n_asg, n_drop, n_raise, n_for, n_try, n_nm, n_var0, n_varS, n_c, n_op, n_cb, n_nil, n_cons, n_tup, n_lstF, n_lst, n_val, n_notT, n_andT, n_orT, n_and, n_or, n_not, n_dif, n_chain, n_neg, n_dct0, n_call, n_callK, n_frzV, n_frzC, n_frzK, n_frzL, n_app, n_pop, n_sub, n_lc, n_iRg, n_iSq, n_iEn, n_bl, n_int, n_ref, n_gI, n_gI0, n_ixL, n_ixT, n_ixP, n_lenL, n_lenT, n_isi, n_dIsi2, n_sqL, n_sqT, n_latP, n_tupL, n_tupT, n_sqP, n_in, n_unrt, n_fld, n_wipe1, n_wipe2, n_gtup2, max2_is, min2_is, selT, selF, decide_true, decide_false, at10, at20, at21, at30, at31, at32, at40, at41, at42, at43, ix30, ix31, ix32, mput_same, mput_mput, dOne, oAdd, oSub, oMul, oDiv, oMod, oPow, oShl, oShr, oAnd, oOr, oXor, oLt, oLe, oGt, oGe, Nat.reduceAdd, Option.some.injEq, exists_eq_left', true_and, and_true, List.set_cons_zero, List.set_cons_succ, List.length_cons, List.length_nil, Bool.not_true, th.val.ty]
  refine ⟨by decide, ?_⟩
  obtain ⟨_, ⟨rfl, h2, h3⟩ | ⟨r, ps, rfl, rfl, h3, h4, _, h6, h7⟩⟩ := th
  · refine byF ?_ (q _ _)
    cases p <;> first | rfl | exact absurd rfl (h3 _)
  · refine byT (by simp [isiB, tyP]) ?_
    try simp only [n_seq, n_next, n_sif, n_ret, n_retN, n_asg, n_drop, n_raise, n_for, n_try, n_nm, n_var0, n_varS, n_c, n_op, n_cb, n_nil, n_cons, n_tup, n_lstF, n_lst, n_val, n_notT, n_andT, n_orT, n_and, n_or, n_not, n_dif, n_chain, n_neg, n_dct0, n_call, n_callK, n_frzV, n_frzC, n_frzK, n_frzL, n_app, n_pop, n_sub, n_lc, n_iRg, n_iSq, n_iEn, n_bl, n_int, n_ref, n_gI, n_gI0, n_ixL, n_ixT, n_ixP, n_lenL, n_lenT, n_isi, n_dIsi2, n_sqL, n_sqT, n_latP, n_tupL, n_tupT, n_sqP, n_in, n_unrt, n_fld, n_wipe1, n_wipe2, n_gtup2, max2_is, min2_is, selT, selF, decide_true, decide_false, at10, at20, at21, at30, at31, at32, at40, at41, at42, at43, ix30, ix31, ix32, mput_same, mput_mput, dOne, oAdd, oSub, oMul, oDiv, oMod, oPow, oShl, oShr, oAnd, oOr, oXor, oLt, oLe, oGt, oGe, Nat.reduceAdd, Option.some.injEq, exists_eq_left', true_and, and_true, List.set_cons_zero, List.set_cons_succ, List.length_cons, List.length_nil, n_lat h3]
    refine ⟨by rw [ofPs_length]; omega, ?_⟩
    have v2 : Val (mput M r (.lst (ofPs ps ++ [.int 7]))) (.ref r) (.list (ps ++ [.int 7])) := .mem (by rw [mput_same, ofPs_append]; rfl) (plain_append h4 rfl)
    have t2 : Tame 1000 6 (.list (ps ++ [.int 7])) := by
      refine (Tame.list (b := 40) (k := 2) fun y hy => ?_).mono (by rw [List.length_append, List.length_singleton]; omega) (by decide)
      rcases List.mem_append.mp hy with z | z
      · exact h7 y z
      · rw [(List.mem_singleton.mp z)]
        exact (Tame.int (by decide) (by decide)).mono (by decide) (by decide)
    refine repr_is v2.pd t2 (by decide) (by decide) ?_
    try simp only [n_seq, n_next, n_sif, n_ret, n_retN, n_asg, n_drop, n_raise, n_for, n_try, n_nm, n_var0, n_varS, n_c, n_op, n_cb, n_nil, n_cons, n_tup, n_lstF, n_lst, n_val, n_notT, n_andT, n_orT, n_and, n_or, n_not, n_dif, n_chain, n_neg, n_dct0, n_call, n_callK, n_frzV, n_frzC, n_frzK, n_frzL, n_app, n_pop, n_sub, n_lc, n_iRg, n_iSq, n_iEn, n_bl, n_int, n_ref, n_gI, n_gI0, n_ixL, n_ixT, n_ixP, n_lenL, n_lenT, n_isi, n_dIsi2, n_sqL, n_sqT, n_latP, n_tupL, n_tupT, n_sqP, n_in, n_unrt, n_fld, n_wipe1, n_wipe2, n_gtup2, max2_is, min2_is, selT, selF, decide_true, decide_false, at10, at20, at21, at30, at31, at32, at40, at41, at42, at43, ix30, ix31, ix32, mput_same, mput_mput, dOne, oAdd, oSub, oMul, oDiv, oMod, oPow, oShl, oShr, oAnd, oOr, oXor, oLt, oLe, oGt, oGe, Nat.reduceAdd, Option.some.injEq, exists_eq_left', true_and, and_true, List.set_cons_zero, List.set_cons_succ, List.length_cons, List.length_nil]
    refine repr_is v2.pd t2 (by decide) (by decide) (ne_str ?_)
    try simp only [n_seq, n_next, n_sif, n_ret, n_retN, n_asg, n_drop, n_raise, n_for, n_try, n_nm, n_var0, n_varS, n_c, n_op, n_cb, n_nil, n_cons, n_tup, n_lstF, n_lst, n_val, n_notT, n_andT, n_orT, n_and, n_or, n_not, n_dif, n_chain, n_neg, n_dct0, n_call, n_callK, n_frzV, n_frzC, n_frzK, n_frzL, n_app, n_pop, n_sub, n_lc, n_iRg, n_iSq, n_iEn, n_bl, n_int, n_ref, n_gI, n_gI0, n_ixL, n_ixT, n_ixP, n_lenL, n_lenT, n_isi, n_dIsi2, n_sqL, n_sqT, n_latP, n_tupL, n_tupT, n_sqP, n_in, n_unrt, n_fld, n_wipe1, n_wipe2, n_gtup2, max2_is, min2_is, selT, selF, decide_true, decide_false, at10, at20, at21, at30, at31, at32, at40, at41, at42, at43, ix30, ix31, ix32, mput_same, mput_mput, dOne, oAdd, oSub, oMul, oDiv, oMod, oPow, oShl, oShr, oAnd, oOr, oXor, oLt, oLe, oGt, oGe, Nat.reduceAdd, Option.some.injEq, exists_eq_left', true_and, and_true, List.set_cons_zero, List.set_cons_succ, List.length_cons, List.length_nil, Bool.not_true]
    refine ⟨.int 7, by simp, ?_⟩
    rw [List.dropLast_concat, mput_self h3]
    exact q _ _
theorem pick {l : List D} {k : Int} {Q : D → Prop} (h0 : 0 ≤ k) (h : k < l.length) (q : ∀ d, d ∈ l → Q d) : ∃ d, atI l k = some d ∧ Q d := by
  obtain ⟨d, e1, e2⟩ := at_int h0 h
  exact ⟨d, e1, q d (List.mem_of_getElem? e2)⟩
def tailB (K : PySem.W.Frag) : SF := (sSeq (sDrop (dApp (dVar 5) (dTup (dCons (dC (.int 1)) (dCons (dVar 6) (dCons (dC .non) (dCons (dLstF (dCons (dC (.str "bits")) (dCons (dVar 6) (dNil)))) (dNil))))))))
  (sSeq (sAsg (dOp gIx (dLstF (dCons (dC .non) (dCons (dC (.int 5)) (dCons (dC (.str "01")) (dCons (dDct0) (dCons (dC (.bl true)) (dNil))))))) (dCall (F__law_take K) (dCons (dVar 0) (dCons (dC (.int 5)) (dNil))))) (gNm 9))
  (sSeq (sDrop (dApp (dVar 5) (dTup (dCons (dC (.int 1)) (dCons (dVar 9) (dCons (dC .non) (dCons (dLstF (dCons (dC (.str "bits")) (dCons (dVar 9) (dNil)))) (dNil))))))))
  (sSeq (sFor (iSq (dVar 5)) (gTupD 4 (gsCons (gNm 10) (gsCons (gNm 11) (gsCons (gNm 12) (gsCons (gNm 13) (gsNil)))))) (sSeq (sAsg (dCB gRepr (dOne (dVar 13))) (gNm 14))
  (sSeq (sAsg (dCall (F__law_asked K) (dCons (dVar 10) (dCons (dVar 11) (dCons (dVar 12) (dNil))))) (gNm 15))
  (sSeq (sIf (dVal (dOp (gE true) (dCB gRepr (dOne (dVar 15))) (dVar 14))) (sRet (dC (.bl false))) (sNext))
  (sIf (dVal (dCB gIsi (dCons (dOp gIx (dVar 13) (dC (.int 1))) (dOne (dC (.v (.ty "list"))))))) (sSeq (sDrop (dApp (dOp gIx (dVar 13) (dC (.int 1))) (dC (.int 7))))
  (sSeq (sIf (dVal (dOp (gE true) (dCB gRepr (dOne (dOp gIx (dVar 15) (dC (.int 1))))) (dCB gRepr (dOne (dOp gIx (dVar 13) (dC (.int 1))))))) (sRet (dC (.bl false))) (sNext))
  (sDrop (dPop (dOp gIx (dVar 13) (dC (.int 1))))))) (sNext))))))
  (sRet (dC (.bl true)))))))
def headR (K : PySem.W.Frag) : SF := sSeq (sAsg (dOp oShl (dC (.int 1)) (dVar 1)) (gNm 2))
  (sSeq (sAsg (dOp gIx (dLstF (dCons (dC .non) (dCons (dC (.bl true)) (dCons (dNeg (dC (.int 1))) (dCons (dVar 2) (dCons (dC (.str "1")) (dCons (dLst (dCons (dC (.int 0)) (dNil))) (dCons (dTup (dCons (dC (.int 0)) (dNil))) (dCons (dDct0) (dCons (dOp oPow (dC (.int 10)) (dC (.int 29))) (dCons (dOp oSub (dC (.int 0)) (dVar 2)) (dNil)))))))))))) (dCall (F__law_take K) (dCons (dVar 0) (dCons (dC (.int 10)) (dNil))))) (gNm 3))
  (sSeq (sAsg (dOp gIx (dLstF (dCons (dC .non) (dCons (dC (.bl true)) (dCons (dC (.int 0)) (dCons (dC (.int 9)) (dCons (dC (.str "8")) (dCons (dLst (dCons (dC (.int 1)) (dNil))) (dCons (dTup (dCons (dC (.int 1)) (dNil))) (dCons (dDct0) (dCons (dNeg (dC (.int 1))) (dCons (dOp oPow (dC (.int 10)) (dC (.int 29))) (dNil)))))))))))) (dCall (F__law_take K) (dCons (dVar 0) (dCons (dC (.int 10)) (dNil))))) (gNm 4))
  (sSeq (sAsg (dLst (dCons (dTup (dCons (dC (.int 0)) (dCons (dVar 1) (dCons (dVar 3) (dCons (dLstF (dCons (dC (.str "worth")) (dCons (dVar 3) (dNil)))) (dNil)))))) (dCons (dTup (dCons (dC (.int 0)) (dCons (dVar 4) (dCons (dVar 3) (dCons (dLstF (dCons (dC (.str "width")) (dCons (dVar 4) (dNil)))) (dNil)))))) (dCons (dTup (dCons (dC (.int 0)) (dCons (dVar 4) (dCons (dC (.int 0)) (dCons (dLstF (dCons (dC (.str "width")) (dCons (dVar 4) (dNil)))) (dNil)))))) (dNil))))) (gNm 5))
  (sSeq (sAsg (dLc (iRg (dOp gIx (dLstF (dCons (dC (.int 0)) (dCons (dC (.int 9)) (dCons (dOp oAdd (dC (.int 1)) (dCall (F__law_take K) (dCons (dVar 0) (dCons (dC (.int 8)) (dNil))))) (dNil))))) (dCall (F__law_take K) (dCons (dVar 0) (dCons (dC (.int 3)) (dNil)))))) (gNm 7) [7] dYes (dCall (F__law_take K) (dCons (dVar 0) (dCons (dC (.int 2)) (dNil))))) (gNm 6))
  (sSeq (sIf (dAndT (dVal (dOp (gE true) (dVar 6) (dLstF (dNil)))) (dVal (dOp (oLt) (dCB gLen (dOne (dVar 6))) (dC (.int 9))))) (sSeq (sAsg (dCall (F__law_take K) (dCons (dVar 0) (dCons (dCB gLen (dOne (dVar 6))) (dNil)))) (gNm 8))
  (sAsg (dOp gIx (dLstF (dCons (dC (.int 2)) (dCons (dNeg (dC (.int 1))) (dCons (dC (.bl true)) (dCons (dC .non) (dCons (dC (.str "1")) (dCons (dLstF (dCons (dC (.int 0)) (dNil))) (dNil)))))))) (dCall (F__law_take K) (dCons (dVar 0) (dCons (dC (.int 6)) (dNil))))) (gSubD (dVar 6) (dVar 8)))) (sNext))
  (tailB K))))))
theorem thing_of {a : Addr} {p : PyData} (t : Tame 200 5 p) (h : plainP p = true) (n : ∀ ps, p ≠ .list ps) : Thing a M (ofP p) p := ⟨t, .inl ⟨rfl, h, n⟩⟩
theorem keepB {a r : Addr} {o : MO} {M' : Mem} (hr : M r = none) (b : But a (mput M r o) M') : ∀ c, c ≠ a → M c ≠ none → M' c = M c := fun c h1 h2 => (b c h1).trans (mput_ne fun z => h2 (z ▸ hr))
theorem s_tail (T : Tx K mg base) {E : EndsD} {a R : Addr} {n size : Int} {odd far row : D} {po pf pr : PyData} {e2 e7 e8 e9 e10 e11 e12 e13 e14 e15 : Option D} (hp : Pu M a n) (hn : n ≤ 900040) (h1 : 1 ≤ size) (h8 : size ≤ 8)
    (hR : M R = some (.lst [.tup [.int 0, .int size, odd, .lst [.str "worth", odd]], .tup [.int 0, far, odd, .lst [.str "width", far]], .tup [.int 0, far, .int 0, .lst [.str "width", far]]])) (hRa : R ≠ a)
    (to : Thing a M odd po) (tf : Thing a M far pf) (tr : Thing a M row pr) (no : odd ≠ .ref R) (nf : far ≠ .ref R) (nr : row ≠ .ref R) (bo : wholeD odd 0 (2 ^ size.toNat - 1) = false) (bf : wholeD far 1 8 = false) (br : okBits pr = false)
    (hz : ∀ ps, pr = .list ps ∨ pr = .tuple ps → ps.length ≤ 1000) (q : ∀ M', Pu M' a (n + 1) → E.rt (.bl true) M') :
    tailB K E [some (.ref a), some (.int size), e2, some odd, some far, some (.ref R), some row, e7, e8, e9, e10, e11, e12, e13, e14, e15] M := by
  unfold tailB
  simp only [n_seq, n_next, n_sif, n_ret, n_retN, n_asg, n_drop, n_raise, n_for, n_try, n_nm, n_var0, n_varS, n_c, n_op, n_cb, n_nil, n_cons, n_tup, n_lstF, n_lst, n_val, n_notT, n_andT, n_orT, n_and, n_or, n_not, n_dif, n_chain, n_neg, n_dct0, n_call, n_callK, n_frzV, n_frzC, n_frzK, n_frzL, n_app, n_pop, n_sub, n_lc, n_iRg, n_iSq, n_iEn, n_bl, n_int, n_ref, n_gI, n_gI0, n_ixL, n_ixT, n_ixP, n_lenL, n_lenT, n_isi, n_dIsi2, n_sqL, n_sqT, n_latP, n_tupL, n_tupT, n_sqP, n_in, n_unrt, n_fld, n_wipe1, n_wipe2, n_gtup2, max2_is, min2_is, selT, selF, decide_true, decide_false, at10, at20, at21, at30, at31, at32, at40, at41, at42, at43, ix30, ix31, ix32, mput_same, mput_mput, dOne, oAdd, oSub, oMul, oDiv, oMod, oPow, oShl, oShr, oAnd, oOr, oXor, oLt, oLe, oGt, oGe, Nat.reduceAdd, Nat.reduceLeDiff, Option.some.injEq, exists_eq_left', true_and, and_true, List.set_cons_zero, List.set_cons_succ, List.length_cons, List.length_nil, n_lat hR]
  refine ⟨by decide, s_take (hp.at (mput_ne hRa.symm)) (by omega) (by decide) (by decide) fun k M2 k0 k1 p2 b2 => ?_⟩
  simp only [n_ixL]
  refine pick k0 (by simpa using k1) fun nv hnv => ?_
  have hR2 := (b2 R hRa).trans mput_same
  simp only [n_seq, n_next, n_sif, n_ret, n_retN, n_asg, n_drop, n_raise, n_for, n_try, n_nm, n_var0, n_varS, n_c, n_op, n_cb, n_nil, n_cons, n_tup, n_lstF, n_lst, n_val, n_notT, n_andT, n_orT, n_and, n_or, n_not, n_dif, n_chain, n_neg, n_dct0, n_call, n_callK, n_frzV, n_frzC, n_frzK, n_frzL, n_app, n_pop, n_sub, n_lc, n_iRg, n_iSq, n_iEn, n_bl, n_int, n_ref, n_gI, n_gI0, n_ixL, n_ixT, n_ixP, n_lenL, n_lenT, n_isi, n_dIsi2, n_sqL, n_sqT, n_latP, n_tupL, n_tupT, n_sqP, n_in, n_unrt, n_fld, n_wipe1, n_wipe2, n_gtup2, max2_is, min2_is, selT, selF, decide_true, decide_false, at10, at20, at21, at30, at31, at32, at40, at41, at42, at43, ix30, ix31, ix32, mput_same, mput_mput, dOne, oAdd, oSub, oMul, oDiv, oMod, oPow, oShl, oShr, oAnd, oOr, oXor, oLt, oLe, oGt, oGe, Nat.reduceAdd, Nat.reduceLeDiff, Option.some.injEq, exists_eq_left', true_and, and_true, List.set_cons_zero, List.set_cons_succ, List.length_cons, List.length_nil, n_lat hR2]
  have keep : ∀ {x : D} {p : PyData}, Thing a M x p → x ≠ .ref R → ∀ o, Thing a (mput M2 R o) x p := by
    rintro x p ⟨t, h | ⟨r, ps, rfl, e2, e3, e4, e5, e6⟩⟩ nx o
    · exact ⟨t, .inl h⟩
    · have rR : r ≠ R := fun z => nx (by rw [z])
      exact ⟨t, .inr ⟨r, ps, rfl, e2, by rw [mput_ne rR, b2 r e5, mput_ne rR]; exact e3, e4, e5, e6⟩⟩
  have tn : ∃ pn, (∀ N, Thing a N nv pn) ∧ okBits pn = false ∧ ∀ ps, pn = .list ps ∨ pn = .tuple ps → ps.length ≤ 1000 := by
    simp only [List.mem_cons, List.not_mem_nil, or_false] at hnv
    rcases hnv with rfl | rfl | rfl | rfl | rfl
    · exact ⟨.none, fun N => thing_of (Tame.non.mono (by decide) (by decide)) rfl (by simp), rfl, by simp⟩
    · exact ⟨.int 5, fun N => thing_of ((Tame.int (by decide) (by decide)).mono (by decide) (by decide)) rfl (by simp), rfl, by simp⟩
    · exact ⟨.str "01", fun N => thing_of ⟨by decide, by decide, by decide, by decide⟩ rfl (by simp), rfl, by simp⟩
    · exact ⟨.dict [], fun N => thing_of (Tame.dict0.mono (by decide) (by decide)) rfl (by simp), rfl, by simp⟩
    · exact ⟨.bool true, fun N => thing_of (Tame.bool.mono (by decide) (by decide)) rfl (by simp), rfl, by simp⟩
  obtain ⟨pn, tn, bn, zn⟩ := tn
  refine ⟨by simp, ?_⟩
  refine forL_inv (fun i env M' => M' = mput M2 R (.lst [.tup [.int 0, .int size, odd, .lst [.str "worth", odd]], .tup [.int 0, far, odd, .lst [.str "width", far]], .tup [.int 0, far, .int 0, .lst [.str "width", far]], .tup [.int 1, row, .non, .lst [.str "bits", row]], .tup [.int 1, nv, .non, .lst [.str "bits", nv]]]) ∧
    ∃ x10 x11 x12 x13 x14 x15, env = [some (.ref a), some (.int size), e2, some odd, some far, some (.ref R), some row, e7, e8, some nv, x10, x11, x12, x13, x14, x15]) ?_ ?_ ⟨rfl, _, _, _, _, _, _, rfl⟩ ?_
  · rintro i env M' ⟨rfl, _⟩
    rfl
  · rintro i d env M' R' hd ⟨rfl, x10, x11, x12, x13, x14, x15, rfl⟩ k
    have hd := List.mem_of_getElem? hd
    simp only [List.cons_append, List.nil_append, List.mem_cons, List.not_mem_nil, or_false] at hd
    have tw : Tame 200 5 (.str "worth") := ⟨by decide, by decide, by decide, by decide⟩
    have ti : Tame 200 5 (.str "width") := ⟨by decide, by decide, by decide, by decide⟩
    have tb : Tame 200 5 (.str "bits") := ⟨by decide, by decide, by decide, by decide⟩
    rcases hd with rfl | rfl | rfl | rfl | rfl
    · show (4 : Nat) = 4 ∧ (([] : List D) = [] ∧ rowB K _ _ _)
      exact ⟨rfl, rfl, s_row tw (keep to no _) (fun P' Z' q => s_asked_worth T h1 h8 (keep to no _).val.ty bo q) fun u v => k _ _ ⟨rfl, _, _, _, _, _, _, rfl⟩⟩
    · show (4 : Nat) = 4 ∧ (([] : List D) = [] ∧ rowB K _ _ _)
      exact ⟨rfl, rfl, s_row ti (keep tf nf _) (fun P' Z' q => s_asked_width T (keep tf nf _).val.ty bf q) fun u v => k _ _ ⟨rfl, _, _, _, _, _, _, rfl⟩⟩
    · show (4 : Nat) = 4 ∧ (([] : List D) = [] ∧ rowB K _ _ _)
      exact ⟨rfl, rfl, s_row ti (keep tf nf _) (fun P' Z' q => s_asked_width T (keep tf nf _).val.ty bf q) fun u v => k _ _ ⟨rfl, _, _, _, _, _, _, rfl⟩⟩
    · show (4 : Nat) = 4 ∧ (([] : List D) = [] ∧ rowB K _ _ _)
      exact ⟨rfl, rfl, s_row tb (keep tr nr _) (fun P' Z' q => s_asked_bits T (keep tr nr _).val hz br q) fun u v => k _ _ ⟨rfl, _, _, _, _, _, _, rfl⟩⟩
    · show (4 : Nat) = 4 ∧ (([] : List D) = [] ∧ rowB K _ _ _)
      exact ⟨rfl, rfl, s_row tb (tn _) (fun P' Z' q => s_asked_bits T (tn _).val zn bn q) fun u v => k _ _ ⟨rfl, _, _, _, _, _, _, rfl⟩⟩
  · rintro env M' ⟨rfl, _⟩
    try simp only [n_seq, n_next, n_sif, n_ret, n_retN, n_asg, n_drop, n_raise, n_for, n_try, n_nm, n_var0, n_varS, n_c, n_op, n_cb, n_nil, n_cons, n_tup, n_lstF, n_lst, n_val, n_notT, n_andT, n_orT, n_and, n_or, n_not, n_dif, n_chain, n_neg, n_dct0, n_call, n_callK, n_frzV, n_frzC, n_frzK, n_frzL, n_app, n_pop, n_sub, n_lc, n_iRg, n_iSq, n_iEn, n_bl, n_int, n_ref, n_gI, n_gI0, n_ixL, n_ixT, n_ixP, n_lenL, n_lenT, n_isi, n_dIsi2, n_sqL, n_sqT, n_latP, n_tupL, n_tupT, n_sqP, n_in, n_unrt, n_fld, n_wipe1, n_wipe2, n_gtup2, max2_is, min2_is, selT, selF, decide_true, decide_false, at10, at20, at21, at30, at31, at32, at40, at41, at42, at43, ix30, ix31, ix32, mput_same, mput_mput, dOne, oAdd, oSub, oMul, oDiv, oMod, oPow, oShl, oShr, oAnd, oOr, oXor, oLt, oLe, oGt, oGe, Nat.reduceAdd, Nat.reduceLeDiff, Option.some.injEq, exists_eq_left', true_and, and_true, List.set_cons_zero, List.set_cons_succ, List.length_cons, List.length_nil]
    exact q _ (p2.at (mput_ne hRa.symm))

theorem s_refused (T : Tx K mg base) {a : Addr} {n size : Int} (hp : Pu M a n) (hn : n ≤ 900000) (h1 : 1 ≤ size) (h8 : size ≤ 8) (q : ∀ M', Pu M' a (n + 40) → P (.bl true) M') : F__law_refused_right K [.ref a, .int size] M P Z := by
  show headR K _ [some (.ref a), some (.int size), none, none, none, none, none, none, none, none, none, none, none, none, none, none] M
  unfold headR
  simp only [n_seq, n_next, n_sif, n_ret, n_retN, n_asg, n_drop, n_raise, n_for, n_try, n_nm, n_var0, n_varS, n_c, n_op, n_cb, n_nil, n_cons, n_tup, n_lstF, n_lst, n_val, n_notT, n_andT, n_orT, n_and, n_or, n_not, n_dif, n_chain, n_neg, n_dct0, n_call, n_callK, n_frzV, n_frzC, n_frzK, n_frzL, n_app, n_pop, n_sub, n_lc, n_iRg, n_iSq, n_iEn, n_bl, n_int, n_ref, n_gI, n_gI0, n_ixL, n_ixT, n_ixP, n_lenL, n_lenT, n_isi, n_dIsi2, n_sqL, n_sqT, n_latP, n_tupL, n_tupT, n_sqP, n_in, n_unrt, n_fld, n_wipe1, n_wipe2, n_gtup2, max2_is, min2_is, selT, selF, decide_true, decide_false, at10, at20, at21, at30, at31, at32, at40, at41, at42, at43, ix30, ix31, ix32, mput_same, mput_mput, dOne, oAdd, oSub, oMul, oDiv, oMod, oPow, oShl, oShr, oAnd, oOr, oXor, oLt, oLe, oGt, oGe, Nat.reduceAdd, Nat.reduceLeDiff, Option.some.injEq, exists_eq_left', true_and, and_true, List.set_cons_zero, List.set_cons_succ, List.length_cons, List.length_nil]
  have g1 : (2 : Int) ≤ 2 ^ size.toNat ∧ (2 : Int) ^ size.toNat ≤ 256 := by
    have : size = 1 ∨ size = 2 ∨ size = 3 ∨ size = 4 ∨ size = 5 ∨ size = 6 ∨ size = 7 ∨ size = 8 := by omega
    rcases this with rfl | rfl | rfl | rfl | rfl | rfl | rfl | rfl <;> decide
  have tI : ∀ i : Int, -999999999999 ≤ i → i ≤ 999999999999 → ∀ N, Thing a N (.int i) (.int i) := fun i x y N => thing_of (p := .int i) ((Tame.int x y).mono (by decide) (by decide)) rfl (by simp)
  have tN : ∀ N, Thing a N .non .none := fun N => thing_of (p := .none) (Tame.non.mono (by decide) (by decide)) rfl (by simp)
  have tB : ∀ N b, Thing a N (.bl b) (.bool b) := fun N b => thing_of (p := .bool b) (Tame.bool.mono (by decide) (by decide)) rfl (by simp)
  have tD : ∀ N, Thing a N (.dct []) (.dict []) := fun N => thing_of (p := .dict []) (Tame.dict0.mono (by decide) (by decide)) rfl (by simp)
  have tT : ∀ N i, -999999999999 ≤ i → i ≤ 999999999999 → Thing a N (.tup [.int i]) (.tuple [.int i]) := fun N i x y => thing_of (p := .tuple [.int i]) ((Tame.tuple (b := 0) (k := 0) fun z hz => by rw [List.mem_singleton.mp hz]; exact Tame.int x y).mono (by simp) (by decide)) rfl (by simp)
  have big : (10 : Int) ^ Int.toNat 29 = 100000000000000000000000000000 := by decide
  have tX : ∀ N, Thing a N (.int 100000000000000000000000000000) (.int 100000000000000000000000000000) := fun N => thing_of (p := .int 100000000000000000000000000000) ⟨by decide +kernel, by decide +kernel, by decide, by decide⟩ rfl (by simp)
  have tL : ∀ N r i, N r = some (.lst [.int i]) → r ≠ a → -999999999999 ≤ i → i ≤ 999999999999 → Thing a N (.ref r) (.list [.int i]) := fun N r i e ne x y => ⟨(Tame.list (b := 0) (k := 0) fun z hz => by rw [List.mem_singleton.mp hz]; exact Tame.int x y).mono (by simp) (by decide), .inr ⟨r, [.int i], rfl, rfl, e, rfl, ne, by simp, fun z hz => by rw [List.mem_singleton.mp hz]; exact (Tame.int x y).mono (by decide) (by decide)⟩⟩
  rw [big]
  refine ⟨⟨by omega, by omega, by decide⟩, fun r0 hr0 => ⟨⟨by decide, by decide, by decide⟩, ?_⟩⟩
  have n0 : a ≠ r0 := fun z => hp.ne (z ▸ hr0)
  refine s_take (hp.at (mput_ne n0)) (by omega) (by decide) (by decide) fun k1 M1 k1a k1b p1 b1 => ?_
  have m1 : M1 r0 = some (.lst [.int 0]) := (b1 r0 n0.symm).trans mput_same
  simp only [n_ixL]
  refine pick k1a (by simpa using k1b) fun odd hodd => ?_
  have to : ∃ po, Thing a M1 odd po ∧ wholeD odd 0 (2 ^ size.toNat - 1) = false := by
    simp only [List.mem_cons, List.not_mem_nil, or_false] at hodd
    rcases hodd with rfl | rfl | rfl | rfl | rfl | rfl | rfl | rfl | rfl | rfl
    · exact ⟨_, tN _, rfl⟩
    · exact ⟨_, tB _ _, rfl⟩
    · exact ⟨_, tI _ (by decide) (by decide) _, by simp [wholeD]⟩
    · exact ⟨_, tI _ (by omega) (by omega) _, by simp [wholeD]; omega⟩
    · exact ⟨.str "1", thing_of ⟨by decide, by decide, by decide, by decide⟩ rfl (by simp), rfl⟩
    · exact ⟨_, tL _ _ 0 m1 n0.symm (by decide) (by decide), rfl⟩
    · exact ⟨_, tT _ _ (by decide) (by decide), rfl⟩
    · exact ⟨_, tD _, rfl⟩
    · exact ⟨_, tX _, by simp [wholeD]; omega⟩
    · exact ⟨_, tI _ (by omega) (by omega) _, by simp [wholeD]; omega⟩
  obtain ⟨po, to, bo⟩ := to
  intro r1 hr1
  refine ⟨⟨by decide, by decide, by decide⟩, ?_⟩
  have n1 : a ≠ r1 := fun z => p1.ne (z ▸ hr1)
  refine s_take (p1.at (mput_ne n1)) (by omega) (by decide) (by decide) fun k2 M2 k2a k2b p2 b2 => ?_
  have m2 : M2 r1 = some (.lst [.int 1]) := (b2 r1 n1.symm).trans mput_same
  have to2 := to.to (keepB hr1 b2)
  simp only [n_ixL]
  refine pick k2a (by simpa using k2b) fun far hfar => ?_
  have tf : ∃ pf, Thing a M2 far pf ∧ wholeD far 1 8 = false := by
    simp only [List.mem_cons, List.not_mem_nil, or_false] at hfar
    rcases hfar with rfl | rfl | rfl | rfl | rfl | rfl | rfl | rfl | rfl | rfl
    · exact ⟨_, tN _, rfl⟩
    · exact ⟨_, tB _ _, rfl⟩
    · exact ⟨_, tI _ (by decide) (by decide) _, by simp [wholeD]⟩
    · exact ⟨_, tI _ (by decide) (by decide) _, by simp [wholeD]⟩
    · exact ⟨.str "8", thing_of ⟨by decide, by decide, by decide, by decide⟩ rfl (by simp), rfl⟩
    · exact ⟨_, tL _ _ 1 m2 n1.symm (by decide) (by decide), rfl⟩
    · exact ⟨_, tT _ _ (by decide) (by decide), rfl⟩
    · exact ⟨_, tD _, rfl⟩
    · exact ⟨_, tI _ (by decide) (by decide) _, by simp [wholeD]⟩
    · exact ⟨_, tX _, by simp [wholeD]⟩
  obtain ⟨pf, tf, bf⟩ := tf
  intro R hR
  have nR : a ≠ R := fun z => p2.ne (z ▸ hR)
  have noR : odd ≠ .ref R := by
    rintro rfl
    obtain ⟨_, ⟨e, _, e2⟩ | ⟨r, ps, e, _, e3, _⟩⟩ := to2
    · cases po <;> cases e
    · cases e
      rw [hR] at e3
      cases e3
  have nfR : far ≠ .ref R := by
    rintro rfl
    obtain ⟨_, ⟨e, _, e2⟩ | ⟨r, ps, e, _, e3, _⟩⟩ := tf
    · cases pf <;> cases e
    · cases e
      rw [hR] at e3
      cases e3
  refine s_take (p2.at (mput_ne nR)) (by omega) (by decide) (by decide) fun k3 M3 k3a k3b p3 b3 => ?_
  simp only [n_gI0]
  refine s_take p3 (by omega) (by decide) (by decide) fun k4 M4 k4a k4b p4 b4 => ?_
  have b34 := b3.trans b4
  have mR : M4 R = _ := (b34 R nR.symm).trans mput_same
  have to4 := to2.to (keepB hR b34)
  have tf4 := tf.to (keepB hR b34)
  simp only [n_ixL]
  refine pick k4a (by simpa using k4b) fun ln hln => ?_
  have hl : ∃ m : Int, ln = .int m ∧ 0 ≤ m ∧ m ≤ 9 := by
    simp only [List.mem_cons, List.not_mem_nil, or_false] at hln
    rcases hln with rfl | rfl | rfl
    · exact ⟨_, rfl, by decide, by decide⟩
    · exact ⟨_, rfl, by decide, by decide⟩
    · exact ⟨_, rfl, by omega, by omega⟩
  obtain ⟨m, rfl, hm0, hm9⟩ := hl
  simp only [n_seq, n_next, n_sif, n_ret, n_retN, n_asg, n_drop, n_raise, n_for, n_try, n_nm, n_var0, n_varS, n_c, n_op, n_cb, n_nil, n_cons, n_tup, n_lstF, n_lst, n_val, n_notT, n_andT, n_orT, n_and, n_or, n_not, n_dif, n_chain, n_neg, n_dct0, n_call, n_callK, n_frzV, n_frzC, n_frzK, n_frzL, n_app, n_pop, n_sub, n_lc, n_iRg, n_iSq, n_iEn, n_bl, n_int, n_ref, n_gI, n_gI0, n_ixL, n_ixT, n_ixP, n_lenL, n_lenT, n_isi, n_dIsi2, n_sqL, n_sqT, n_latP, n_tupL, n_tupT, n_sqP, n_in, n_unrt, n_fld, n_wipe1, n_wipe2, n_gtup2, max2_is, min2_is, selT, selF, decide_true, decide_false, at10, at20, at21, at30, at31, at32, at40, at41, at42, at43, ix30, ix31, ix32, mput_same, mput_mput, dOne, oAdd, oSub, oMul, oDiv, oMod, oPow, oShl, oShr, oAnd, oOr, oXor, oLt, oLe, oGt, oGe, Nat.reduceAdd, Nat.reduceLeDiff, Option.some.injEq, exists_eq_left', true_and, and_true, List.set_cons_zero, List.set_cons_succ, List.length_cons, List.length_nil]
  refine ⟨⟨by omega, by omega⟩, fun rr hrr => ?_⟩
  have nrr : a ≠ rr := fun z => p4.ne (z ▸ hrr)
  have nRr : R ≠ rr := fun z => by rw [← z, mR] at hrr; cases hrr
  have end_ : ∀ {M5 : Mem} {ps : List PyData} {e7 e8 : Option D}, Pu M5 a (n + 20) → (∀ c, c ≠ a → c ≠ rr → M5 c = M4 c) → M5 rr = some (.lst (ofPs ps)) → plainPs ps = true → ps.length ≤ 9 → (∀ y ∈ ps, Tame 10 2 y) → okBits (.list ps) = false →
      tailB K { nx := fun x M' => P D.non M', rt := P, bk := fun x x_1 => False, ct := fun x x_1 => False, ex := fun xn x M' => Z xn M' }
        [some (D.ref a), some (D.int size), some (D.v (V.int (1 * 2 ^ size.toNat))), some odd, some far, some (D.ref R), some (.ref rr), e7, e8, none, none, none, none, none, none, none] M5 := by
    intro M5 ps e7 e8 p5 b5 e5 pl l9 tm bad
    have kp : ∀ c, c ≠ a → M4 c ≠ none → M5 c = M4 c := fun c h1 h2 => b5 c h1 fun z => h2 (z ▸ hrr)
    refine s_tail T p5 (by omega) h1 h8 ?_ nR.symm (to4.to kp) (tf4.to kp) ⟨?_, .inr ⟨rr, ps, rfl, rfl, e5, pl, nrr.symm, l9, fun y hy => (tm y hy).mono (by decide) (by decide)⟩⟩ noR nfR (fun z => nRr (by cases z; rfl)) bo bf bad (fun qs z => ?_) fun M' p' => q M' (p'.le (by omega))
    · rw [kp R nR.symm (by rw [mR]; simp)]
      exact mR
    · exact (Tame.list tm).mono (by omega) (by decide)
    · rcases z with z | z
      · cases z
        omega
      · cases z
  refine compL_inv (fun i acc M' => ∃ bs : List Int, acc = bs.map D.int ∧ (∀ x ∈ bs, x = 0 ∨ x = 1) ∧ bs.length = i ∧ M' rr = some (.lst acc) ∧ Pu M' a (n + 4 + i) ∧ i ≤ 9 ∧ ∀ c, c ≠ a → c ≠ rr → M' c = M4 c) (fun _ _ _ _ => True.intro) ?_ ⟨[], rfl, fun x hx => (by cases hx), rfl, mput_same, (p4.at (mput_ne nrr)).le (by omega), by omega, fun c _ h => mput_ne h⟩ ?_
  · rintro i d acc M' R' hd ⟨bs, rfl, h01, hlen, e5, p5, hi9, b5⟩ k
    obtain ⟨rfl, him⟩ := rangeD_get hd
    simp only [n_seq, n_next, n_sif, n_ret, n_retN, n_asg, n_drop, n_raise, n_for, n_try, n_nm, n_var0, n_varS, n_c, n_op, n_cb, n_nil, n_cons, n_tup, n_lstF, n_lst, n_val, n_notT, n_andT, n_orT, n_and, n_or, n_not, n_dif, n_chain, n_neg, n_dct0, n_call, n_callK, n_frzV, n_frzC, n_frzK, n_frzL, n_app, n_pop, n_sub, n_lc, n_iRg, n_iSq, n_iEn, n_bl, n_int, n_ref, n_gI, n_gI0, n_ixL, n_ixT, n_ixP, n_lenL, n_lenT, n_isi, n_dIsi2, n_sqL, n_sqT, n_latP, n_tupL, n_tupT, n_sqP, n_in, n_unrt, n_fld, n_wipe1, n_wipe2, n_gtup2, max2_is, min2_is, selT, selF, decide_true, decide_false, at10, at20, at21, at30, at31, at32, at40, at41, at42, at43, ix30, ix31, ix32, mput_same, mput_mput, dOne, oAdd, oSub, oMul, oDiv, oMod, oPow, oShl, oShr, oAnd, oOr, oXor, oLt, oLe, oGt, oGe, Nat.reduceAdd, Nat.reduceLeDiff, Option.some.injEq, exists_eq_left', true_and, and_true, List.set_cons_zero, List.set_cons_succ, List.length_cons, List.length_nil]
    refine s_take p5 (by omega) (by decide) (by decide) fun v M'' va vb p6 b6 => k _ _ ⟨bs.map D.int, (b6 rr nrr.symm).trans e5, by rw [List.length_map]; omega, bs ++ [v], by rw [List.map_append]; rfl, fun x hx => ?_, by simp [hlen], mput_same, (p6.at (mput_ne nrr)).le (by omega), by omega, fun c hc hc2 => (mput_ne hc2).trans ((b6 c hc).trans (b5 c hc hc2))⟩
    rcases List.mem_append.mp hx with z | z
    · exact h01 x z
    · rw [(List.mem_singleton.mp z)]
      omega
  · rintro acc M5 ⟨bs, rfl, h01, hlen, e5, p5, hi9, b5⟩
    rw [rangeD_length] at hlen hi9
    rw [rangeD_length] at p5
    have e5' : M5 rr = some (.lst (ofPs (bs.map .int))) := by rw [ofPs_ints]; exact e5
    have t01 : ∀ y ∈ bs.map PyData.int, Tame 10 2 y := fun y hy => by
      obtain ⟨x, hx, rfl⟩ := List.mem_map.mp hy
      have := h01 x hx
      exact (Tame.int (by omega) (by omega)).mono (by decide) (by decide)
    refine ne_tree (Val.mem e5' (plain_ints bs)).pd (pdM_ofP (p := .list []) rfl) (shaped_ints bs) (by decide) ?_
    simp only [n_seq, n_next, n_sif, n_ret, n_retN, n_asg, n_drop, n_raise, n_for, n_try, n_nm, n_var0, n_varS, n_c, n_op, n_cb, n_nil, n_cons, n_tup, n_lstF, n_lst, n_val, n_notT, n_andT, n_orT, n_and, n_or, n_not, n_dif, n_chain, n_neg, n_dct0, n_call, n_callK, n_frzV, n_frzC, n_frzK, n_frzL, n_app, n_pop, n_sub, n_lc, n_iRg, n_iSq, n_iEn, n_bl, n_int, n_ref, n_gI, n_gI0, n_ixL, n_ixT, n_ixP, n_lenL, n_lenT, n_isi, n_dIsi2, n_sqL, n_sqT, n_latP, n_tupL, n_tupT, n_sqP, n_in, n_unrt, n_fld, n_wipe1, n_wipe2, n_gtup2, max2_is, min2_is, selT, selF, decide_true, decide_false, at10, at20, at21, at30, at31, at32, at40, at41, at42, at43, ix30, ix31, ix32, mput_same, mput_mput, dOne, oAdd, oSub, oMul, oDiv, oMod, oPow, oShl, oShr, oAnd, oOr, oXor, oLt, oLe, oGt, oGe, Nat.reduceAdd, Nat.reduceLeDiff, Option.some.injEq, exists_eq_left', true_and, and_true, List.set_cons_zero, List.set_cons_succ, List.length_cons, List.length_nil, n_lenR e5, List.length_map]
    cases hbs : bs with
    | nil =>
      subst hbs
      refine byF (by decide) ?_
      exact end_ (ps := []) (p5.le (by omega)) b5 e5' rfl (by decide) (fun y hy => (by cases hy)) rfl
    | cons b0 bs' =>
      rw [← hbs]
      have hne : 1 ≤ bs.length := by rw [hbs]; simp
      refine byT (by rw [hbs]; rfl) ?_
      refine by2 (fun c9 => ?_) fun c9 => ?_
      · have c9 := of_decide_eq_true c9
        refine s_take p5 (by omega) (by omega) (by omega) fun at_ M6 aa ab p6 b6 => ?_
        refine s_take p6 (by omega) (by decide) (by decide) fun k7 M7 k7a k7b p7 b7 => ?_
        have e7 : M7 rr = some (.lst (bs.map D.int)) := (b7 rr nrr.symm).trans ((b6 rr nrr.symm).trans e5)
        simp only [n_ixL]
        refine pick k7a (by simpa using k7b) fun nw hnw => ?_
        simp only [n_seq, n_next, n_sif, n_ret, n_retN, n_asg, n_drop, n_raise, n_for, n_try, n_nm, n_var0, n_varS, n_c, n_op, n_cb, n_nil, n_cons, n_tup, n_lstF, n_lst, n_val, n_notT, n_andT, n_orT, n_and, n_or, n_not, n_dif, n_chain, n_neg, n_dct0, n_call, n_callK, n_frzV, n_frzC, n_frzK, n_frzL, n_app, n_pop, n_sub, n_lc, n_iRg, n_iSq, n_iEn, n_bl, n_int, n_ref, n_gI, n_gI0, n_ixL, n_ixT, n_ixP, n_lenL, n_lenT, n_isi, n_dIsi2, n_sqL, n_sqT, n_latP, n_tupL, n_tupT, n_sqP, n_in, n_unrt, n_fld, n_wipe1, n_wipe2, n_gtup2, max2_is, min2_is, selT, selF, decide_true, decide_false, at10, at20, at21, at30, at31, at32, at40, at41, at42, at43, ix30, ix31, ix32, mput_same, mput_mput, dOne, oAdd, oSub, oMul, oDiv, oMod, oPow, oShl, oShr, oAnd, oOr, oXor, oLt, oLe, oGt, oGe, Nat.reduceAdd, Nat.reduceLeDiff, Option.some.injEq, exists_eq_left', true_and, and_true, List.set_cons_zero, List.set_cons_succ, List.length_cons, List.length_nil, n_lat e7, List.length_map]
        refine ⟨at_.toNat, ?_, ?_⟩
        · unfold ixN
          rw [if_pos aa, if_pos ab]
        have tw : ∃ pw, nw = ofP pw ∧ plainP pw = true ∧ Tame 10 2 pw ∧ wholeD nw 0 1 = false := by
          simp only [List.mem_cons, List.not_mem_nil, or_false] at hnw
          rcases hnw with rfl | rfl | rfl | rfl | rfl | rfl
          · exact ⟨.int 2, rfl, rfl, (Tame.int (by decide) (by decide)).mono (by decide) (by decide), by decide⟩
          · exact ⟨.int (-1), rfl, rfl, (Tame.int (by decide) (by decide)).mono (by decide) (by decide), by decide⟩
          · exact ⟨.bool true, rfl, rfl, Tame.bool.mono (by decide) (by decide), rfl⟩
          · exact ⟨.none, rfl, rfl, Tame.non.mono (by decide) (by decide), rfl⟩
          · exact ⟨.str "1", rfl, rfl, ⟨by decide, by decide, by decide, by decide⟩, rfl⟩
          · exact ⟨.list [.int 0], rfl, rfl, ⟨by decide, by decide, by decide, by decide⟩, rfl⟩
        obtain ⟨pw, rfl, plw, tmw, bw⟩ := tw
        have es : (bs.map D.int).set at_.toNat (ofP pw) = ofPs ((bs.map PyData.int).set at_.toNat pw) := by
          rw [← ofPs_ints, ofPs_map, ofPs_map, List.map_set]
        rw [es]
        refine end_ ((p7.at (mput_ne nrr)).le (by omega)) (fun c hc hc2 => (mput_ne hc2).trans ((b7 c hc).trans ((b6 c hc).trans (b5 c hc hc2)))) mput_same ?_ (by rw [List.length_set, List.length_map]; omega) ?_ ?_
        · have key : ∀ (l : List PyData) (i : Nat), plainPs l = true → plainPs (l.set i pw) = true := by
            intro l
            induction l with
            | nil => intro i h; exact h
            | cons x l ih =>
              intro i h
              simp only [plainPs, Bool.and_eq_true] at h
              cases i with
              | zero => simp only [List.set_cons_zero, plainPs, plw, h.2, Bool.and_self]
              | succ i => simp only [List.set_cons_succ, plainPs, h.1, ih i h.2, Bool.and_self]
          exact key _ _ (plain_ints bs)
        · intro y hy
          rcases List.mem_or_eq_of_mem_set hy with z | z
          · exact t01 y z
          · rw [z]
            exact tmw
        · have hx : (((bs.map PyData.int).set at_.toNat pw).all fun q => wholeD (ofP q) 0 1) = false := by
            rw [Bool.eq_false_iff]
            intro z
            have := List.all_eq_true.mp z pw (List.mem_set (by rw [List.length_map]; omega) _)
            rw [bw] at this
            cases this
          simp only [okBits, hx, Bool.and_false]
      · have c9 : ¬ (bs.length : Int) < 9 := by simpa using c9
        refine end_ (p5.le (by omega)) b5 e5' (plain_ints bs) (by rw [List.length_map]; omega) t01 ?_
        have : ¬ (bs.map PyData.int).length ≤ 8 := by rw [List.length_map]; omega
        simp only [okBits, decide_eq_false this, Bool.and_false, Bool.false_and]
end L02
set_option maxHeartbeats 4000001
namespace L02
open PySem PySem.Spec
open PyProof.Rows L2 DL
variable {K : PySem.W.Frag} {M : Mem} {P : QD} {Z : XD} {mg : Str → Option Value} {base : Heap}
def bodyN (K : PySem.W.Frag) : SF := (sSeq (sAsg (dCall (F__law_bits K) (dCons (dVar 3) (dCons (dVar 4) (dNil)))) (gNm 5))
  (sSeq (sAsg (dCall (F_bits_of K) (dCons (dVar 3) (dCons (dVar 4) (dNil)))) (gNm 6))
  (sSeq (sIf (dOrT (dVal (dOp (gE true) (dCB gRepr (dOne (dVar 6))) (dCB gRepr (dOne (dVar 5))))) (dVal (dOp (gE true) (dCB gRepr (dOne (dCall (F_of_bits K) (dCons (dCB gTupOf (dOne (dVar 5))) (dNil))))) (dCB gRepr (dOne (dVar 4)))))) (sRet (dC (.bl false))) (sNext))
  (sSeq (sDrop (dApp (dVar 6) (dC (.int 1))))
  (sIf (dOrT (dVal (dOp (gE true) (dFrz (dCallK (F_bits_of K) (permG .non [1, 0]) dNil (dCons (dVar 4) (dCons (dVar 3) (dNil))))) (dVar 5))) (dOrT (dVal (dOp (gE true) (dCallK (F_of_bits K) (permG .non [0]) dNil (dCons (dVar 5) (dNil))) (dVar 4))) (dVal (dOp (gE true) (dCB gLen (dOne (dVar 5))) (dVar 3))))) (sRet (dC (.bl false))) (sNext))))))
def restB (K : PySem.W.Frag) : SF := (sSeq (sAsg (dFrz (dLc (iRg (dOp oAdd (dC (.int 1)) (dCall (F__law_take K) (dCons (dVar 2) (dCons (dC (.int 8)) (dNil)))))) (gNm 1) [1] dYes (dCall (F__law_take K) (dCons (dVar 2) (dCons (dC (.int 2)) (dNil)))))) (gNm 7))
  (sSeq (sIf (dOrT (dNotT (dVal (dCB gAll (dOne (dFrz (dLc (iSq (dVar 7)) (gNm 8) [8] dYes (dCall (F__law_is_truth K) (dCons (dVar 8) (dNil))))))))) (dVal (dOp (gE true) (dFrz (dCall (F_bits_of K) (dCons (dCB gLen (dOne (dVar 7))) (dCons (dCall (F_of_bits K) (dCons (dVar 7) (dNil))) (dNil))))) (dVar 7)))) (sRet (dC (.bl false))) (sNext))
  (sFor (iRg (dC (.int 4))) (gNm 9) (sIf (dNotT (dVal (dCall (F__law_refused_right K) (dCons (dVar 2) (dCons (dVar 3) (dNil)))))) (sRet (dC (.bl false))) (sNext)))))
def bodyL (K : PySem.W.Frag) : SF := (sSeq (sAsg (dCall (F__law_purse K) (dCons (dCall (F__law_cell K) (dCons (dVar 0) (dCons (dVar 1) (dNil)))) (dNil))) (gNm 2))
  (sSeq (sAsg (dOp gIx (dLstF (dCons (dC (.int 1)) (dCons (dC (.int 8)) (dCons (dOp oAdd (dC (.int 1)) (dCall (F__law_take K) (dCons (dVar 2) (dCons (dC (.int 8)) (dNil))))) (dNil))))) (dCall (F__law_take K) (dCons (dVar 2) (dCons (dC (.int 3)) (dNil))))) (gNm 3))
  (sSeq (sFor (iRg (dOp oShl (dC (.int 1)) (dVar 3))) (gNm 4) (bodyN K))
  (restB K))))
def headL (K : PySem.W.Frag) : SF := sSeq (sFor (iRg (dCB gMax2 (dCons (dC (.int 2)) (dOne (dCB gMin2 (dCons (dC (.int 8)) (dOne (dCB gLen (dOne (dVar 0)))))))))) (gNm 1) (bodyL K))
  (sRet (dC (.bl true)))
def val : List Int → Int
  | [] => 0
  | x :: r => x + 2 * val r
theorem sum_val : ∀ (bs : List Int) (k : Nat), (bs.mapIdx fun i x => x * 2 ^ (i + k)).sum = 2 ^ k * val bs
  | [], k => by simp [val]
  | x :: bs, k => by
    rw [List.mapIdx_cons, List.sum_cons]
    have h := sum_val bs (k + 1)
    have e : (bs.mapIdx fun i x => x * 2 ^ (i + 1 + k)) = bs.mapIdx fun i x => x * 2 ^ (i + (k + 1)) := by
      congr 1
      funext i x
      rw [Nat.add_assoc, Nat.add_comm 1 k]
    rw [e, h, val, Nat.zero_add, Int.pow_succ, Int.mul_add, Int.mul_comm x, Int.mul_assoc]
theorem sumI_val (bs : List Int) : sumI bs = val bs := by
  have h := sum_val bs 0
  simp only [Nat.add_zero, Int.pow_zero, Int.one_mul] at h
  exact h
theorem bitsI_cons (n : Nat) (m : Int) : bitsI (n + 1) m = m % 2 :: bitsI n (m / 2) := by
  unfold bitsI
  rw [(List.range_succ_eq_map), List.map_cons, List.map_map]
  congr 1
  · simp
  · apply List.map_congr_left
    intro k _
    show m / 2 ^ (k + 1) % 2 = m / 2 / 2 ^ k % 2
    rw [Int.pow_succ, Int.mul_comm, Int.ediv_ediv_of_nonneg (by decide)]
theorem val_bits : ∀ (n : Nat) (m : Int), 0 ≤ m → m < 2 ^ n → val (bitsI n m) = m
  | 0, m, h0, h1 => by
    have : m = 0 := by simp at h1; omega
    rw [this]
    rfl
  | n + 1, m, h0, h1 => by
    rw [Int.pow_succ] at h1
    rw [bitsI_cons, val, val_bits n (m / 2) (by omega) (by omega)]
    omega
theorem bits_val : ∀ bs : List Int, (∀ x ∈ bs, x = 0 ∨ x = 1) → bitsI bs.length (val bs) = bs
  | [], _ => rfl
  | x :: bs, h => by
    have hx := h x List.mem_cons_self
    have ih := bits_val bs fun y hy => h y (List.mem_cons_of_mem _ hy)
    rw [List.length_cons, bitsI_cons, val]
    have e1 : (x + 2 * val bs) % 2 = x := by omega
    have e2 : (x + 2 * val bs) / 2 = val bs := by omega
    rw [e1, e2, ih]
theorem val_lt : ∀ bs : List Int, (∀ x ∈ bs, x = 0 ∨ x = 1) → 0 ≤ val bs ∧ val bs < 2 ^ bs.length
  | [], _ => by simp [val]
  | x :: bs, h => by
    have hx := h x List.mem_cons_self
    have ih := val_lt bs fun y hy => h y (List.mem_cons_of_mem _ hy)
    rw [List.length_cons, Int.pow_succ, val]
    omega
theorem bits01 (n : Nat) (m : Int) : ∀ x ∈ bitsI n m, x = 0 ∨ x = 1 := fun x hx => by
  unfold bitsI at hx
  obtain ⟨k, _, rfl⟩ := List.mem_map.mp hx
  omega
theorem val_list {N : Mem} (bs : List Int) : Val N (.lst (bs.map D.int)) (.list (bs.map .int)) := by
  have h := Val.tree (M := N) (p := .list (bs.map .int)) (by simpa only [plainP] using plain_ints bs)
  simpa only [ofP, ofPs_ints] using h
theorem val_tup {N : Mem} (bs : List Int) : Val N (.tup (bs.map D.int)) (.tuple (bs.map .int)) := by
  have h := Val.tree (M := N) (p := .tuple (bs.map .int)) (by simpa only [plainP] using plain_ints bs)
  simpa only [ofP, ofPs_ints] using h
theorem tame01 {bs : List Int} (h : ∀ x ∈ bs, x = 0 ∨ x = 1) (hl : bs.length ≤ 100) : Tame 1000 2 (.list (bs.map .int)) := by
  refine (Tame.list (b := 0) (k := 0) fun y hy => ?_).mono (by rw [List.length_map]; omega) (by decide)
  obtain ⟨x, hx, rfl⟩ := List.mem_map.mp hy
  have := h x hx
  exact Tame.int (by omega) (by omega)
theorem ok01 {bs : List Int} (h : ∀ x ∈ bs, x = 0 ∨ x = 1) (h1 : 1 ≤ bs.length) (h8 : bs.length ≤ 8) : okBits (.list (bs.map .int)) = true ∧ okBits (.tuple (bs.map .int)) = true := by
  have e : ((bs.map PyData.int).all fun q => wholeD (ofP q) 0 1) = true := by
    rw [List.all_eq_true]
    intro y hy
    obtain ⟨x, hx, rfl⟩ := List.mem_map.mp hy
    have := h x hx
    simp only [wholeD, ofP, Bool.and_eq_true, decide_eq_true_eq]
    omega
  simp only [okBits, e, List.length_map, decide_eq_true h1, decide_eq_true h8, Bool.and_self, and_self]
theorem int_inj {a b : List Int} (h : a.map PyData.int = b.map PyData.int) : a = b := by
  induction a generalizing b with
  | nil =>
    cases b with
    | nil => rfl
    | cons _ _ => cases h
  | cons x a ih =>
    cases b with
    | nil => cases h
    | cons y b =>
      simp only [List.map_cons, List.cons.injEq, PyData.int.injEq] at h
      rw [h.1, ih h.2]
theorem s_sumL {bs : List Int} (h : ∀ x ∈ bs, x = 0 ∨ x = 1) (h1 : 1 ≤ bs.length) (h8 : bs.length ≤ 8) (q : P (.int (val bs)) M) : F_of_bits K [.lst (bs.map D.int)] M P Z :=
  s_ofbits (val_list bs) (fun ps e => by
    rcases e with e | e
    · cases e
      rw [List.length_map]
      omega
    · cases e) (fun cs e _ => by
    rcases e with e | e
    · injection e with e
      rw [← int_inj e, sumI_val]
      exact q
    · cases e) fun bad => by
    rw [(ok01 h h1 h8).1] at bad
    cases bad
theorem s_sumT {bs : List Int} (h : ∀ x ∈ bs, x = 0 ∨ x = 1) (h1 : 1 ≤ bs.length) (h8 : bs.length ≤ 8) (q : P (.int (val bs)) M) : F_of_bits K [.tup (bs.map D.int)] M P Z :=
  s_ofbits (val_tup bs) (fun ps e => by
    rcases e with e | e
    · cases e
    · cases e
      rw [List.length_map]
      omega) (fun cs e _ => by
    rcases e with e | e
    · cases e
    · injection e with e
      rw [← int_inj e, sumI_val]
      exact q) fun bad => by
    rw [(ok01 h h1 h8).2] at bad
    cases bad
theorem s_number {E : EndsD} {a : Addr} {k n m : Int} {e0 e1 e5 e6 e7 e8 e9 : Option D} (hp : Pu M a k) (h1 : 1 ≤ n) (h8 : n ≤ 8) (m0 : 0 ≤ m) (m1 : m < 2 ^ n.toNat)
    (q : ∀ M' u v, Pu M' a k → E.nx [e0, e1, some (.ref a), some (.int n), some (.int m), u, v, e7, e8, e9] M') : bodyN K E [e0, e1, some (.ref a), some (.int n), some (.int m), e5, e6, e7, e8, e9] M := by
  unfold bodyN
  have len : (bitsI n.toNat m).length = n.toNat := bitsI_length _ _
  have b01 := bits01 n.toNat m
  have hv := val_bits n.toNat m m0 m1
  have top : (2 : Int) ^ n.toNat ≤ 256 := by
    have : n = 1 ∨ n = 2 ∨ n = 3 ∨ n = 4 ∨ n = 5 ∨ n = 6 ∨ n = 7 ∨ n = 8 := by omega
    rcases this with rfl | rfl | rfl | rfl | rfl | rfl | rfl | rfl <;> decide
  simp only [n_seq, n_next, n_sif, n_ret, n_retN, n_asg, n_drop, n_raise, n_for, n_try, n_nm, n_var0, n_varS, n_c, n_op, n_cb, n_nil, n_cons, n_tup, n_lstF, n_lst, n_val, n_notT, n_andT, n_orT, n_and, n_or, n_not, n_dif, n_chain, n_neg, n_dct0, n_call, n_callK, n_frzV, n_frzC, n_frzK, n_frzL, n_app, n_pop, n_sub, n_lc, n_iRg, n_iSq, n_iEn, n_bl, n_int, n_ref, n_gI, n_gI0, n_ixL, n_ixT, n_ixP, n_lenL, n_lenT, n_isi, n_dIsi2, n_sqL, n_sqT, n_latP, n_tupL, n_tupT, n_sqP, n_in, n_unrt, n_fld, n_wipe1, n_wipe2, n_gtup2, max2_is, min2_is, selT, selF, decide_true, decide_false, at10, at20, at21, at30, at31, at32, at40, at41, at42, at43, ix30, ix31, ix32, mput_same, mput_mput, dOne, oAdd, oSub, oMul, oDiv, oMod, oPow, oShl, oShr, oAnd, oOr, oXor, oLt, oLe, oGt, oGe, Nat.reduceAdd, Nat.reduceLeDiff, Option.some.injEq, exists_eq_left', true_and, and_true, List.set_cons_zero, List.set_cons_succ, List.length_cons, List.length_nil]
  refine s_lbits (by omega) (by omega) (s_bits h1 h8 m0 m1 fun r hr => ?_)
  have nr : a ≠ r := fun z => hp.ne (z ▸ hr)
  generalize hbl : bitsI n.toNat m = bl at *
  have v1 : Val (mput M r (.lst (bl.map D.int))) (.ref r) (.list (bl.map .int)) := .mem (by rw [mput_same, ofPs_ints]) (plain_ints bl)
  have tm := tame01 b01 (by omega)
  refine repr_is v1.pd tm (by decide) (by decide) (repr_is (val_list bl).pd tm (by decide) (by decide) (ne_str ?_))
  try simp only [n_seq, n_next, n_sif, n_ret, n_retN, n_asg, n_drop, n_raise, n_for, n_try, n_nm, n_var0, n_varS, n_c, n_op, n_cb, n_nil, n_cons, n_tup, n_lstF, n_lst, n_val, n_notT, n_andT, n_orT, n_and, n_or, n_not, n_dif, n_chain, n_neg, n_dct0, n_call, n_callK, n_frzV, n_frzC, n_frzK, n_frzL, n_app, n_pop, n_sub, n_lc, n_iRg, n_iSq, n_iEn, n_bl, n_int, n_ref, n_gI, n_gI0, n_ixL, n_ixT, n_ixP, n_lenL, n_lenT, n_isi, n_dIsi2, n_sqL, n_sqT, n_latP, n_tupL, n_tupT, n_sqP, n_in, n_unrt, n_fld, n_wipe1, n_wipe2, n_gtup2, max2_is, min2_is, selT, selF, decide_true, decide_false, at10, at20, at21, at30, at31, at32, at40, at41, at42, at43, ix30, ix31, ix32, mput_same, mput_mput, dOne, oAdd, oSub, oMul, oDiv, oMod, oPow, oShl, oShr, oAnd, oOr, oXor, oLt, oLe, oGt, oGe, Nat.reduceAdd, Nat.reduceLeDiff, Option.some.injEq, exists_eq_left', true_and, and_true, List.set_cons_zero, List.set_cons_succ, List.length_cons, List.length_nil, Bool.not_true]
  refine s_sumT b01 (by omega) (by omega) ?_
  rw [hv]
  have pm : ∀ N, pdM N (.int m) = some (.int m) := fun N => rfl
  have tI : Tame 0 0 (.int m) := Tame.int (by omega) (by omega)
  refine repr_is (pm _) tI (by decide) (by decide) (repr_is (pm _) tI (by decide) (by decide) (ne_str ?_))
  try simp only [n_seq, n_next, n_sif, n_ret, n_retN, n_asg, n_drop, n_raise, n_for, n_try, n_nm, n_var0, n_varS, n_c, n_op, n_cb, n_nil, n_cons, n_tup, n_lstF, n_lst, n_val, n_notT, n_andT, n_orT, n_and, n_or, n_not, n_dif, n_chain, n_neg, n_dct0, n_call, n_callK, n_frzV, n_frzC, n_frzK, n_frzL, n_app, n_pop, n_sub, n_lc, n_iRg, n_iSq, n_iEn, n_bl, n_int, n_ref, n_gI, n_gI0, n_ixL, n_ixT, n_ixP, n_lenL, n_lenT, n_isi, n_dIsi2, n_sqL, n_sqT, n_latP, n_tupL, n_tupT, n_sqP, n_in, n_unrt, n_fld, n_wipe1, n_wipe2, n_gtup2, max2_is, min2_is, selT, selF, decide_true, decide_false, at10, at20, at21, at30, at31, at32, at40, at41, at42, at43, ix30, ix31, ix32, mput_same, mput_mput, dOne, oAdd, oSub, oMul, oDiv, oMod, oPow, oShl, oShr, oAnd, oOr, oXor, oLt, oLe, oGt, oGe, Nat.reduceAdd, Nat.reduceLeDiff, Option.some.injEq, exists_eq_left', true_and, and_true, List.set_cons_zero, List.set_cons_succ, List.length_cons, List.length_nil, Bool.not_true]
  refine ⟨by rw [List.length_map]; omega, ?_⟩
  show F_bits_of K [.int n, .int m] _ _ _
  refine s_bits h1 h8 m0 m1 fun r2 hr2 => ?_
  rw [hbl]
  try simp only [n_seq, n_next, n_sif, n_ret, n_retN, n_asg, n_drop, n_raise, n_for, n_try, n_nm, n_var0, n_varS, n_c, n_op, n_cb, n_nil, n_cons, n_tup, n_lstF, n_lst, n_val, n_notT, n_andT, n_orT, n_and, n_or, n_not, n_dif, n_chain, n_neg, n_dct0, n_call, n_callK, n_frzV, n_frzC, n_frzK, n_frzL, n_app, n_pop, n_sub, n_lc, n_iRg, n_iSq, n_iEn, n_bl, n_int, n_ref, n_gI, n_gI0, n_ixL, n_ixT, n_ixP, n_lenL, n_lenT, n_isi, n_dIsi2, n_sqL, n_sqT, n_latP, n_tupL, n_tupT, n_sqP, n_in, n_unrt, n_fld, n_wipe1, n_wipe2, n_gtup2, max2_is, min2_is, selT, selF, decide_true, decide_false, at10, at20, at21, at30, at31, at32, at40, at41, at42, at43, ix30, ix31, ix32, mput_same, mput_mput, dOne, oAdd, oSub, oMul, oDiv, oMod, oPow, oShl, oShr, oAnd, oOr, oXor, oLt, oLe, oGt, oGe, Nat.reduceAdd, Nat.reduceLeDiff, Option.some.injEq, exists_eq_left', true_and, and_true, List.set_cons_zero, List.set_cons_succ, List.length_cons, List.length_nil]
  rw [mdel_mput hr2]
  refine ne_tree (val_list bl).pd (val_list bl).pd (shaped_ints bl) (shaped_ints bl) ?_
  rw [shaped_eqv (shaped_ints bl)]
  try simp only [n_seq, n_next, n_sif, n_ret, n_retN, n_asg, n_drop, n_raise, n_for, n_try, n_nm, n_var0, n_varS, n_c, n_op, n_cb, n_nil, n_cons, n_tup, n_lstF, n_lst, n_val, n_notT, n_andT, n_orT, n_and, n_or, n_not, n_dif, n_chain, n_neg, n_dct0, n_call, n_callK, n_frzV, n_frzC, n_frzK, n_frzL, n_app, n_pop, n_sub, n_lc, n_iRg, n_iSq, n_iEn, n_bl, n_int, n_ref, n_gI, n_gI0, n_ixL, n_ixT, n_ixP, n_lenL, n_lenT, n_isi, n_dIsi2, n_sqL, n_sqT, n_latP, n_tupL, n_tupT, n_sqP, n_in, n_unrt, n_fld, n_wipe1, n_wipe2, n_gtup2, max2_is, min2_is, selT, selF, decide_true, decide_false, at10, at20, at21, at30, at31, at32, at40, at41, at42, at43, ix30, ix31, ix32, mput_same, mput_mput, dOne, oAdd, oSub, oMul, oDiv, oMod, oPow, oShl, oShr, oAnd, oOr, oXor, oLt, oLe, oGt, oGe, Nat.reduceAdd, Nat.reduceLeDiff, Option.some.injEq, exists_eq_left', true_and, and_true, List.set_cons_zero, List.set_cons_succ, List.length_cons, List.length_nil, Bool.not_true]
  show F_of_bits K [.lst (bl.map D.int)] _ _ _
  refine s_sumL b01 (by omega) (by omega) ?_
  rw [hv]
  refine ne_int' ?_
  try simp only [n_seq, n_next, n_sif, n_ret, n_retN, n_asg, n_drop, n_raise, n_for, n_try, n_nm, n_var0, n_varS, n_c, n_op, n_cb, n_nil, n_cons, n_tup, n_lstF, n_lst, n_val, n_notT, n_andT, n_orT, n_and, n_or, n_not, n_dif, n_chain, n_neg, n_dct0, n_call, n_callK, n_frzV, n_frzC, n_frzK, n_frzL, n_app, n_pop, n_sub, n_lc, n_iRg, n_iSq, n_iEn, n_bl, n_int, n_ref, n_gI, n_gI0, n_ixL, n_ixT, n_ixP, n_lenL, n_lenT, n_isi, n_dIsi2, n_sqL, n_sqT, n_latP, n_tupL, n_tupT, n_sqP, n_in, n_unrt, n_fld, n_wipe1, n_wipe2, n_gtup2, max2_is, min2_is, selT, selF, decide_true, decide_false, at10, at20, at21, at30, at31, at32, at40, at41, at42, at43, ix30, ix31, ix32, mput_same, mput_mput, dOne, oAdd, oSub, oMul, oDiv, oMod, oPow, oShl, oShr, oAnd, oOr, oXor, oLt, oLe, oGt, oGe, Nat.reduceAdd, Nat.reduceLeDiff, Option.some.injEq, exists_eq_left', true_and, and_true, List.set_cons_zero, List.set_cons_succ, List.length_cons, List.length_nil, Bool.not_true]
  refine ne_int' ?_
  have el : ((bl.map D.int).length : Int) = n := by rw [List.length_map, len]; omega
  rw [el]
  try simp only [n_seq, n_next, n_sif, n_ret, n_retN, n_asg, n_drop, n_raise, n_for, n_try, n_nm, n_var0, n_varS, n_c, n_op, n_cb, n_nil, n_cons, n_tup, n_lstF, n_lst, n_val, n_notT, n_andT, n_orT, n_and, n_or, n_not, n_dif, n_chain, n_neg, n_dct0, n_call, n_callK, n_frzV, n_frzC, n_frzK, n_frzL, n_app, n_pop, n_sub, n_lc, n_iRg, n_iSq, n_iEn, n_bl, n_int, n_ref, n_gI, n_gI0, n_ixL, n_ixT, n_ixP, n_lenL, n_lenT, n_isi, n_dIsi2, n_sqL, n_sqT, n_latP, n_tupL, n_tupT, n_sqP, n_in, n_unrt, n_fld, n_wipe1, n_wipe2, n_gtup2, max2_is, min2_is, selT, selF, decide_true, decide_false, at10, at20, at21, at30, at31, at32, at40, at41, at42, at43, ix30, ix31, ix32, mput_same, mput_mput, dOne, oAdd, oSub, oMul, oDiv, oMod, oPow, oShl, oShr, oAnd, oOr, oXor, oLt, oLe, oGt, oGe, Nat.reduceAdd, Nat.reduceLeDiff, Option.some.injEq, exists_eq_left', true_and, and_true, List.set_cons_zero, List.set_cons_succ, List.length_cons, List.length_nil, Bool.not_true]
  exact q _ _ _ (hp.at (mput_ne nr))
end L02
set_option maxHeartbeats 4000001
namespace L02
open PySem PySem.Spec
open PyProof.Rows L2 DL
variable {K : PySem.W.Frag} {M : Mem} {P : QD} {Z : XD} {mg : Str → Option Value} {base : Heap}
theorem s_rest (T : Tx K mg base) {E : EndsD} {a : Addr} {k n : Int} {e0 e1 e4 e5 e6 e7 e8 e9 : Option D} (hp : Pu M a k) (hk : k ≤ 1000) (h1 : 1 ≤ n) (h8 : n ≤ 8)
    (q : ∀ M' u v, E.nx [e0, e1, some (.ref a), some (.int n), e4, e5, e6, u, e8, v] M') : restB K E [e0, e1, some (.ref a), some (.int n), e4, e5, e6, e7, e8, e9] M := by
  unfold restB
  simp only [n_seq, n_next, n_sif, n_ret, n_retN, n_asg, n_drop, n_raise, n_for, n_try, n_nm, n_var0, n_varS, n_c, n_op, n_cb, n_nil, n_cons, n_tup, n_lstF, n_lst, n_val, n_notT, n_andT, n_orT, n_and, n_or, n_not, n_dif, n_chain, n_neg, n_dct0, n_call, n_callK, n_frzV, n_frzC, n_frzK, n_frzL, n_app, n_pop, n_sub, n_lc, n_iRg, n_iSq, n_iEn, n_bl, n_int, n_ref, n_gI, n_gI0, n_ixL, n_ixT, n_ixP, n_lenL, n_lenT, n_isi, n_dIsi2, n_sqL, n_sqT, n_latP, n_tupL, n_tupT, n_sqP, n_in, n_unrt, n_fld, n_wipe1, n_wipe2, n_gtup2, max2_is, min2_is, selT, selF, decide_true, decide_false, at10, at20, at21, at30, at31, at32, at40, at41, at42, at43, ix30, ix31, ix32, mput_same, mput_mput, dOne, oAdd, oSub, oMul, oDiv, oMod, oPow, oShl, oShr, oAnd, oOr, oXor, oLt, oLe, oGt, oGe, Nat.reduceAdd, Nat.reduceLeDiff, Option.some.injEq, exists_eq_left', true_and, and_true, List.set_cons_zero, List.set_cons_succ, List.length_cons, List.length_nil]
  refine s_take hp (by omega) (by decide) (by decide) fun k1 M1 k1a k1b p1 b1 => ?_
  simp only [n_seq, n_next, n_sif, n_ret, n_retN, n_asg, n_drop, n_raise, n_for, n_try, n_nm, n_var0, n_varS, n_c, n_op, n_cb, n_nil, n_cons, n_tup, n_lstF, n_lst, n_val, n_notT, n_andT, n_orT, n_and, n_or, n_not, n_dif, n_chain, n_neg, n_dct0, n_call, n_callK, n_frzV, n_frzC, n_frzK, n_frzL, n_app, n_pop, n_sub, n_lc, n_iRg, n_iSq, n_iEn, n_bl, n_int, n_ref, n_gI, n_gI0, n_ixL, n_ixT, n_ixP, n_lenL, n_lenT, n_isi, n_dIsi2, n_sqL, n_sqT, n_latP, n_tupL, n_tupT, n_sqP, n_in, n_unrt, n_fld, n_wipe1, n_wipe2, n_gtup2, max2_is, min2_is, selT, selF, decide_true, decide_false, at10, at20, at21, at30, at31, at32, at40, at41, at42, at43, ix30, ix31, ix32, mput_same, mput_mput, dOne, oAdd, oSub, oMul, oDiv, oMod, oPow, oShl, oShr, oAnd, oOr, oXor, oLt, oLe, oGt, oGe, Nat.reduceAdd, Nat.reduceLeDiff, Option.some.injEq, exists_eq_left', true_and, and_true, List.set_cons_zero, List.set_cons_succ, List.length_cons, List.length_nil]
  refine ⟨⟨by omega, by omega⟩, cFrz_inv (fun i acc M' => ∃ bs : List Int, acc = bs.map D.int ∧ (∀ x ∈ bs, x = 0 ∨ x = 1) ∧ i ≤ 9 ∧ Pu M' a (k + 1 + i)) (fun _ _ _ _ => True.intro) ?_ (by rw [rangeD_length]; omega) (fun r hr => ⟨[], rfl, fun x hx => (by cases hx), by omega, (p1.at (mput_ne fun z => p1.ne (z ▸ hr))).le (by omega)⟩) ?_⟩
  · rintro r hr i d acc M' R hd e1 e2 ⟨bs, rfl, h01, hi, p2⟩ kont
    have nr : a ≠ r := fun z => p1.ne (z ▸ hr)
    obtain ⟨rfl, him⟩ := rangeD_get hd
    simp only [n_seq, n_next, n_sif, n_ret, n_retN, n_asg, n_drop, n_raise, n_for, n_try, n_nm, n_var0, n_varS, n_c, n_op, n_cb, n_nil, n_cons, n_tup, n_lstF, n_lst, n_val, n_notT, n_andT, n_orT, n_and, n_or, n_not, n_dif, n_chain, n_neg, n_dct0, n_call, n_callK, n_frzV, n_frzC, n_frzK, n_frzL, n_app, n_pop, n_sub, n_lc, n_iRg, n_iSq, n_iEn, n_bl, n_int, n_ref, n_gI, n_gI0, n_ixL, n_ixT, n_ixP, n_lenL, n_lenT, n_isi, n_dIsi2, n_sqL, n_sqT, n_latP, n_tupL, n_tupT, n_sqP, n_in, n_unrt, n_fld, n_wipe1, n_wipe2, n_gtup2, max2_is, min2_is, selT, selF, decide_true, decide_false, at10, at20, at21, at30, at31, at32, at40, at41, at42, at43, ix30, ix31, ix32, mput_same, mput_mput, dOne, oAdd, oSub, oMul, oDiv, oMod, oPow, oShl, oShr, oAnd, oOr, oXor, oLt, oLe, oGt, oGe, Nat.reduceAdd, Nat.reduceLeDiff, Option.some.injEq, exists_eq_left', true_and, and_true, List.set_cons_zero, List.set_cons_succ, List.length_cons, List.length_nil]
    refine s_take p2 (by omega) (by decide) (by decide) fun v M2 va vb p3 b3 => kont _ _ ((b3 r nr.symm).trans e1) ⟨bs ++ [v], by rw [List.map_append]; rfl, fun x hx => ?_, by omega, (p3.at (mput_ne nr)).le (by omega)⟩
    rcases List.mem_append.mp hx with z | z
    · exact h01 x z
    · rw [(List.mem_singleton.mp z)]
      omega
  · rintro r acc M' hr ⟨bs, rfl, h01, hi, p2⟩ hlen
    have nr : a ≠ r := fun z => p1.ne (z ▸ hr)
    have p3 : Pu (mdel M' r) a (k + 1 + 9) := (p2.at (mdel_ne nr)).le (by rw [rangeD_length] at hi; rw [rangeD_length]; omega)
    rw [List.length_map, rangeD_length] at hlen
    have l1 : 1 ≤ bs.length := by omega
    have l8 : bs.length ≤ 8 := by omega
    generalize mdel M' r = N at *
    simp only [n_seq, n_next, n_sif, n_ret, n_retN, n_asg, n_drop, n_raise, n_for, n_try, n_nm, n_var0, n_varS, n_c, n_op, n_cb, n_nil, n_cons, n_tup, n_lstF, n_lst, n_val, n_notT, n_andT, n_orT, n_and, n_or, n_not, n_dif, n_chain, n_neg, n_dct0, n_call, n_callK, n_frzV, n_frzC, n_frzK, n_frzL, n_app, n_pop, n_sub, n_lc, n_iRg, n_iSq, n_iEn, n_bl, n_int, n_ref, n_gI, n_gI0, n_ixL, n_ixT, n_ixP, n_lenL, n_lenT, n_isi, n_dIsi2, n_sqL, n_sqT, n_latP, n_tupL, n_tupT, n_sqP, n_in, n_unrt, n_fld, n_wipe1, n_wipe2, n_gtup2, max2_is, min2_is, selT, selF, decide_true, decide_false, at10, at20, at21, at30, at31, at32, at40, at41, at42, at43, ix30, ix31, ix32, mput_same, mput_mput, dOne, oAdd, oSub, oMul, oDiv, oMod, oPow, oShl, oShr, oAnd, oOr, oXor, oLt, oLe, oGt, oGe, Nat.reduceAdd, Nat.reduceLeDiff, Option.some.injEq, exists_eq_left', true_and, and_true, List.set_cons_zero, List.set_cons_succ, List.length_cons, List.length_nil]
    refine cFrz_of (fun _ => .bl true) (fun _ _ _ => True.intro) (by rw [List.length_map]; omega) (fun d r2 l R hd hr2 rr => ?_) ?_
    · obtain ⟨x, hx, rfl⟩ := List.mem_map.mp hd
      simp only [n_seq, n_next, n_sif, n_ret, n_retN, n_asg, n_drop, n_raise, n_for, n_try, n_nm, n_var0, n_varS, n_c, n_op, n_cb, n_nil, n_cons, n_tup, n_lstF, n_lst, n_val, n_notT, n_andT, n_orT, n_and, n_or, n_not, n_dif, n_chain, n_neg, n_dct0, n_call, n_callK, n_frzV, n_frzC, n_frzK, n_frzL, n_app, n_pop, n_sub, n_lc, n_iRg, n_iSq, n_iEn, n_bl, n_int, n_ref, n_gI, n_gI0, n_ixL, n_ixT, n_ixP, n_lenL, n_lenT, n_isi, n_dIsi2, n_sqL, n_sqT, n_latP, n_tupL, n_tupT, n_sqP, n_in, n_unrt, n_fld, n_wipe1, n_wipe2, n_gtup2, max2_is, min2_is, selT, selF, decide_true, decide_false, at10, at20, at21, at30, at31, at32, at40, at41, at42, at43, ix30, ix31, ix32, mput_same, mput_mput, dOne, oAdd, oSub, oMul, oDiv, oMod, oPow, oShl, oShr, oAnd, oOr, oXor, oLt, oLe, oGt, oGe, Nat.reduceAdd, Nat.reduceLeDiff, Option.some.injEq, exists_eq_left', true_and, and_true, List.set_cons_zero, List.set_cons_succ, List.length_cons, List.length_nil]
      refine s_lis_truth ?_
      rw [decide_eq_true (h01 x hx)]
      exact rr
    have eB : (bs.map D.int).map (fun _ => D.bl true) = (bs.map fun _ => true).map D.bl := by rw [List.map_map, List.map_map]; rfl
    rw [eB]
    refine all_of ?_
    have eC : (bs.map fun _ => true).all id = true := by simp
    rw [eC]
    try simp only [n_seq, n_next, n_sif, n_ret, n_retN, n_asg, n_drop, n_raise, n_for, n_try, n_nm, n_var0, n_varS, n_c, n_op, n_cb, n_nil, n_cons, n_tup, n_lstF, n_lst, n_val, n_notT, n_andT, n_orT, n_and, n_or, n_not, n_dif, n_chain, n_neg, n_dct0, n_call, n_callK, n_frzV, n_frzC, n_frzK, n_frzL, n_app, n_pop, n_sub, n_lc, n_iRg, n_iSq, n_iEn, n_bl, n_int, n_ref, n_gI, n_gI0, n_ixL, n_ixT, n_ixP, n_lenL, n_lenT, n_isi, n_dIsi2, n_sqL, n_sqT, n_latP, n_tupL, n_tupT, n_sqP, n_in, n_unrt, n_fld, n_wipe1, n_wipe2, n_gtup2, max2_is, min2_is, selT, selF, decide_true, decide_false, at10, at20, at21, at30, at31, at32, at40, at41, at42, at43, ix30, ix31, ix32, mput_same, mput_mput, dOne, oAdd, oSub, oMul, oDiv, oMod, oPow, oShl, oShr, oAnd, oOr, oXor, oLt, oLe, oGt, oGe, Nat.reduceAdd, Nat.reduceLeDiff, Option.some.injEq, exists_eq_left', true_and, and_true, List.set_cons_zero, List.set_cons_succ, List.length_cons, List.length_nil, Bool.not_true, List.length_map]
    have hv := val_lt bs h01
    refine s_sumL h01 l1 l8 (s_bits (by omega) (by omega) hv.1 (by simpa using hv.2) fun r2 hr2 => ?_)
    have eN : bitsI ((bs.length : Int)).toNat (val bs) = bs := by
      have : ((bs.length : Int)).toNat = bs.length := by omega
      rw [this]
      exact bits_val bs h01
    rw [eN]
    try simp only [n_seq, n_next, n_sif, n_ret, n_retN, n_asg, n_drop, n_raise, n_for, n_try, n_nm, n_var0, n_varS, n_c, n_op, n_cb, n_nil, n_cons, n_tup, n_lstF, n_lst, n_val, n_notT, n_andT, n_orT, n_and, n_or, n_not, n_dif, n_chain, n_neg, n_dct0, n_call, n_callK, n_frzV, n_frzC, n_frzK, n_frzL, n_app, n_pop, n_sub, n_lc, n_iRg, n_iSq, n_iEn, n_bl, n_int, n_ref, n_gI, n_gI0, n_ixL, n_ixT, n_ixP, n_lenL, n_lenT, n_isi, n_dIsi2, n_sqL, n_sqT, n_latP, n_tupL, n_tupT, n_sqP, n_in, n_unrt, n_fld, n_wipe1, n_wipe2, n_gtup2, max2_is, min2_is, selT, selF, decide_true, decide_false, at10, at20, at21, at30, at31, at32, at40, at41, at42, at43, ix30, ix31, ix32, mput_same, mput_mput, dOne, oAdd, oSub, oMul, oDiv, oMod, oPow, oShl, oShr, oAnd, oOr, oXor, oLt, oLe, oGt, oGe, Nat.reduceAdd, Nat.reduceLeDiff, Option.some.injEq, exists_eq_left', true_and, and_true, List.set_cons_zero, List.set_cons_succ, List.length_cons, List.length_nil]
    rw [mdel_mput hr2]
    refine ne_tree (val_list bs).pd (val_list bs).pd (shaped_ints bs) (shaped_ints bs) ?_
    rw [shaped_eqv (shaped_ints bs)]
    try simp only [n_seq, n_next, n_sif, n_ret, n_retN, n_asg, n_drop, n_raise, n_for, n_try, n_nm, n_var0, n_varS, n_c, n_op, n_cb, n_nil, n_cons, n_tup, n_lstF, n_lst, n_val, n_notT, n_andT, n_orT, n_and, n_or, n_not, n_dif, n_chain, n_neg, n_dct0, n_call, n_callK, n_frzV, n_frzC, n_frzK, n_frzL, n_app, n_pop, n_sub, n_lc, n_iRg, n_iSq, n_iEn, n_bl, n_int, n_ref, n_gI, n_gI0, n_ixL, n_ixT, n_ixP, n_lenL, n_lenT, n_isi, n_dIsi2, n_sqL, n_sqT, n_latP, n_tupL, n_tupT, n_sqP, n_in, n_unrt, n_fld, n_wipe1, n_wipe2, n_gtup2, max2_is, min2_is, selT, selF, decide_true, decide_false, at10, at20, at21, at30, at31, at32, at40, at41, at42, at43, ix30, ix31, ix32, mput_same, mput_mput, dOne, oAdd, oSub, oMul, oDiv, oMod, oPow, oShl, oShr, oAnd, oOr, oXor, oLt, oLe, oGt, oGe, Nat.reduceAdd, Nat.reduceLeDiff, Option.some.injEq, exists_eq_left', true_and, and_true, List.set_cons_zero, List.set_cons_succ, List.length_cons, List.length_nil, Bool.not_true]
    refine ⟨by decide, ?_⟩
    refine forL_inv (fun i env M' => ∃ x9, env = [e0, e1, some (.ref a), some (.int n), e4, e5, e6, some (.lst (bs.map D.int)), e8, x9] ∧ i ≤ 4 ∧ Pu M' a (k + 10 + 40 * i)) (fun _ _ _ _ => True.intro) ?_ ⟨_, rfl, by omega, p3.le (by omega)⟩ ?_
    · rintro i d env M2 R hd ⟨x9, rfl, hi4, p4⟩ kont
      obtain ⟨rfl, him⟩ := rangeD_get hd
      simp only [n_seq, n_next, n_sif, n_ret, n_retN, n_asg, n_drop, n_raise, n_for, n_try, n_nm, n_var0, n_varS, n_c, n_op, n_cb, n_nil, n_cons, n_tup, n_lstF, n_lst, n_val, n_notT, n_andT, n_orT, n_and, n_or, n_not, n_dif, n_chain, n_neg, n_dct0, n_call, n_callK, n_frzV, n_frzC, n_frzK, n_frzL, n_app, n_pop, n_sub, n_lc, n_iRg, n_iSq, n_iEn, n_bl, n_int, n_ref, n_gI, n_gI0, n_ixL, n_ixT, n_ixP, n_lenL, n_lenT, n_isi, n_dIsi2, n_sqL, n_sqT, n_latP, n_tupL, n_tupT, n_sqP, n_in, n_unrt, n_fld, n_wipe1, n_wipe2, n_gtup2, max2_is, min2_is, selT, selF, decide_true, decide_false, at10, at20, at21, at30, at31, at32, at40, at41, at42, at43, ix30, ix31, ix32, mput_same, mput_mput, dOne, oAdd, oSub, oMul, oDiv, oMod, oPow, oShl, oShr, oAnd, oOr, oXor, oLt, oLe, oGt, oGe, Nat.reduceAdd, Nat.reduceLeDiff, Option.some.injEq, exists_eq_left', true_and, and_true, List.set_cons_zero, List.set_cons_succ, List.length_cons, List.length_nil]
      refine s_refused T p4 (by omega) h1 h8 fun M3 p5 => ?_
      simp only [n_seq, n_next, n_sif, n_ret, n_retN, n_asg, n_drop, n_raise, n_for, n_try, n_nm, n_var0, n_varS, n_c, n_op, n_cb, n_nil, n_cons, n_tup, n_lstF, n_lst, n_val, n_notT, n_andT, n_orT, n_and, n_or, n_not, n_dif, n_chain, n_neg, n_dct0, n_call, n_callK, n_frzV, n_frzC, n_frzK, n_frzL, n_app, n_pop, n_sub, n_lc, n_iRg, n_iSq, n_iEn, n_bl, n_int, n_ref, n_gI, n_gI0, n_ixL, n_ixT, n_ixP, n_lenL, n_lenT, n_isi, n_dIsi2, n_sqL, n_sqT, n_latP, n_tupL, n_tupT, n_sqP, n_in, n_unrt, n_fld, n_wipe1, n_wipe2, n_gtup2, max2_is, min2_is, selT, selF, decide_true, decide_false, at10, at20, at21, at30, at31, at32, at40, at41, at42, at43, ix30, ix31, ix32, mput_same, mput_mput, dOne, oAdd, oSub, oMul, oDiv, oMod, oPow, oShl, oShr, oAnd, oOr, oXor, oLt, oLe, oGt, oGe, Nat.reduceAdd, Nat.reduceLeDiff, Option.some.injEq, exists_eq_left', true_and, and_true, List.set_cons_zero, List.set_cons_succ, List.length_cons, List.length_nil, Bool.not_true]
      exact kont _ _ ⟨_, rfl, by omega, p5.le (by omega)⟩
    · rintro env M2 ⟨x9, rfl, _, _⟩
      exact q _ _ _
theorem s_body (T : Tx K mg base) {E : EndsD} {ns : List Int} {i : Int} {e2 e3 e4 e5 e6 e7 e8 e9 : Option D} (hi : 0 ≤ i) (hi2 : i < 100) (q : ∀ M' x2 x3 x4 x5 x6 x7 x8 x9, E.nx [some (.lst (ns.map D.int)), some (.int i), x2, x3, x4, x5, x6, x7, x8, x9] M') :
    bodyL K E [some (.lst (ns.map D.int)), some (.int i), e2, e3, e4, e5, e6, e7, e8, e9] M := by
  unfold bodyL
  simp only [n_seq, n_next, n_sif, n_ret, n_retN, n_asg, n_drop, n_raise, n_for, n_try, n_nm, n_var0, n_varS, n_c, n_op, n_cb, n_nil, n_cons, n_tup, n_lstF, n_lst, n_val, n_notT, n_andT, n_orT, n_and, n_or, n_not, n_dif, n_chain, n_neg, n_dct0, n_call, n_callK, n_frzV, n_frzC, n_frzK, n_frzL, n_app, n_pop, n_sub, n_lc, n_iRg, n_iSq, n_iEn, n_bl, n_int, n_ref, n_gI, n_gI0, n_ixL, n_ixT, n_ixP, n_lenL, n_lenT, n_isi, n_dIsi2, n_sqL, n_sqT, n_latP, n_tupL, n_tupT, n_sqP, n_in, n_unrt, n_fld, n_wipe1, n_wipe2, n_gtup2, max2_is, min2_is, selT, selF, decide_true, decide_false, at10, at20, at21, at30, at31, at32, at40, at41, at42, at43, ix30, ix31, ix32, mput_same, mput_mput, dOne, oAdd, oSub, oMul, oDiv, oMod, oPow, oShl, oShr, oAnd, oOr, oXor, oLt, oLe, oGt, oGe, Nat.reduceAdd, Nat.reduceLeDiff, Option.some.injEq, exists_eq_left', true_and, and_true, List.set_cons_zero, List.set_cons_succ, List.length_cons, List.length_nil]
  refine s_cell hi (by omega) fun c => s_purse fun a M1 ha hp b1 => ?_
  try simp only [n_seq, n_next, n_sif, n_ret, n_retN, n_asg, n_drop, n_raise, n_for, n_try, n_nm, n_var0, n_varS, n_c, n_op, n_cb, n_nil, n_cons, n_tup, n_lstF, n_lst, n_val, n_notT, n_andT, n_orT, n_and, n_or, n_not, n_dif, n_chain, n_neg, n_dct0, n_call, n_callK, n_frzV, n_frzC, n_frzK, n_frzL, n_app, n_pop, n_sub, n_lc, n_iRg, n_iSq, n_iEn, n_bl, n_int, n_ref, n_gI, n_gI0, n_ixL, n_ixT, n_ixP, n_lenL, n_lenT, n_isi, n_dIsi2, n_sqL, n_sqT, n_latP, n_tupL, n_tupT, n_sqP, n_in, n_unrt, n_fld, n_wipe1, n_wipe2, n_gtup2, max2_is, min2_is, selT, selF, decide_true, decide_false, at10, at20, at21, at30, at31, at32, at40, at41, at42, at43, ix30, ix31, ix32, mput_same, mput_mput, dOne, oAdd, oSub, oMul, oDiv, oMod, oPow, oShl, oShr, oAnd, oOr, oXor, oLt, oLe, oGt, oGe, Nat.reduceAdd, Nat.reduceLeDiff, Option.some.injEq, exists_eq_left', true_and, and_true, List.set_cons_zero, List.set_cons_succ, List.length_cons, List.length_nil]
  refine s_take hp (by omega) (by decide) (by decide) fun k1 M2 k1a k1b p1 b2 => ?_
  try simp only [n_seq, n_next, n_sif, n_ret, n_retN, n_asg, n_drop, n_raise, n_for, n_try, n_nm, n_var0, n_varS, n_c, n_op, n_cb, n_nil, n_cons, n_tup, n_lstF, n_lst, n_val, n_notT, n_andT, n_orT, n_and, n_or, n_not, n_dif, n_chain, n_neg, n_dct0, n_call, n_callK, n_frzV, n_frzC, n_frzK, n_frzL, n_app, n_pop, n_sub, n_lc, n_iRg, n_iSq, n_iEn, n_bl, n_int, n_ref, n_gI, n_gI0, n_ixL, n_ixT, n_ixP, n_lenL, n_lenT, n_isi, n_dIsi2, n_sqL, n_sqT, n_latP, n_tupL, n_tupT, n_sqP, n_in, n_unrt, n_fld, n_wipe1, n_wipe2, n_gtup2, max2_is, min2_is, selT, selF, decide_true, decide_false, at10, at20, at21, at30, at31, at32, at40, at41, at42, at43, ix30, ix31, ix32, mput_same, mput_mput, dOne, oAdd, oSub, oMul, oDiv, oMod, oPow, oShl, oShr, oAnd, oOr, oXor, oLt, oLe, oGt, oGe, Nat.reduceAdd, Nat.reduceLeDiff, Option.some.injEq, exists_eq_left', true_and, and_true, List.set_cons_zero, List.set_cons_succ, List.length_cons, List.length_nil]
  refine s_take p1 (by omega) (by decide) (by decide) fun k2 M3 k2a k2b p2 b3 => ?_
  simp only [n_ixL]
  refine pick k2a (by simpa using k2b) fun sz hsz => ?_
  have hs : ∃ n : Int, sz = .int n ∧ 1 ≤ n ∧ n ≤ 8 := by
    simp only [List.mem_cons, List.not_mem_nil, or_false] at hsz
    rcases hsz with rfl | rfl | rfl
    · exact ⟨_, rfl, by decide, by decide⟩
    · exact ⟨_, rfl, by decide, by decide⟩
    · exact ⟨_, rfl, by omega, by omega⟩
  obtain ⟨n, rfl, h1, h8⟩ := hs
  have top : (2 : Int) ≤ 2 ^ n.toNat ∧ (2 : Int) ^ n.toNat ≤ 256 := by
    have : n = 1 ∨ n = 2 ∨ n = 3 ∨ n = 4 ∨ n = 5 ∨ n = 6 ∨ n = 7 ∨ n = 8 := by omega
    rcases this with rfl | rfl | rfl | rfl | rfl | rfl | rfl | rfl <;> decide
  simp only [n_seq, n_next, n_sif, n_ret, n_retN, n_asg, n_drop, n_raise, n_for, n_try, n_nm, n_var0, n_varS, n_c, n_op, n_cb, n_nil, n_cons, n_tup, n_lstF, n_lst, n_val, n_notT, n_andT, n_orT, n_and, n_or, n_not, n_dif, n_chain, n_neg, n_dct0, n_call, n_callK, n_frzV, n_frzC, n_frzK, n_frzL, n_app, n_pop, n_sub, n_lc, n_iRg, n_iSq, n_iEn, n_bl, n_int, n_ref, n_gI, n_gI0, n_ixL, n_ixT, n_ixP, n_lenL, n_lenT, n_isi, n_dIsi2, n_sqL, n_sqT, n_latP, n_tupL, n_tupT, n_sqP, n_in, n_unrt, n_fld, n_wipe1, n_wipe2, n_gtup2, max2_is, min2_is, selT, selF, decide_true, decide_false, at10, at20, at21, at30, at31, at32, at40, at41, at42, at43, ix30, ix31, ix32, mput_same, mput_mput, dOne, oAdd, oSub, oMul, oDiv, oMod, oPow, oShl, oShr, oAnd, oOr, oXor, oLt, oLe, oGt, oGe, Nat.reduceAdd, Nat.reduceLeDiff, Option.some.injEq, exists_eq_left', true_and, and_true, List.set_cons_zero, List.set_cons_succ, List.length_cons, List.length_nil]
  refine ⟨⟨by omega, by omega, by decide⟩, ⟨by omega, by omega⟩, ?_⟩
  refine forL_inv (fun j env M' => ∃ x4 x5 x6, env = [some (.lst (ns.map D.int)), some (.int i), some (.ref a), some (.int n), x4, x5, x6, e7, e8, e9] ∧ Pu M' a 2) (fun _ _ _ _ => True.intro) ?_ ⟨_, _, _, rfl, p2.le (by omega)⟩ ?_
  · rintro j d env M' R hd ⟨x4, x5, x6, rfl, p4⟩ kont
    obtain ⟨rfl, hj⟩ := rangeD_get hd
    show bodyN K _ _ _
    exact s_number p4 h1 h8 (by omega) (by omega) fun M'' u v p5 => kont _ _ ⟨_, _, _, rfl, p5⟩
  · rintro env M' ⟨x4, x5, x6, rfl, p4⟩
    exact s_rest T p4 (by omega) h1 h8 fun M'' u v => q _ _ _ _ _ _ _ _ _
theorem s_law (T : Tx K mg base) {ns : List Int} (hz : ns.length ≤ 63) (q : ∀ M', P (.bl true) M') : F_law K [.lst (ns.map D.int)] M P Z := by
  show headL K _ [some (.lst (ns.map D.int)), none, none, none, none, none, none, none, none, none] M
  unfold headL
  simp only [n_seq, n_next, n_sif, n_ret, n_retN, n_asg, n_drop, n_raise, n_for, n_try, n_nm, n_var0, n_varS, n_c, n_op, n_cb, n_nil, n_cons, n_tup, n_lstF, n_lst, n_val, n_notT, n_andT, n_orT, n_and, n_or, n_not, n_dif, n_chain, n_neg, n_dct0, n_call, n_callK, n_frzV, n_frzC, n_frzK, n_frzL, n_app, n_pop, n_sub, n_lc, n_iRg, n_iSq, n_iEn, n_bl, n_int, n_ref, n_gI, n_gI0, n_ixL, n_ixT, n_ixP, n_lenL, n_lenT, n_isi, n_dIsi2, n_sqL, n_sqT, n_latP, n_tupL, n_tupT, n_sqP, n_in, n_unrt, n_fld, n_wipe1, n_wipe2, n_gtup2, max2_is, min2_is, selT, selF, decide_true, decide_false, at10, at20, at21, at30, at31, at32, at40, at41, at42, at43, ix30, ix31, ix32, mput_same, mput_mput, dOne, oAdd, oSub, oMul, oDiv, oMod, oPow, oShl, oShr, oAnd, oOr, oXor, oLt, oLe, oGt, oGe, Nat.reduceAdd, Nat.reduceLeDiff, Option.some.injEq, exists_eq_left', true_and, and_true, List.set_cons_zero, List.set_cons_succ, List.length_cons, List.length_nil, List.length_map]
  refine ⟨⟨?_, ?_⟩, forL_inv (fun i env M' => ∃ x1 x2 x3 x4 x5 x6 x7 x8 x9, env = [some (.lst (ns.map D.int)), x1, x2, x3, x4, x5, x6, x7, x8, x9]) (fun _ _ _ _ => True.intro) ?_ ⟨_, _, _, _, _, _, _, _, _, rfl⟩ ?_⟩
  · split <;> split <;> omega
  · split <;> split <;> omega
  · rintro i d env M' R hd ⟨x1, x2, x3, x4, x5, x6, x7, x8, x9, rfl⟩ kont
    obtain ⟨rfl, hi⟩ := rangeD_get hd
    show bodyL K _ _ _
    refine s_body T (by omega) ?_ fun M'' y2 y3 y4 y5 y6 y7 y8 y9 => kont _ _ ⟨_, _, _, _, _, _, _, _, _, rfl⟩
    revert hi
    split <;> split <;> omega
  · rintro env M' ⟨x1, x2, x3, x4, x5, x6, x7, x8, x9, rfl⟩
    simp only [n_seq, n_next, n_sif, n_ret, n_retN, n_asg, n_drop, n_raise, n_for, n_try, n_nm, n_var0, n_varS, n_c, n_op, n_cb, n_nil, n_cons, n_tup, n_lstF, n_lst, n_val, n_notT, n_andT, n_orT, n_and, n_or, n_not, n_dif, n_chain, n_neg, n_dct0, n_call, n_callK, n_frzV, n_frzC, n_frzK, n_frzL, n_app, n_pop, n_sub, n_lc, n_iRg, n_iSq, n_iEn, n_bl, n_int, n_ref, n_gI, n_gI0, n_ixL, n_ixT, n_ixP, n_lenL, n_lenT, n_isi, n_dIsi2, n_sqL, n_sqT, n_latP, n_tupL, n_tupT, n_sqP, n_in, n_unrt, n_fld, n_wipe1, n_wipe2, n_gtup2, max2_is, min2_is, selT, selF, decide_true, decide_false, at10, at20, at21, at30, at31, at32, at40, at41, at42, at43, ix30, ix31, ix32, mput_same, mput_mput, dOne, oAdd, oSub, oMul, oDiv, oMod, oPow, oShl, oShr, oAnd, oOr, oXor, oLt, oLe, oGt, oGe, Nat.reduceAdd, Nat.reduceLeDiff, Option.some.injEq, exists_eq_left', true_and, and_true, List.set_cons_zero, List.set_cons_succ, List.length_cons, List.length_nil]
    exact q _
end L02
set_option maxHeartbeats 0
namespace L02
open PySem PySem.Spec
open PyProof.Rows L2 DL
abbrev R : PySem.W.OpenRow := PySem.W.OpenLaw.row PySem.Challenge.rw_beatflows_k02_bits_of_worths
abbrev hk : PySem.W.Hook := hookB 5 facts fns
def ob (s : PySem.W.SharedT) : He.AlD := obsBG 5 facts fns (HandSHeadRun.getT s)
theorem ob_eq (s : PySem.W.SharedT) : ob s = hk.obs s.abs := obsBG_eq (HandSHeadRun.getT_eq s)
def loose : List PySem.Str := ["FlowError", "Missing", "Barred", "NoKind", "NoWidth", "NoWorth", "NoBits", "is_whole", "is_width", "is_truth", "is_kind", "is_worth", "bits_of", "of_bits", "_law_cell", "_law_purse", "_law_take", "_law_of", "_law_bits", "_law_is_truth", "_law_asked", "_law_refused_right", "MOST_WIDTH", "MOST_ROW"]
theorem run (w : World) : HandSHeadRun.RunEq R (PySem.W.view R.prog [27]) hk ob 3000 loose w := by
  intro os
  kernel_rfl
end L02
open PySem PySem.W
open PySem.Calls PyProof.Rows
set_option maxHeartbeats 0
theorem PySem.Challenge.cw_beatflows_k02_bits_of_worths_holds : PySem.Challenge.rw_beatflows_k02_bits_of_worths.Holds := by
  w_on; o_law
  refine HandSHeadRun.head_any (r := OpenLaw.row PySem.Challenge.rw_beatflows_k02_bits_of_worths) (q := view (OpenLaw.row PySem.Challenge.rw_beatflows_k02_bits_of_worths).prog [27]) (H := L02.hk) (ob := L02.ob) (M := 3000) (loose := L02.loose) (d := HandSHeadRun.topDef (OpenLaw.row PySem.Challenge.rw_beatflows_k02_bits_of_worths).prog 27) (kwd := []) L02.ob_eq
    (by kernel_rfl) (fun s => by kernel_rfl) L02.run (by kernel_rfl) (by kernel_rfl) (by kernel_rfl) (by rfl) (by first | assumption | decide +kernel) (by decide +kernel) ⟨rfl, rfl, rfl, rfl, rfl, by decide +kernel⟩ ?hw ?hc
  case hw => w_witness2
  case hc =>
    refine DL.walk_D (l := PySem.Challenge.rw_beatflows_k02_bits_of_worths) (n := 63) (k := 8) (x := "script") rfl (by decide) (by kernel_rfl) ⟨rfl, by decide, by decide⟩ ?F
    intro w mg fa h Y G hmg0
    obtain ⟨K, KX, c⟩ := Y
    have hmg :
      mg ("law" : PySem.Str) = some (.ref fa) := by
      have e : (HandSHeadRun.topDef (OpenLaw.row PySem.Challenge.rw_beatflows_k02_bits_of_worths).prog 27).name = ("law" : PySem.Str) := by kernel_rfl
      rw [← e]
      exact hmg0
    have sy : PySem.W.nsOkIn K sysModules = true := c.fact 0 (f := fun K => PySem.W.nsOkIn K sysModules) rfl
    have TX : ∀ base : Heap, K.In base → base.Ns mainGlobals mg → L02.Tx K mg base := fun base X G => ⟨X, G, ⟨_, .of_isNs (PySem.W.isNs_of_in X sy)⟩, c⟩
    obtain ⟨f0, fd, e0, FF, bb, _⟩ := (L02.k_law (P := PySem.Challenge.rw_beatflows_k02_bits_of_worths.prog) (w := w) (TX h KX G)).ex
    have e1 := e0.symm.trans hmg
    cases e1
    refine ⟨K, fd, L02.F_law K, KX, sy, fun ns hz => L02.s_law (TX h KX G) hz fun _ => rfl, fun s u => FF.bindsA (ps := ["script"]) (fun _ _ _ _ _ _ us hl => (match us, hl with | [_], _ => rfl)) s [u] rfl, fun base X G2 _ => ?_⟩
    obtain ⟨f1, fd1, e2, FF1, _, DD⟩ := (L02.k_law (P := PySem.Challenge.rw_beatflows_k02_bits_of_worths.prog) (w := w) (TX base X G2)).ex
    have e3 := e2.symm.trans e0
    cases e3
    obtain ⟨oc, od, dV, kV, doc, pm, an, cdv, ct, osl, r1, lk, _, _, _⟩ := FF.ex
    obtain ⟨oc', od', dV', kV', doc', pm', an', cdv', ct', osl', r2, lk', _, _, _⟩ := FF1.ex
    have e4 := lk.symm.trans lk'
    cases e4
    exact DD
