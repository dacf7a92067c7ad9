import PyProof.Rows.All
import Wide.All
import OpenK.AllK
import Wide.FinOn
import PyProof.EqAt
import PyProof.EqKinds
import PyProof.TupleCall
import PyProof.ReprRoads
import HandS.ForMost
import HandS.Walk
import HandS.IsInst
import HandS.Exc
import HandS.ExcInit
import HandS.ExcField
import HandS.TryMany
import HandS.WordsExc
import HandS.Wide
import HandS.Conv
import PyProof.CallFns
import KE.GoesEnum
import HandS.Defaults
import HandS.Dict
import KE.KStateDown
import HandS.Ends
import HandS.Head0
import HandS.Head1
import HandS.Head2
import HandS.HeadEnd
import HandS.HeadHook1
import HandS.HeadHook2
import PyProof.ReprBulk
import PyProof.Rows.ReprShort
import PyProof.P3Eq
import HandS.TupAny
import HandS.Zip
import HandS.Style
import HandS.MakeKwOnly
import KE.LtData
import PyProof.Rows.SeqMore
import KE.BitLaws
import KE.KBits
import PySem.Challenge.RW_beatflows_k03_words_of_reckoning
set_option Elab.async false
set_option linter.all false
set_option maxRecDepth 100000
set_option maxHeartbeats 4000001
/-! The data layer: what a def does, told by data alone. D: trees of data; Mem: the lists (and dicts) that may change, by address; all else stays as it is. -/
namespace DL
open PySem PySem.Spec
open PyProof.Rows L2

/-- data: a value as it is (None, a truth, a number, a text, a thing by its address), or a list, tuple, dict that does not change any more -/
inductive D where
  | v (x : V)
  | lst (l : List D)
  | tup (l : List D)
  | dct (l : List (Key × D))
  /-- a caught exception: where it stands, where its dict, its fields -/
  | exn (a dd : Addr) (fs : List (Str × D))
abbrev D.non : D := .v .non
abbrev D.bl (b : Bool) : D := .v (.bl b)
abbrev D.int (i : Int) : D := .v (.int i)
abbrev D.str (s : Str) : D := .v (.str s)
abbrev D.ref (a : Addr) : D := .v (.ref a)

/-- what may change -/
inductive MO where
  | lst (l : List D)
  | dct (l : List (Key × D))
abbrev Mem := Addr → Option MO
def mput (M : Mem) (a : Addr) (o : MO) : Mem := fun b => if b = a then some o else M b
def mdel (M : Mem) (a : Addr) : Mem := fun b => if b = a then none else M b
theorem mput_same {M : Mem} {a : Addr} {o : MO} : mput M a o a = some o := if_pos rfl
theorem mput_ne {M : Mem} {a b : Addr} {o : MO} (h : b ≠ a) : mput M a o b = M b := if_neg h
theorem mdel_same {M : Mem} {a : Addr} : mdel M a a = none := if_pos rfl
theorem mdel_ne {M : Mem} {a b : Addr} (h : b ≠ a) : mdel M a b = M b := if_neg h
theorem mput_mput {M : Mem} {a : Addr} {o u : MO} : mput (mput M a o) a u = mput M a u := by
  funext b
  unfold mput
  split <;> rfl
theorem mdel_mput {M : Mem} {a : Addr} {o : MO} (h : M a = none) : mdel (mput M a o) a = M := by
  funext b
  unfold mdel mput
  by_cases e : b = a
  · rw [if_pos e, e, h]
  · rw [if_neg e, if_neg e]

/-- the heap without what may change -/
def off (M : Mem) (H : Hp) : Hp := fun b => match M b with
  | none => H b
  | some _ => none
theorem off_none {M : Mem} {H : Hp} {b : Addr} (h : M b = none) : off M H b = H b := by
  unfold off
  rw [h]
theorem off_some {M : Mem} {H : Hp} {b : Addr} {o : MO} (h : M b = some o) : off M H b = none := by
  unfold off
  rw [h]
theorem of_off {M : Mem} {H : Hp} {b : Addr} {o : HO} (h : off M H b = some o) : H b = some o ∧ M b = none := by
  cases e : M b with
  | some x =>
    rw [off_some e] at h
    cases h
  | none =>
    rw [off_none e] at h
    exact ⟨h, rfl⟩

/-! ### data at a value -/
mutual
def rep (K : PySem.W.Frag) (G : Hp) : D → V → Prop
  | .v x, u => u = x
  | .lst l, u => ∃ a vs, u = .ref a ∧ SqL K G a vs ∧ reps K G l vs
  | .tup l, u => ∃ a vs, u = .ref a ∧ SqT K G a vs ∧ reps K G l vs
  | .dct l, u => ∃ a kvs, u = .ref a ∧ G a = some (.dK kvs) ∧ repk K G l kvs
  | .exn a dd l, u => ∃ vs, u = .ref a ∧ G dd = some (.xd vs) ∧ repf K G l vs
def reps (K : PySem.W.Frag) (G : Hp) : List D → List V → Prop
  | [], vs => vs = []
  | d :: ds, vs => ∃ u us, vs = u :: us ∧ rep K G d u ∧ reps K G ds us
def repk (K : PySem.W.Frag) (G : Hp) : List (Key × D) → List (Key × V) → Prop
  | [], vs => vs = []
  | (k, d) :: ds, vs => ∃ u us, vs = (k, u) :: us ∧ rep K G d u ∧ repk K G ds us
def repf (K : PySem.W.Frag) (G : Hp) : List (Str × D) → List (Str × V) → Prop
  | [], vs => vs = []
  | (k, d) :: ds, vs => ∃ u us, vs = (k, u) :: us ∧ rep K G d u ∧ repf K G ds us
end
theorem sqT_same {K : PySem.W.Frag} {H H' : Hp} {a : Addr} {xs : List V} (e : Same H H') (h : SqT K H a xs) : SqT K H' a xs := by
  obtain (h | ⟨o, h⟩) | h := h
  · exact .inl (.inl (e _ _ h))
  · exact (.inl (.inr ⟨o, e _ _ h⟩))
  · exact .inr h
mutual
theorem rep_same {K : PySem.W.Frag} {G G' : Hp} (e : Same G G') : ∀ (d : D) (u : V), rep K G d u → rep K G' d u
  | .v x, u, h => h
  | .lst l, u, h => by
    obtain ⟨a, vs, h1, h2, h3⟩ := h
    exact ⟨a, vs, h1, e.seq h2, reps_same e l vs h3⟩
  | .tup l, u, h => by
    obtain ⟨a, vs, h1, h2, h3⟩ := h
    exact ⟨a, vs, h1, sqT_same e h2, reps_same e l vs h3⟩
  | .dct l, u, h => by
    obtain ⟨a, vs, h1, h2, h3⟩ := h
    exact ⟨a, vs, h1, e _ _ h2, repk_same e l vs h3⟩
  | .exn a dd l, u, h => by
    obtain ⟨vs, h1, h2, h3⟩ := h
    exact ⟨vs, h1, e _ _ h2, repf_same e l vs h3⟩
theorem reps_same {K : PySem.W.Frag} {G G' : Hp} (e : Same G G') : ∀ (l : List D) (us : List V), reps K G l us → reps K G' l us
  | [], us, h => h
  | d :: ds, us, h => by
    obtain ⟨u, r, h1, h2, h3⟩ := h
    exact ⟨u, r, h1, rep_same e d u h2, reps_same e ds r h3⟩
theorem repk_same {K : PySem.W.Frag} {G G' : Hp} (e : Same G G') : ∀ (l : List (Key × D)) (us : List (Key × V)), repk K G l us → repk K G' l us
  | [], us, h => h
  | (k, d) :: ds, us, h => by
    obtain ⟨u, r, h1, h2, h3⟩ := h
    exact ⟨u, r, h1, rep_same e d u h2, repk_same e ds r h3⟩
theorem repf_same {K : PySem.W.Frag} {G G' : Hp} (e : Same G G') : ∀ (l : List (Str × D)) (us : List (Str × V)), repf K G l us → repf K G' l us
  | [], us, h => h
  | (k, d) :: ds, us, h => by
    obtain ⟨u, r, h1, h2, h3⟩ := h
    exact ⟨u, r, h1, rep_same e d u h2, repf_same e ds r h3⟩
end
theorem reps_length {K : PySem.W.Frag} {G : Hp} : ∀ {l : List D} {us : List V}, reps K G l us → us.length = l.length
  | [], us, h => by
    cases h
    rfl
  | d :: ds, us, h => by
    obtain ⟨u, r, rfl, _, h3⟩ := h
    rw [List.length_cons, List.length_cons, reps_length h3]
theorem reps_get {K : PySem.W.Frag} {G : Hp} : ∀ {l : List D} {us : List V} {i : Nat} {d : D}, reps K G l us → l[i]? = some d → ∃ u, us[i]? = some u ∧ rep K G d u
  | [], _, i, d, _, e => by simp at e
  | x :: ds, us, 0, d, h, e => by
    obtain ⟨u, r, rfl, h2, _⟩ := h
    simp at e
    subst e
    exact ⟨u, rfl, h2⟩
  | x :: ds, us, i + 1, d, h, e => by
    obtain ⟨u, r, rfl, _, h3⟩ := h
    obtain ⟨w, e1, e2⟩ := reps_get (i := i) h3 (by simpa using e)
    exact ⟨w, by simpa using e1, e2⟩
theorem reps_append {K : PySem.W.Frag} {G : Hp} : ∀ {l m : List D} {us ws : List V}, reps K G l us → reps K G m ws → reps K G (l ++ m) (us ++ ws)
  | [], m, us, ws, h, k => by
    cases h
    exact k
  | d :: ds, m, us, ws, h, k => by
    obtain ⟨u, r, rfl, h2, h3⟩ := h
    exact ⟨u, r ++ ws, rfl, h2, reps_append h3 k⟩
theorem reps_take {K : PySem.W.Frag} {G : Hp} : ∀ {l : List D} {us : List V} (n : Nat), reps K G l us → reps K G (l.take n) (us.take n)
  | [], us, n, h => by
    cases h
    simp [reps]
  | d :: ds, us, 0, h => by simp [reps]
  | d :: ds, us, n + 1, h => by
    obtain ⟨u, r, rfl, h2, h3⟩ := h
    exact ⟨u, r.take n, rfl, h2, reps_take n h3⟩
theorem reps_drop {K : PySem.W.Frag} {G : Hp} : ∀ {l : List D} {us : List V} (n : Nat), reps K G l us → reps K G (l.drop n) (us.drop n)
  | [], us, n, h => by
    cases h
    simp [reps]
  | d :: ds, us, 0, h => h
  | d :: ds, us, n + 1, h => by
    obtain ⟨u, r, rfl, h2, h3⟩ := h
    exact reps_drop n h3
theorem reps_set {K : PySem.W.Frag} {G : Hp} {x : D} {w : V} (hx : rep K G x w) : ∀ {l : List D} {us : List V} (i : Nat), reps K G l us → reps K G (l.set i x) (us.set i w)
  | [], us, i, h => by
    cases h
    simp [reps]
  | d :: ds, us, 0, h => by
    obtain ⟨u, r, rfl, h2, h3⟩ := h
    exact ⟨w, r, rfl, hx, h3⟩
  | d :: ds, us, i + 1, h => by
    obtain ⟨u, r, rfl, h2, h3⟩ := h
    exact ⟨u, r.set i w, rfl, h2, reps_set hx i h3⟩
theorem reps_map {K : PySem.W.Frag} {G : Hp} : ∀ (vs : List V), reps K G (vs.map D.v) vs
  | [] => rfl
  | v :: vs => ⟨v, vs, rfl, rfl, reps_map vs⟩
theorem reps_vals {K : PySem.W.Frag} {G : Hp} : ∀ {vs : List V} {us : List V}, reps K G (vs.map D.v) us → us = vs
  | [], us, h => h
  | v :: vs, us, h => by
    obtain ⟨u, r, rfl, h2, h3⟩ := h
    have e : u = v := h2
    rw [e, reps_vals h3]

/-! ### the memory, the names, a step -/
def moAt (K : PySem.W.Frag) (G H : Hp) (a : Addr) : MO → Prop
  | .lst l => ∃ vs, H a = some (.lst vs) ∧ reps K G l vs
  | .dct l => ∃ kvs, H a = some (.dK kvs) ∧ repk K G l kvs
def MemOk (K : PySem.W.Frag) (M : Mem) (H : Hp) : Prop := ∀ a o, M a = some o → moAt K (off M H) H a o
/-- what has happened to the heap: what could not change stands, and what may change newly was not there -/
structure Stp (M : Mem) (H : Hp) (M' : Mem) (H' : Hp) : Prop where
  keep : ∀ b o, H b = some o → M b = none → H' b = some o
  fresh : ∀ b, M' b ≠ none → M b ≠ none ∨ H b = none
theorem Stp.refl (M : Mem) (H : Hp) : Stp M H M H := ⟨fun _ _ h _ => h, fun _ h => .inl h⟩
theorem Stp.stays {M M' : Mem} {H H' : Hp} (s : Stp M H M' H') {b : Addr} {o : HO} (h : H b = some o) (n : M b = none) : M' b = none := by
  cases e : M' b with
  | none => rfl
  | some x =>
    rcases s.fresh b (by rw [e]; simp) with z | z
    · exact absurd n z
    · rw [h] at z
      cases z
theorem Stp.trans {M M1 M2 : Mem} {H H1 H2 : Hp} (a : Stp M H M1 H1) (b : Stp M1 H1 M2 H2) : Stp M H M2 H2 := by
  refine ⟨fun c o h n => b.keep c o (a.keep c o h n) (a.stays h n), fun c h => ?_⟩
  rcases b.fresh c h with z | z
  · exact a.fresh c z
  · cases e : H c with
    | none => exact .inr rfl
    | some o =>
      left
      intro n
      rw [a.keep c o e n] at z
      cases z
theorem Stp.same {M M' : Mem} {H H' : Hp} (s : Stp M H M' H') : Same (off M H) (off M' H') := fun b o h => by
  obtain ⟨h1, h2⟩ := of_off h
  rw [off_none (s.stays h1 h2)]
  exact s.keep b o h1 h2
theorem Stp.rep {K : PySem.W.Frag} {M M' : Mem} {H H' : Hp} (s : Stp M H M' H') {d : D} {u : V} (h : rep K (off M H) d u) : rep K (off M' H') d u := rep_same s.same d u h
theorem Stp.reps {K : PySem.W.Frag} {M M' : Mem} {H H' : Hp} (s : Stp M H M' H') {d : List D} {u : List V} (h : reps K (off M H) d u) : reps K (off M' H') d u := reps_same s.same d u h

abbrev EnvD := List (Option D)
structure Rel (K : PySem.W.Frag) (env : EnvD) (M : Mem) (σ : L2.St) (H : Hp) : Prop where
  len : env.length = σ.length
  get : ∀ (i : Nat) (d : D), env[i]? = some (some d) → ∃ u, σ[i]? = some (some u) ∧ rep K (off M H) d u
  mem : MemOk K M H
theorem Rel.to {K : PySem.W.Frag} {env : EnvD} {M M' : Mem} {σ : L2.St} {H H' : Hp} (r : Rel K env M σ H) (s : Stp M H M' H') (m : MemOk K M' H') : Rel K env M' σ H' :=
  ⟨r.len, fun i d e => let ⟨u, h1, h2⟩ := r.get i d e; ⟨u, h1, s.rep h2⟩, m⟩
theorem Rel.set {K : PySem.W.Frag} {env : EnvD} {M : Mem} {σ : L2.St} {H : Hp} (r : Rel K env M σ H) (i : Nat) {d : D} {u : V} (h : rep K (off M H) d u) : Rel K (env.set i (some d)) M (σ.set i (some u)) H := by
  refine ⟨by rw [List.length_set, List.length_set, r.len], fun j e hj => ?_, r.mem⟩
  by_cases hij : i = j
  · subst hij
    by_cases hl : i < env.length
    · rw [List.getElem?_set_self hl] at hj
      cases hj
      exact ⟨u, List.getElem?_set_self (by rw [← r.len]; exact hl), h⟩
    · rw [List.getElem?_eq_none (by rw [List.length_set]; omega)] at hj
      cases hj
  · rw [List.getElem?_set_ne hij] at hj
    obtain ⟨w, h1, h2⟩ := r.get j e hj
    exact ⟨w, by rw [List.getElem?_set_ne hij]; exact h1, h2⟩
theorem Rel.unset {K : PySem.W.Frag} {env : EnvD} {M : Mem} {σ : L2.St} {H : Hp} (r : Rel K env M σ H) (i : Nat) : Rel K (env.set i none) M (σ.set i none) H := by
  refine ⟨by rw [List.length_set, List.length_set, r.len], fun j e hj => ?_, r.mem⟩
  by_cases hij : i = j
  · subst hij
    by_cases hl : i < env.length
    · rw [List.getElem?_set_self hl] at hj
      cases hj
    · rw [List.getElem?_eq_none (by rw [List.length_set]; omega)] at hj
      cases hj
  · rw [List.getElem?_set_ne hij] at hj
    obtain ⟨w, h1, h2⟩ := r.get j e hj
    exact ⟨w, by rw [List.getElem?_set_ne hij]; exact h1, h2⟩
/-- a slot forgotten by the data alone -/
theorem Rel.unsetD {K : PySem.W.Frag} {env : EnvD} {M : Mem} {σ : L2.St} {H : Hp} (r : Rel K env M σ H) (i : Nat) {x : V} (_ : True) : Rel K (env.set i none) M (σ.set i (some x)) H := by
  refine ⟨by rw [List.length_set, List.length_set, r.len], fun j e hj => ?_, r.mem⟩
  by_cases hij : i = j
  · subst hij
    by_cases hl : i < env.length
    · rw [List.getElem?_set_self hl] at hj
      cases hj
    · rw [List.getElem?_eq_none (by rw [List.length_set]; omega)] at hj
      cases hj
  · rw [List.getElem?_set_ne hij] at hj
    obtain ⟨w, h1, h2⟩ := r.get j e hj
    exact ⟨w, by rw [List.getElem?_set_ne hij]; exact h1, h2⟩

/-! ### changes of the heap -/
section
variable {K : PySem.W.Frag} {M : Mem} {H : Hp}
theorem moAt_same {G G' H' : Hp} {a : Addr} {o : MO} (e : Same G G') (k : ∀ u, H a = some u → H' a = some u) (h : moAt K G H a o) : moAt K G' H' a o := by
  cases o with
  | lst l =>
    obtain ⟨vs, h1, h2⟩ := h
    exact ⟨vs, k _ h1, reps_same e l vs h2⟩
  | dct l =>
    obtain ⟨vs, h1, h2⟩ := h
    exact ⟨vs, k _ h1, repk_same e l vs h2⟩
theorem MemOk.isSome (m : MemOk K M H) {a : Addr} {o : MO} (h : M a = some o) : H a ≠ none := by
  have q := m a o h
  cases o with
  | lst l =>
    obtain ⟨vs, h1, _⟩ := q
    rw [h1]
    simp
  | dct l =>
    obtain ⟨vs, h1, _⟩ := q
    rw [h1]
    simp
theorem MemOk.none (m : MemOk K M H) {a : Addr} (h : H a = none) : M a = none := by
  cases e : M a with
  | none => rfl
  | some o => exact absurd h (m.isSome e)
/-- a new thing that does not change -/
theorem stp_new {p : Addr} {o : HO} (hp : H p = none) : Stp M H M (upd H p o) :=
  ⟨fun b u h _ => by rw [upd_ne (ne_of_none h hp)]; exact h, fun _ h => .inl h⟩
theorem mem_new (m : MemOk K M H) {p : Addr} {o : HO} (hp : H p = none) : MemOk K M (upd H p o) := fun a u h => by
  have hne : a ≠ p := fun e => m.isSome h (by rw [e]; exact hp)
  exact moAt_same (stp_new hp).same (fun w q => by rw [upd_ne hne]; exact q) (m a u h)
/-- what grows only -/
theorem mem_grow {H' : Hp} (m : MemOk K M H) (e : Same H H') : MemOk K M H' := fun a u h => by
  refine moAt_same (fun b o z => ?_) (fun w q => e a w q) (m a u h)
  obtain ⟨z1, z2⟩ := of_off z
  rw [off_none z2]
  exact e b o z1
theorem stp_grow {H' : Hp} (e : Same H H') : Stp M H M H' := ⟨fun b o h _ => e b o h, fun _ h => .inl h⟩
/-- a new list that may change -/
theorem stp_put {p : Addr} {o : HO} {u : MO} (hp : H p = none) : Stp M H (mput M p u) (upd H p o) := by
  refine ⟨fun b w h _ => by rw [upd_ne (ne_of_none h hp)]; exact h, fun b h => ?_⟩
  by_cases e : b = p
  · right
    rw [e]
    exact hp
  · left
    rw [mput_ne e] at h
    exact h
theorem off_put (m : MemOk K M H) {p : Addr} {o : HO} {u : MO} (hp : H p = none) : off (mput M p u) (upd H p o) = off M H := by
  funext b
  by_cases e : b = p
  · subst e
    rw [off_some mput_same, off_none (m.none hp), hp]
  · unfold off
    rw [mput_ne e, upd_ne e]
theorem mem_put (m : MemOk K M H) {p : Addr} {l : List D} {vs : List V} (hp : H p = none) (r : reps K (off M H) l vs) : MemOk K (mput M p (.lst l)) (upd H p (.lst vs)) := fun a o h => by
  rw [off_put m hp]
  by_cases e : a = p
  · subst e
    rw [mput_same] at h
    cases h
    exact ⟨vs, upd_same, r⟩
  · rw [mput_ne e] at h
    exact moAt_same (fun _ _ z => z) (fun w q => by rw [upd_ne e]; exact q) (m a o h)
theorem mem_putD (m : MemOk K M H) {p : Addr} {l : List (Key × D)} {vs : List (Key × V)} (hp : H p = none) (r : repk K (off M H) l vs) : MemOk K (mput M p (.dct l)) (upd H p (.dK vs)) := fun a o h => by
  rw [off_put m hp]
  by_cases e : a = p
  · subst e
    rw [mput_same] at h
    cases h
    exact ⟨vs, upd_same, r⟩
  · rw [mput_ne e] at h
    exact moAt_same (fun _ _ z => z) (fun w q => by rw [upd_ne e]; exact q) (m a o h)
/-- what may change does -/
theorem off_upd {p : Addr} {o : HO} {u : MO} (hp : M p ≠ none) : off (mput M p u) (upd H p o) = off M H := by
  funext b
  by_cases e : b = p
  · subst e
    cases q : M b with
    | none => exact absurd q hp
    | some x => rw [off_some mput_same, off_some q]
  · unfold off
    rw [mput_ne e, upd_ne e]
theorem stp_upd {p : Addr} {o : HO} {u : MO} (hp : M p ≠ none) : Stp M H (mput M p u) (upd H p o) := by
  refine ⟨fun b w h n => ?_, fun b h => ?_⟩
  · rw [upd_ne (fun e => hp (by rw [← e]; exact n))]
    exact h
  · left
    by_cases e : b = p
    · rw [e]
      exact hp
    · rw [mput_ne e] at h
      exact h
theorem mem_upd (m : MemOk K M H) {p : Addr} {l : List D} {vs : List V} (hp : M p ≠ none) (r : reps K (off M H) l vs) : MemOk K (mput M p (.lst l)) (upd H p (.lst vs)) := fun a o h => by
  rw [off_upd hp]
  by_cases e : a = p
  · subst e
    rw [mput_same] at h
    cases h
    exact ⟨vs, upd_same, r⟩
  · rw [mput_ne e] at h
    exact moAt_same (fun _ _ z => z) (fun w q => by rw [upd_ne e]; exact q) (m a o h)
theorem mem_updD (m : MemOk K M H) {p : Addr} {l : List (Key × D)} {vs : List (Key × V)} (hp : M p ≠ none) (r : repk K (off M H) l vs) : MemOk K (mput M p (.dct l)) (upd H p (.dK vs)) := fun a o h => by
  rw [off_upd hp]
  by_cases e : a = p
  · subst e
    rw [mput_same] at h
    cases h
    exact ⟨vs, upd_same, r⟩
  · rw [mput_ne e] at h
    exact moAt_same (fun _ _ z => z) (fun w q => by rw [upd_ne e]; exact q) (m a o h)
/-- it does not change any more -/
theorem same_del {p : Addr} : Same (off M H) (off (mdel M p) H) := fun b o h => by
  obtain ⟨h1, h2⟩ := of_off h
  have e : mdel M p b = none := by
    unfold mdel
    split
    · rfl
    · exact h2
  rw [off_none e]
  exact h1
theorem stp_del {p : Addr} : Stp M H (mdel M p) H := by
  refine ⟨fun b o h _ => h, fun b h => .inl fun n => h ?_⟩
  unfold mdel
  split
  · rfl
  · exact n
theorem mem_del (m : MemOk K M H) {p : Addr} : MemOk K (mdel M p) H := fun a o h => by
  have hne : a ≠ p := fun e => by
    rw [e, mdel_same] at h
    cases h
  rw [mdel_ne hne] at h
  exact moAt_same same_del (fun _ q => q) (m a o h)
theorem rep_del (m : MemOk K M H) {p : Addr} {l : List D} (h : M p = some (.lst l)) : rep K (off (mdel M p) H) (.lst l) (.ref p) := by
  obtain ⟨vs, h1, h2⟩ := m p _ h
  refine ⟨p, vs, rfl, .inl (.inl ?_), reps_same same_del l vs h2⟩
  rw [off_none mdel_same]
  exact h1
theorem rep_delD (m : MemOk K M H) {p : Addr} {l : List (Key × D)} (h : M p = some (.dct l)) : rep K (off (mdel M p) H) (.dct l) (.ref p) := by
  obtain ⟨vs, h1, h2⟩ := m p _ h
  refine ⟨p, vs, rfl, ?_, repk_same same_del l vs h2⟩
  rw [off_none mdel_same]
  exact h1
end
end DL
set_option maxHeartbeats 4000001
namespace DL
open PySem PySem.Spec
open PyProof.Rows L2

/-! ### exceptions by data -/
structure Xn where
  cls : Value
  fs : List (Str × D)
theorem repf_look {K : PySem.W.Frag} {G : Hp} {f : Str} {d : D} : ∀ {l : List (Str × D)} {us : List (Str × V)}, repf K G l us → l.lookup f = some d → ∃ u, us.lookup f = some u ∧ rep K G d u
  | [], us, h, e => by cases e
  | (k, x) :: ds, us, h, e => by
    obtain ⟨u, r, rfl, h2, h3⟩ := h
    rw [List.lookup_cons] at e ⊢
    cases q : f == k with
    | true =>
      rw [q] at e
      cases e
      exact ⟨u, rfl, h2⟩
    | false =>
      rw [q] at e
      exact repf_look h3 e
/-- the exception's own dict holds its fields -/
def xrep (K : PySem.W.Frag) (G H : Hp) (dd : Option Addr) (fs : List (Str × D)) : Prop := match dd with
  | some d => ∃ vs, H d = some (.xd vs) ∧ repf K G fs vs
  | none => fs = []

/-! ### what is done, by data -/
abbrev QD := D → Mem → Prop
abbrev XD := Xn → Mem → Prop
abbrev DF := EnvD → Mem → QD → XD → Prop
abbrev DFs := EnvD → Mem → (List D → Mem → Prop) → XD → Prop
abbrev DFt := EnvD → Mem → (Bool → Mem → Prop) → XD → Prop
def XOk (K : PySem.W.Frag) (W : WX) (σ : L2.St) (M : Mem) (H : Hp) (E : XD) : Prop :=
  ∀ xn M' dd H', E xn M' → Stp M H M' H' → MemOk K M' H' → xrep K (off M' H') H' dd xn.fs → W xn.cls dd σ H'
theorem XOk.to {K : PySem.W.Frag} {W : WX} {σ : L2.St} {M M1 : Mem} {H H1 : Hp} {E : XD} (x : XOk K W σ M H E) (s : Stp M H M1 H1) : XOk K W σ M1 H1 E :=
  fun xn M' dd H' e s' m r => x xn M' dd H' e (s.trans s') m r
def SimE (K : PySem.W.Frag) (W : WX) (t : TE) (f : DF) : Prop :=
  ∀ (σ : L2.St) (H : Hp) (env : EnvD) (M : Mem) (Q : VK) (P : QD) (E : XD), Rel K env M σ H → f env M P E →
    (∀ d M' u H', P d M' → Stp M H M' H' → MemOk K M' H' → rep K (off M' H') d u → Q u H') → XOk K W σ M H E → t σ H Q
def SimA (K : PySem.W.Frag) (W : WX) (n : Nat) (t : TA) (f : DFs) : Prop :=
  ∀ (σ : L2.St) (H : Hp) (env : EnvD) (M : Mem) (Q : List V → Hp → Prop) (P : List D → Mem → Prop) (E : XD), Rel K env M σ H → f env M P E →
    (∀ d M' u H', P d M' → d.length = n → Stp M H M' H' → MemOk K M' H' → reps K (off M' H') d u → Q u H') → XOk K W σ M H E → t σ H Q
def SimT (K : PySem.W.Frag) (W : WX) (t : TT) (f : DFt) : Prop :=
  ∀ (σ : L2.St) (H : Hp) (env : EnvD) (M : Mem) (Q : Bool → Hp → Prop) (P : Bool → Mem → Prop) (E : XD), Rel K env M σ H → f env M P E →
    (∀ b M' H', P b M' → Stp M H M' H' → MemOk K M' H' → Q b H') → XOk K W σ M H E → t σ H Q
def DE (X : Cx) (W : WX) (e : Expr) (f : DF) : Prop := ∃ t, PE X e t ∧ SimE X.K W t f
def DA (X : Cx) (W : WX) (es : List Expr) (f : DFs) : Prop := ∃ t, PA X es t ∧ SimA X.K W es.length t f
def DT (X : Cx) (W : WX) (e : Expr) (f : DFt) : Prop := ∃ t, PT X e t ∧ SimT X.K W t f
def DW (X : Cx) (W : WX) (e : Expr) (f : DFt) : Prop := ∃ t, L2.PW X e t ∧ SimT X.K W t f

/-! ### the names, the constants, by data -/
def dVar (i : Nat) : DF := fun env M Q _ => match env[i]? with
  | some (some d) => Q d M
  | _ => False
def dC (d : D) : DF := fun _ M Q _ => Q d M
theorem sim_var {K : PySem.W.Frag} {W : WX} {i : Nat} : SimE K W (tVar i) (dVar i) := by
  intro σ H env M Q P E r h k _
  unfold dVar at h
  split at h
  · rename_i d e
    obtain ⟨u, h1, h2⟩ := r.get i d e
    exact ⟨u, h1, k d M u H h (Stp.refl _ _) r.mem h2⟩
  · exact h.elim
theorem sim_c {K : PySem.W.Frag} {W : WX} {d : D} {u : V} (h : ∀ G, rep K G d u) : SimE K W (tC u) (dC d) := by
  intro σ H env M Q P E r hp k _
  exact k d M u H hp (Stp.refl _ _) r.mem (h _)
section
variable {X : Cx} {W : WX}
theorem d_var (i : Nat) {x : Str} {pos : Pos} (hN : X.N[i]? = some x := by rfl) (hv : Vis X.env.scope x := by first | exact Or.inl rfl | exact Or.inr (Or.inl rfl) | exact Or.inr (Or.inr rfl)) (hd : (x == ("__debug__" : Str)) = false := by decide)
    (hcd : (x == ("__classdict__" : Str)) = false := by decide) : DE X W (.Name x pos) (dVar i) := ⟨_, pe_var hN hv hd hcd, sim_var⟩
theorem d_int {i j pos} : DE X W (.Constant (.int i) j pos) (dC (.int i)) := ⟨_, pe_int, sim_c fun _ => rfl⟩
theorem d_bl {b j pos} : DE X W (.Constant (.bool b) j pos) (dC (.bl b)) := ⟨_, pe_bl, sim_c fun _ => rfl⟩
theorem d_non {j pos} : DE X W (.Constant .none j pos) (dC .non) := ⟨_, pe_non, sim_c fun _ => rfl⟩
theorem d_str {x j pos} : DE X W (.Constant (.str x) j pos) (dC (.str x)) := ⟨_, pe_str, sim_c fun _ => rfl⟩
/-- a name of the module -/
theorem d_glob {x : Str} {d : D} {v : V} {u : Value} {pos : Pos} (hm : X.mg x = some u) (r : RelV v u) (hr : ∀ G, rep X.K G d v) (hg : Gl X x := by rfl) (hd : (x == ("__debug__" : Str)) = false := by decide) : DE X W (.Name x pos) (dC d) :=
  ⟨_, pe_glob hg hm r hd, sim_c hr⟩
/-- a built-in type as a value -/
theorem d_ty {x : Str} {n : String} {pos : Pos} (hm : X.mg x = none) (hv : bootBuiltins x = some (.type n)) (hg : Gl X x := by rfl) (hn : x ≠ "__name__" := by decide) (hd : (x == ("__debug__" : Str)) = false := by decide) : DE X W (.Name x pos) (dC (.v (.ty n))) :=
  ⟨_, pe_bltn (v := .ty n) hg hm hv rfl hn hd, sim_c fun _ => rfl⟩
end

/-! ### arguments, displays -/
def dNil : DFs := fun _ M Q _ => Q [] M
def dCons (f : DF) (g : DFs) : DFs := fun env M Q E => f env M (fun d M1 => g env M1 (fun ds M2 => Q (d :: ds) M2) E) E
def dTup (f : DFs) : DF := fun env M Q E => f env M (fun ds M1 => ds.length ≤ 1000 ∧ Q (.tup ds) M1) E
def dLstF (f : DFs) : DF := fun env M Q E => f env M (fun ds M1 => ds.length ≤ 1000 ∧ Q (.lst ds) M1) E
def dLst (f : DFs) : DF := fun env M Q E => f env M (fun ds M1 => ds.length ≤ 1000 ∧ ∀ a, M1 a = none → Q (.ref a) (mput M1 a (.lst ds))) E
section
variable {K : PySem.W.Frag} {W : WX} {te : TE} {ta : TA} {f : DF} {g : DFs}
theorem line1000 {n : Nat} (h : n ≤ 1000) : n ≤ sizeLine := Nat.le_of_lt (small1000 h)
theorem sim_nil : SimA K W 0 tNil dNil := fun σ H env M Q P E r h k _ => k [] M [] H h rfl (Stp.refl _ _) r.mem rfl
theorem sim_cons {n : Nat} (h1 : SimE K W te f) (h2 : SimA K W n ta g) : SimA K W (n + 1) (tCons te ta) (dCons f g) := by
  intro σ H env M Q P E r h k x
  refine h1 σ H env M _ _ E r h (fun d M1 u H1 p1 s1 m1 r1 => ?_) x
  refine h2 σ H1 env M1 _ _ E (r.to s1 m1) p1 (fun ds M2 us H2 p2 l2 s2 m2 r2 => ?_) (x.to s1)
  exact k _ M2 _ H2 p2 (congrArg Nat.succ l2) (s1.trans s2) m2 ⟨u, us, rfl, s2.rep r1, r2⟩
theorem sim_tup {n : Nat} (h1 : SimA K W n ta g) : SimE K W (tTup ta) (dTup g) := by
  intro σ H env M Q P E r h k x
  refine h1 σ H env M _ _ E r h (fun ds M1 us H1 p1 l1 s1 m1 r1 => ?_) x
  refine ⟨line1000 (by rw [reps_length r1]; exact p1.1), fun p hp => ?_⟩
  have s2 : Stp M1 H1 M1 (upd H1 p (.tup us)) := stp_new hp
  refine k _ M1 _ _ p1.2 (s1.trans s2) (mem_new m1 hp) ⟨p, us, rfl, .inl (.inl ?_), s2.reps r1⟩
  rw [off_none (m1.none hp)]
  exact upd_same
theorem sim_lstF {n : Nat} (h1 : SimA K W n ta g) : SimE K W (tLst ta) (dLstF g) := by
  intro σ H env M Q P E r h k x
  refine h1 σ H env M _ _ E r h (fun ds M1 us H1 p1 l1 s1 m1 r1 => ?_) x
  refine ⟨line1000 (by rw [reps_length r1]; exact p1.1), fun p hp => ?_⟩
  have s2 : Stp M1 H1 M1 (upd H1 p (.lst us)) := stp_new hp
  refine k _ M1 _ _ p1.2 (s1.trans s2) (mem_new m1 hp) ⟨p, us, rfl, .inl (.inl ?_), s2.reps r1⟩
  rw [off_none (m1.none hp)]
  exact upd_same
theorem sim_lst {n : Nat} (h1 : SimA K W n ta g) : SimE K W (tLst ta) (dLst g) := by
  intro σ H env M Q P E r h k x
  refine h1 σ H env M _ _ E r h (fun ds M1 us H1 p1 l1 s1 m1 r1 => ?_) x
  refine ⟨line1000 (by rw [reps_length r1]; exact p1.1), fun p hp => ?_⟩
  exact k _ _ _ _ (p1.2 p (m1.none hp)) (s1.trans (stp_put hp)) (mem_put m1 hp r1) rfl
end
section
variable {X : Cx} {W : WX} {f : DF} {g : DFs} {e : Expr} {es : List Expr} {pos : Pos}
theorem da_nil : DA X W [] dNil := ⟨_, pa_nil, sim_nil⟩
theorem da_cons (h1 : DE X W e f) (h2 : DA X W es g) (hs : starEach (e :: es) X.env = (false, eval e X.env) :: starEach es X.env := by rfl) : DA X W (e :: es) (dCons f g) :=
  let ⟨_, p1, s1⟩ := h1
  let ⟨_, p2, s2⟩ := h2
  ⟨_, pa_cons p1 p2 hs, sim_cons s1 s2⟩
theorem d_tup {x1} (h : DA X W es g) : DE X W (.Tuple es x1 pos) (dTup g) := let ⟨_, p, s⟩ := h; ⟨_, pe_tup p, sim_tup s⟩
theorem d_lstF (h : DA X W es g) : DE X W (.List es pos) (dLstF g) := let ⟨_, p, s⟩ := h; ⟨_, pe_lst p, sim_lstF s⟩
theorem d_lst (h : DA X W es g) : DE X W (.List es pos) (dLst g) := let ⟨_, p, s⟩ := h; ⟨_, pe_lst p, sim_lst s⟩
end

/-! ### operators by values -/
abbrev G2 := D → D → Mem → QD → Prop
def Sim2 (K : PySem.W.Frag) (r : R2) (g : G2) : Prop :=
  ∀ (x y : D) (u w : V) (M : Mem) (H : Hp) (Q : VK) (P : QD), MemOk K M H → rep K (off M H) x u → rep K (off M H) y w → g x y M P →
    (∀ d M' z H', P d M' → Stp M H M' H' → MemOk K M' H' → rep K (off M' H') d z → Q z H') → r u w H Q
def dOp (g : G2) (a b : DF) : DF := fun env M Q E => a env M (fun x M1 => b env M1 (fun y M2 => g x y M2 Q) E) E
theorem sim_op {K : PySem.W.Frag} {W : WX} {r : R2} {g : G2} {ta tb : TE} {a b : DF} (hr : Sim2 K r g) (h1 : SimE K W ta a) (h2 : SimE K W tb b) : SimE K W (tOp r ta tb) (dOp g a b) := by
  intro σ H env M Q P E rl h k x
  refine h1 σ H env M _ _ E rl h (fun d M1 u H1 p1 s1 m1 r1 => ?_) x
  refine h2 σ H1 env M1 _ _ E (rl.to s1 m1) p1 (fun d2 M2 w H2 p2 s2 m2 r2 => ?_) (x.to s1)
  exact hr d d2 u w M2 H2 _ P m2 (s2.rep r1) r2 p2 fun d3 M3 z H3 p3 s3 m3 r3 => k d3 M3 z H3 p3 ((s1.trans s2).trans s3) m3 r3
/-- two numbers -/
def gI (C : Int → Int → Prop) (h : Int → Int → V) : G2 := fun x y M Q => match x, y with
  | .v (.int i), .v (.int j) => C i j ∧ Q (.v (h i j)) M
  | _, _ => False
def gI0 (h : Int → Int → V) : G2 := fun x y M Q => match x, y with
  | .v (.int i), .v (.int j) => Q (.v (h i j)) M
  | _, _ => False
theorem sim_I {K : PySem.W.Frag} {C : Int → Int → Prop} {h : Int → Int → V} : Sim2 K (rI C h) (gI C h) := by
  intro x y u w M H Q P m rx ry hg k
  unfold gI at hg
  split at hg
  · rename_i i j
    exact ⟨i, j, rx, ry, hg.1, k _ M _ H hg.2 (Stp.refl _ _) m rfl⟩
  · exact hg.elim
theorem sim_I0 {K : PySem.W.Frag} {h : Int → Int → V} : Sim2 K (rI0 h) (gI0 h) := by
  intro x y u w M H Q P m rx ry hg k
  unfold gI0 at hg
  split at hg
  · rename_i i j
    exact ⟨i, j, rx, ry, k _ M _ H hg (Stp.refl _ _) m rfl⟩
  · exact hg.elim
section
variable {X : Cx} {W : WX} {a b : Expr} {f g : DF} {pos : Pos} {r : R2} {h : G2} {C : Int → Int → Prop} {hh : Int → Int → V}
theorem d_op {op : Operator} (ho : OpR X (binaryOp op) r) (hs : Sim2 X.K r h) (h1 : DE X W a f) (h2 : DE X W b g) : DE X W (.BinOp a op b pos) (dOp h f g) :=
  let ⟨_, p1, s1⟩ := h1
  let ⟨_, p2, s2⟩ := h2
  ⟨_, pe_op ho p1 p2, sim_op hs s1 s2⟩
theorem d_cmp {op : CmpOp} (ho : OpR X (compareOp op) r) (hs : Sim2 X.K r h) (h1 : DE X W a f) (h2 : DE X W b g) (hm : behindInMarks op b = false := by first | exact nomark _ | rfl) : DE X W (.Compare a [op] [b] pos) (dOp h f g) :=
  let ⟨_, p1, s1⟩ := h1
  let ⟨_, p2, s2⟩ := h2
  ⟨_, pe_cmpR ho p1 p2 hm, sim_op hs s1 s2⟩
theorem d_add (h1 : DE X W a f) (h2 : DE X W b g) : DE X W (.BinOp a .Add b pos) (dOp (gI0 fun i j => .int (i + j)) f g) := d_op op_add sim_I0 h1 h2
theorem d_sub (h1 : DE X W a f) (h2 : DE X W b g) : DE X W (.BinOp a .Sub b pos) (dOp (gI0 fun i j => .int (i - j)) f g) := d_op op_sub sim_I0 h1 h2
theorem d_mul (h1 : DE X W a f) (h2 : DE X W b g) : DE X W (.BinOp a .Mult b pos) (dOp (gI CMul fun i j => .int (i * j)) f g) := d_op op_mul sim_I h1 h2
theorem d_div (h1 : DE X W a f) (h2 : DE X W b g) : DE X W (.BinOp a .FloorDiv b pos) (dOp (gI CDiv fun i j => .int (i / j)) f g) := d_op op_fdiv sim_I h1 h2
theorem d_mod (h1 : DE X W a f) (h2 : DE X W b g) : DE X W (.BinOp a .Mod b pos) (dOp (gI (fun _ j => 0 < j) fun i j => .int (i % j)) f g) := d_op op_mod sim_I h1 h2
theorem d_pow (h1 : DE X W a f) (h2 : DE X W b g) : DE X W (.BinOp a .Pow b pos) (dOp (gI CPow fun i j => .int (i ^ j.toNat)) f g) := d_op op_pow sim_I h1 h2
theorem d_shl (h1 : DE X W a f) (h2 : DE X W b g) : DE X W (.BinOp a .LShift b pos) (dOp (gI CPow fun i j => .int (i * 2 ^ j.toNat)) f g) := d_op op_shl sim_I h1 h2
theorem d_shr (h1 : DE X W a f) (h2 : DE X W b g) : DE X W (.BinOp a .RShift b pos) (dOp (gI (fun _ j => 0 ≤ j) fun i j => .int (i / 2 ^ j.toNat)) f g) := d_op op_shr sim_I h1 h2
theorem d_and (h1 : DE X W a f) (h2 : DE X W b g) : DE X W (.BinOp a .BitAnd b pos) (dOp (gI0 fun i j => .int (Builtin.bitAnd i j)) f g) := d_op op_and sim_I0 h1 h2
theorem d_or (h1 : DE X W a f) (h2 : DE X W b g) : DE X W (.BinOp a .BitOr b pos) (dOp (gI0 fun i j => .int (Builtin.bitOr i j)) f g) := d_op op_or sim_I0 h1 h2
theorem d_xor (h1 : DE X W a f) (h2 : DE X W b g) : DE X W (.BinOp a .BitXor b pos) (dOp (gI0 fun i j => .int (Builtin.bitXor i j)) f g) := d_op op_xor sim_I0 h1 h2
theorem d_lt (h1 : DE X W a f) (h2 : DE X W b g) : DE X W (.Compare a [.Lt] [b] pos) (dOp (gI0 fun i j => .bl (decide (i < j))) f g) := d_cmp op_lt sim_I0 h1 h2
theorem d_le (h1 : DE X W a f) (h2 : DE X W b g) : DE X W (.Compare a [.LtE] [b] pos) (dOp (gI0 fun i j => .bl (decide (i ≤ j))) f g) := d_cmp op_le sim_I0 h1 h2
theorem d_gt (h1 : DE X W a f) (h2 : DE X W b g) : DE X W (.Compare a [.Gt] [b] pos) (dOp (gI0 fun i j => .bl (decide (j < i))) f g) := d_cmp op_gt sim_I0 h1 h2
theorem d_ge (h1 : DE X W a f) (h2 : DE X W b g) : DE X W (.Compare a [.GtE] [b] pos) (dOp (gI0 fun i j => .bl (decide (j ≤ i))) f g) := d_cmp op_ge sim_I0 h1 h2
end

/-! ### truths: by both ways -/
def bsel (b : Bool) (A B : Prop) : Prop := (b = true → A) ∧ (b = false → B)
theorem bsel.ite {b : Bool} {A B : Prop} (h : bsel b A B) : if b = true then A else B := by
  cases b with
  | true => exact iteT (h.1 rfl)
  | false => exact iteF (h.2 rfl)
def asB (d : D) (P : Bool → Prop) : Prop := match d with
  | .v (.bl b) => P b
  | _ => False
/-- a < b < c -/
def dChain (g1 g2 : G2) (a b c : DF) : DF := fun env M Q E => a env M (fun x M1 => b env M1 (fun y M2 => g1 x y M2 (fun z M3 => asB z fun k => bsel k (c env M3 (fun w M4 => g2 y w M4 Q) E) (Q (.bl false) M3))) E) E
def dAnd (a b : DF) : DF := fun env M Q E => a env M (fun x M1 => asB x fun k => bsel k (b env M1 Q E) (Q (.bl false) M1)) E
def dOr (a b : DF) : DF := fun env M Q E => a env M (fun x M1 => asB x fun k => bsel k (Q (.bl true) M1) (b env M1 Q E)) E
def dNot (a : DF) : DF := fun env M Q E => a env M (fun x M1 => asB x fun k => Q (.bl (!k)) M1) E
def dIf (c : DFt) (a b : DF) : DF := fun env M Q E => c env M (fun k M1 => bsel k (a env M1 Q E) (b env M1 Q E)) E
def dVal (a : DF) : DFt := fun env M Q E => a env M (fun x M1 => asB x fun k => Q k M1) E
def dAndT (a b : DFt) : DFt := fun env M Q E => a env M (fun k M1 => bsel k (b env M1 Q E) (Q false M1)) E
def dOrT (a b : DFt) : DFt := fun env M Q E => a env M (fun k M1 => bsel k (Q true M1) (b env M1 Q E)) E
def dNotT (a : DFt) : DFt := fun env M Q E => a env M (fun k M1 => Q (!k) M1) E
theorem of_asB {d : D} {P : Bool → Prop} (h : asB d P) : ∃ b, d = .bl b ∧ P b := by
  unfold asB at h
  split at h
  · exact ⟨_, rfl, h⟩
  · exact h.elim
section
variable {K : PySem.W.Frag} {W : WX} {ta tb tc : TE} {ua ub : TT} {a b c : DF} {p q : DFt} {r r' : R2} {g g' : G2}
theorem sim_chain (hr : Sim2 K r g) (hr' : Sim2 K r' g') (h1 : SimE K W ta a) (h2 : SimE K W tb b) (h3 : SimE K W tc c) : SimE K W (tChain r r' ta tb tc) (dChain g g' a b c) := by
  intro σ H env M Q P E rl h k x
  refine h1 σ H env M _ _ E rl h (fun d M1 u H1 p1 s1 m1 r1 => ?_) x
  refine h2 σ H1 env M1 _ _ E (rl.to s1 m1) p1 (fun d2 M2 w H2 p2 s2 m2 r2 => ?_) (x.to s1)
  refine hr d d2 u w M2 H2 _ _ m2 (s2.rep r1) r2 p2 fun d3 M3 z H3 p3 s3 m3 r3 => ?_
  obtain ⟨bb, rfl, hb⟩ := of_asB p3
  have s123 := (s1.trans s2).trans s3
  refine ⟨bb, r3, ?_⟩
  cases bb with
  | true =>
    refine iteT (h3 σ H3 env M3 _ _ E (rl.to s123 m3) (hb.1 rfl) (fun d4 M4 w4 H4 p4 s4 m4 r4 => ?_) (x.to s123))
    exact hr' d2 d4 w w4 M4 H4 _ P m4 (s4.rep (s3.rep r2)) r4 p4 fun d5 M5 z5 H5 p5 s5 m5 r5 => k d5 M5 z5 H5 p5 ((s123.trans s4).trans s5) m5 r5
  | false => exact iteF (k _ M3 _ H3 (hb.2 rfl) s123 m3 rfl)
theorem sim_and (h1 : SimE K W ta a) (h2 : SimE K W tb b) : SimE K W (tAndV ta tb) (dAnd a b) := by
  intro σ H env M Q P E rl h k x
  refine h1 σ H env M _ _ E rl h (fun d M1 u H1 p1 s1 m1 r1 => ?_) x
  obtain ⟨bb, rfl, hb⟩ := of_asB p1
  refine ⟨bb, r1, ?_⟩
  cases bb with
  | true => exact iteT (h2 σ H1 env M1 _ _ E (rl.to s1 m1) (hb.1 rfl) (fun d2 M2 w H2 p2 s2 m2 r2 => k d2 M2 w H2 p2 (s1.trans s2) m2 r2) (x.to s1))
  | false => exact iteF (k _ M1 _ H1 (hb.2 rfl) s1 m1 rfl)
theorem sim_or (h1 : SimE K W ta a) (h2 : SimE K W tb b) : SimE K W (tOrV ta tb) (dOr a b) := by
  intro σ H env M Q P E rl h k x
  refine h1 σ H env M _ _ E rl h (fun d M1 u H1 p1 s1 m1 r1 => ?_) x
  obtain ⟨bb, rfl, hb⟩ := of_asB p1
  refine ⟨bb, r1, ?_⟩
  cases bb with
  | false => exact iteF (h2 σ H1 env M1 _ _ E (rl.to s1 m1) (hb.2 rfl) (fun d2 M2 w H2 p2 s2 m2 r2 => k d2 M2 w H2 p2 (s1.trans s2) m2 r2) (x.to s1))
  | true => exact iteT (k _ M1 _ H1 (hb.1 rfl) s1 m1 rfl)
theorem sim_not (h1 : SimE K W ta a) : SimE K W (tNotV ta) (dNot a) := by
  intro σ H env M Q P E rl h k x
  refine h1 σ H env M _ _ E rl h (fun d M1 u H1 p1 s1 m1 r1 => ?_) x
  obtain ⟨bb, rfl, hb⟩ := of_asB p1
  exact ⟨bb, r1, k _ M1 _ H1 hb s1 m1 rfl⟩
theorem sim_if (h0 : SimT K W ua p) (h1 : SimE K W ta a) (h2 : SimE K W tb b) : SimE K W (tIf ua ta tb) (dIf p a b) := by
  intro σ H env M Q P E rl h k x
  refine h0 σ H env M _ _ E rl h (fun bb M1 H1 p1 s1 m1 => ?_) x
  cases bb with
  | true => exact iteT (h1 σ H1 env M1 _ _ E (rl.to s1 m1) (p1.1 rfl) (fun d2 M2 w H2 p2 s2 m2 r2 => k d2 M2 w H2 p2 (s1.trans s2) m2 r2) (x.to s1))
  | false => exact iteF (h2 σ H1 env M1 _ _ E (rl.to s1 m1) (p1.2 rfl) (fun d2 M2 w H2 p2 s2 m2 r2 => k d2 M2 w H2 p2 (s1.trans s2) m2 r2) (x.to s1))
theorem sim_val (h1 : SimE K W ta a) : SimT K W (tB ta) (dVal a) := by
  intro σ H env M Q P E rl h k x
  refine h1 σ H env M _ _ E rl h (fun d M1 u H1 p1 s1 m1 r1 => ?_) x
  obtain ⟨bb, rfl, hb⟩ := of_asB p1
  exact ⟨bb, r1, k bb M1 H1 hb s1 m1⟩
theorem sim_test (h1 : SimE K W ta a) : SimT K W (tTest ta) (dVal a) := sim_val h1
theorem sim_andT (h1 : SimT K W ua p) (h2 : SimT K W ub q) : SimT K W (tAnd ua ub) (dAndT p q) := by
  intro σ H env M Q P E rl h k x
  refine h1 σ H env M _ _ E rl h (fun bb M1 H1 p1 s1 m1 => ?_) x
  cases bb with
  | true => exact iteT (h2 σ H1 env M1 _ _ E (rl.to s1 m1) (p1.1 rfl) (fun d2 M2 H2 p2 s2 m2 => k d2 M2 H2 p2 (s1.trans s2) m2) (x.to s1))
  | false => exact iteF (k _ M1 H1 (p1.2 rfl) s1 m1)
theorem sim_orT (h1 : SimT K W ua p) (h2 : SimT K W ub q) : SimT K W (tOr ua ub) (dOrT p q) := by
  intro σ H env M Q P E rl h k x
  refine h1 σ H env M _ _ E rl h (fun bb M1 H1 p1 s1 m1 => ?_) x
  cases bb with
  | false => exact iteF (h2 σ H1 env M1 _ _ E (rl.to s1 m1) (p1.2 rfl) (fun d2 M2 H2 p2 s2 m2 => k d2 M2 H2 p2 (s1.trans s2) m2) (x.to s1))
  | true => exact iteT (k _ M1 H1 (p1.1 rfl) s1 m1)
theorem sim_notT (h1 : SimT K W ua p) : SimT K W (tNot ua) (dNotT p) := by
  intro σ H env M Q P E rl h k x
  exact h1 σ H env M _ _ E rl h (fun bb M1 H1 p1 s1 m1 => k _ M1 H1 p1 s1 m1) x
end
section
variable {X : Cx} {W : WX} {a b c : Expr} {rest : List Expr} {f g h : DF} {p q : DFt} {pos : Pos} {r r' : R2} {j j' : G2}
theorem d_chain {op op' : CmpOp} (ho : OpR X (compareOp op) r) (ho' : OpR X (compareOp op') r') (hs : Sim2 X.K r j) (hs' : Sim2 X.K r' j') (h1 : DE X W a f) (h2 : DE X W b g) (h3 : DE X W c h) (hm : lastMarks [op, op'] [b, c] = false := by rfl) : DE X W (.Compare a [op, op'] [b, c] pos) (dChain j j' f g h) :=
  let ⟨_, p1, s1⟩ := h1
  let ⟨_, p2, s2⟩ := h2
  let ⟨_, p3, s3⟩ := h3
  ⟨_, pe_chain ho ho' p1 p2 p3 hm, sim_chain hs hs' s1 s2 s3⟩
theorem d_leLe (h1 : DE X W a f) (h2 : DE X W b g) (h3 : DE X W c h) (hm : lastMarks [.LtE, .LtE] [b, c] = false := by rfl) : DE X W (.Compare a [.LtE, .LtE] [b, c] pos) (dChain (gI0 fun i j => .bl (decide (i ≤ j))) (gI0 fun i j => .bl (decide (i ≤ j))) f g h) := d_chain op_le op_le sim_I0 sim_I0 h1 h2 h3 hm
theorem d_one {op} (h1 : DE X W a f) : DE X W (.BoolOp op [a] pos) f := let ⟨_, p1, s1⟩ := h1; ⟨_, pe_one p1, s1⟩
theorem d_andV (h1 : DE X W a f) (h2 : DE X W (.BoolOp .And (b :: rest) pos) g) : DE X W (.BoolOp .And (a :: b :: rest) pos) (dAnd f g) :=
  let ⟨_, p1, s1⟩ := h1
  let ⟨_, p2, s2⟩ := h2
  ⟨_, pe_and p1 p2, sim_and s1 s2⟩
theorem d_orV (h1 : DE X W a f) (h2 : DE X W (.BoolOp .Or (b :: rest) pos) g) : DE X W (.BoolOp .Or (a :: b :: rest) pos) (dOr f g) :=
  let ⟨_, p1, s1⟩ := h1
  let ⟨_, p2, s2⟩ := h2
  ⟨_, pe_or p1 p2, sim_or s1 s2⟩
theorem d_notV (h1 : DE X W a f) : DE X W (.UnaryOp .Not a pos) (dNot f) := let ⟨_, p1, s1⟩ := h1; ⟨_, pe_not p1, sim_not s1⟩
theorem d_ifE (h0 : DT X W c p) (h1 : DE X W a f) (h2 : DE X W b g) : DE X W (.IfExp c a b pos) (dIf p f g) :=
  let ⟨_, p0, s0⟩ := h0
  let ⟨_, p1, s1⟩ := h1
  let ⟨_, p2, s2⟩ := h2
  ⟨_, pe_ifExp p0 p1 p2, sim_if s0 s1 s2⟩
/-- tests -/
theorem dt_val (h1 : DE X W a f) (he : ∀ whole, isTrue a X.env whole = (do let v ← whole; standAt a.pos; holding [v] (truthy v)) := by intro _; rfl) : DT X W a (dVal f) := let ⟨_, p1, s1⟩ := h1; ⟨_, pt_val p1 he, sim_val s1⟩
theorem dt_cmp {op : CmpOp} (ho : OpR X (compareOp op) r) (hs : Sim2 X.K r j) (h1 : DE X W a f) (h2 : DE X W b g) (hm : behindInMarks op b = false := by first | exact nomark _ | rfl) : DT X W (.Compare a [op] [b] pos) (dVal (dOp j f g)) :=
  let ⟨_, p1, s1⟩ := h1
  let ⟨_, p2, s2⟩ := h2
  ⟨_, pt_cmpR ho p1 p2 hm, sim_test (sim_op hs s1 s2)⟩
theorem dt_chain {op op' : CmpOp} (ho : OpR X (compareOp op) r) (ho' : OpR X (compareOp op') r') (hs : Sim2 X.K r j) (hs' : Sim2 X.K r' j') (h1 : DE X W a f) (h2 : DE X W b g) (h3 : DE X W c h) (hm : lastMarks [op, op'] [b, c] = false := by rfl) : DT X W (.Compare a [op, op'] [b, c] pos) (dVal (dChain j j' f g h)) :=
  let ⟨_, p1, s1⟩ := h1
  let ⟨_, p2, s2⟩ := h2
  let ⟨_, p3, s3⟩ := h3
  ⟨_, pt_chain ho ho' p1 p2 p3 hm, sim_test (sim_chain hs hs' s1 s2 s3)⟩
theorem dt_w (h1 : DW X W a p) : DT X W a p := let ⟨_, p1, s1⟩ := h1; ⟨_, p1.pt, s1⟩
theorem dw_and1 (h1 : DT X W a p) : DW X W (.BoolOp .And [a] pos) p := let ⟨_, p1, s1⟩ := h1; ⟨_, pw_and1 p1, s1⟩
theorem dw_or1 (h1 : DT X W a p) : DW X W (.BoolOp .Or [a] pos) p := let ⟨_, p1, s1⟩ := h1; ⟨_, pw_or1 p1, s1⟩
theorem dw_and (h1 : DT X W a p) (h2 : DW X W (.BoolOp .And (b :: rest) pos) q) : DW X W (.BoolOp .And (a :: b :: rest) pos) (dAndT p q) :=
  let ⟨_, p1, s1⟩ := h1
  let ⟨_, p2, s2⟩ := h2
  ⟨_, pw_and p1 p2, sim_andT s1 s2⟩
theorem dw_or (h1 : DT X W a p) (h2 : DW X W (.BoolOp .Or (b :: rest) pos) q) : DW X W (.BoolOp .Or (a :: b :: rest) pos) (dOrT p q) :=
  let ⟨_, p1, s1⟩ := h1
  let ⟨_, p2, s2⟩ := h2
  ⟨_, pw_or p1 p2, sim_orT s1 s2⟩
theorem dt_not (h1 : DT X W a p) : DT X W (.UnaryOp .Not a pos) (dNotT p) := let ⟨_, p1, s1⟩ := h1; ⟨_, pt_not p1, sim_notT s1⟩
end
end DL
set_option maxHeartbeats 4000001
namespace DL
open PySem PySem.Spec
open PyProof.Rows L2

/-! ### things read at any depth -/
mutual
inductive Rp (K : PySem.W.Frag) (H : Hp) : V → PyData → Prop
  | non : Rp K H .non .none
  | bl (b : Bool) : Rp K H (.bl b) (.bool b)
  | int (i : Int) : Rp K H (.int i) (.int i)
  | str (x : Str) : Rp K H (.str x) (.str x)
  | lst {a : Addr} {xs : List V} {ds : List PyData} : SqL K H a xs → RpAll K H xs ds → Rp K H (.ref a) (.list ds)
  | tup {a : Addr} {xs : List V} {ds : List PyData} : SqT K H a xs → RpAll K H xs ds → Rp K H (.ref a) (.tuple ds)
  | dct {a : Addr} : H a = some (.dK []) → Rp K H (.ref a) (.dict [])
inductive RpAll (K : PySem.W.Frag) (H : Hp) : List V → List PyData → Prop
  | nil : RpAll K H [] []
  | cons {v : V} {vs : List V} {d : PyData} {ds : List PyData} : Rp K H v d → RpAll K H vs ds → RpAll K H (v :: vs) (d :: ds)
end
/-- the modules' dict stands ahead of all -/
def Sys (base : Heap) : Prop := ∃ mm, base.Ns sysModules mm
section
variable {X : Cx} {pins : List (Addr × Obj)}
variable {σ : L2.St} {H : Hp} {s : Shared}
theorem sys_ne (S : Sys X.base) (I : Inv X pins σ H s) {a : Addr} {o : HO} (h : H a = some o) : a ≠ sysModules := fun e => by
  obtain ⟨mm, ob, es, ep, ho, _⟩ := S
  have q := (I.bs _ _ ho).2
  rw [← e, h] at q
  cases q
theorem sys_rd (S : Sys X.base) (I : Inv X pins σ H s) {a : Addr} {u : HO} (h : Rd H a u) : a ≠ sysModules := by
  rcases h with h | ⟨o, h⟩
  · exact sys_ne S I h
  · exact sys_ne S I h
theorem sys_sq (S : Sys X.base) (I : Inv X pins σ H s) {a : Addr} {xs : List V} (h : SqL X.K H a xs) : a ≠ sysModules := by
  obtain h | ⟨o, its, n, hk, hc, hd, hs, hz, r⟩ := h
  · exact sys_rd S I h
  · intro e
    obtain ⟨mm, ob, es, ep, ho, hdat, _⟩ := S
    have q := I.ok.mod.kin a o hk
    rw [e, ho] at q
    cases q
    rw [hdat] at hs
    cases hs
mutual
theorem Rp.reads (S : Sys X.base) (I : Inv X pins σ H s) : ∀ (d : PyData) (v : V) (u : Value), Rp X.K H v d → RelV v u → ∃ as, Reads s.heap u d as ∧ sysModules ∉ as
  | .none, _, _, h, r => by
    cases h
    cases r
    exact ⟨_, Reads.none, by simp⟩
  | .bool b, _, _, h, r => by
    cases h
    cases r
    exact ⟨_, Reads.bool b, by simp⟩
  | .int i, _, _, h, r => by
    cases h
    obtain ⟨t, rfl⟩ := r
    exact ⟨_, Reads.int i t, by simp⟩
  | .str x, _, _, h, r => by
    cases h
    obtain ⟨t, rfl⟩ := r
    exact ⟨_, Reads.str x t, by simp⟩
  | .list ds, _, _, h, r => by
    cases h with
    | lst hs ha =>
      cases r
      have hne := sys_sq S I hs
      rcases I.list hs with ⟨its, rv, ⟨o, n, ho, hc, _, hd⟩, _⟩
      obtain ⟨as, hr, hm⟩ := Rp.readsAll S I ds _ its ha rv
      refine ⟨_, Reads.list ho hc hd hr, fun z => ?_⟩
      obtain z | z := List.mem_cons.mp z
      · exact hne z.symm
      · exact hm z
  | .tuple ds, _, _, h, r => by
    cases h with
    | tup hs ha =>
      cases r
      rcases I.tuple hs with ⟨its, rv, ⟨o, ho, hc, n, hd⟩, _⟩
      obtain ⟨as, hr, hm⟩ := Rp.readsAll S I ds _ its ha rv
      exact ⟨_, Reads.tuple ho hc hd hr, hm⟩
  | .dict kvs, _, _, h, r => by
    cases h with
    | dct hs =>
      cases r
      have hne := sys_ne S I hs
      obtain ⟨_, _, vs, kv, o, es, ep, h1, h2, h3, _, h4, _⟩ := I.hok _ _ hs
      cases kv
      have he : es = #[] := by
        cases e : es.toList with
        | nil => exact Array.toList_eq_nil_iff.mp e
        | cons x l =>
          rw [e] at h4
          cases h4
      subst he
      exact ⟨_, Reads.dict (kvs := []) h1 h2.1 h3 ReadsAll.nil ReadsAll.nil, fun z => by
        simp at z
        exact hne z.symm⟩
theorem Rp.readsAll (S : Sys X.base) (I : Inv X pins σ H s) : ∀ (ds : List PyData) (vs : List V) (us : List Value), RpAll X.K H vs ds → Vals vs us → ∃ as, ReadsAll s.heap us ds as ∧ sysModules ∉ as
  | [], _, _, h, r => by
    cases h
    cases r
    exact ⟨_, ReadsAll.nil, by simp⟩
  | d :: ds, _, _, h, r => by
    cases h with
    | cons h1 h2 =>
      cases r with
      | cons r1 r2 =>
        obtain ⟨as, q1, m1⟩ := Rp.reads S I d _ _ h1 r1
        obtain ⟨bs, q2, m2⟩ := Rp.readsAll S I ds _ _ h2 r2
        refine ⟨_, ReadsAll.cons q1 q2, fun z => ?_⟩
        rcases List.mem_append.mp z with z | z
        · exact m1 z
        · exact m2 z
end
end
/-! == and != -/
def rEqP (K : PySem.W.Frag) (neg : Bool) : R2 := fun x y H Q => ∃ d e, Rp K H x d ∧ Rp K H y e ∧ SeqAt.shaped d = true ∧ SeqAt.shaped e = true ∧ Q (.bl (if neg then !PyData.eqv d e else PyData.eqv d e)) H
section
variable {X : Cx}
theorem op_eqP (S : Sys X.base) (hu : X.A.units + 64 < cLine) : OpR X (compareOp .Eq) (rEqP X.K false) := by
  rintro pins s σ H x y v u Q I rx ry h
  rcases h with ⟨d, e, hd, he, sd, se, q⟩
  obtain ⟨as, r1, _⟩ := Rp.reads S I d x v hd rx
  obtain ⟨bs, r2, _⟩ := Rp.reads S I e y u he ry
  exact (SeqAt.compareEq_shaped r1 r2 sd se hu ⟨.bl _, H, I, rfl, q⟩)
theorem op_neP (S : Sys X.base) (hu : X.A.units + 64 < cLine) : OpR X (compareOp .NotEq) (rEqP X.K true) := by
  rintro pins s σ H x y v u Q I rx ry h
  rcases h with ⟨d, e, hd, he, sd, se, q⟩
  obtain ⟨as, r1, _⟩ := Rp.reads S I d x v hd rx
  obtain ⟨bs, r2, _⟩ := Rp.reads S I e y u he ry
  exact (SeqAt.compareNe_shaped r1 r2 sd se hu ⟨.bl _, H, I, rfl, q⟩)
end
/-! repr -/
def rRepr (K : PySem.W.Frag) : List V → Hp → VK → Prop := fun xs H Q => ∃ x p, xs = [x] ∧ Rp K H x p ∧ p.showable = true ∧ p.shown.length ≤ sizeLine ∧ p.depth ≤ 100 ∧ Q (.str p.shown) H
theorem call_repr {X : Cx} (S : Sys X.base) (hG : X.A.guards = some []) (hu : X.A.units + 128 < cLine) : CallR X (.builtin "repr") (rRepr X.K) := by
  rintro pins s σ H xs us Q I r h
  obtain ⟨x, p, rfl, hp, hs, hz, hd, q⟩ := h
  rcases vals1 r with ⟨u, rfl, rx⟩
  obtain ⟨as, rd, hm⟩ := Rp.reads S I p x u hp rx
  have atom : EP X pins σ Q (.str p.shown s.toks) { s with toks := s.toks + 1 } := ⟨.str _, H, I.tok _, ⟨_, rfl⟩, q⟩
  have big : ∀ a, u = .ref a → wpAny (model X.prog X.w) X.A (call (.builtin "repr") [u]) (EP X pins σ Q) X.xe s := fun a e => by
    subst e
    refine repr_of_reads' rd hs (fun _ => hm) hG (by omega) (fun _ _ e => e) (fun h' t tk hk => ?_) hz
    exact ⟨.str _, H, I.kept hk, ⟨_, rfl⟩, q⟩
  cases rd with
  | none => exact P.repr_of_none (by simpa only [PyData.shown] using atom)
  | bool b => exact P.repr_of_bool (by simpa only [PyData.shown] using atom)
  | int i t => exact P.repr_of_int (by simpa [PyData.showable] using hs) (by simpa only [PyData.shown] using atom)
  | str y t => exact P.repr_of_str (by simpa only [PyData.shown] using atom) (by simpa only [PyData.shown] using hz)
  | list => exact big _ rfl
  | tuple => exact big _ rfl
  | dict => exact big _ rfl

/-! ### the same by data -/
mutual
def pdW (res : Addr → Option PyData) : D → Option PyData
  | .v .non => some .none
  | .v (.bl b) => some (.bool b)
  | .v (.int i) => some (.int i)
  | .v (.str x) => some (.str x)
  | .v (.ref a) => res a
  | .v _ => none
  | .lst l => match pdsW res l with
    | some ps => some (.list ps)
    | none => none
  | .tup l => match pdsW res l with
    | some ps => some (.tuple ps)
    | none => none
  | .dct [] => some (.dict [])
  | .dct _ => none
  | .exn _ _ _ => none
def pdsW (res : Addr → Option PyData) : List D → Option (List PyData)
  | [] => some []
  | d :: ds => match pdW res d, pdsW res ds with
    | some p, some ps => some (p :: ps)
    | _, _ => none
end
def resM (M : Mem) : Nat → Addr → Option PyData
  | 0, _ => none
  | n + 1, a => match M a with
    | some (.lst l) => match pdsW (resM M n) l with
      | some ps => some (.list ps)
      | none => none
    | some (.dct []) => some (.dict [])
    | _ => none
/-- what a thing is, as data -/
def pdM (M : Mem) (d : D) : Option PyData := pdW (resM M 3) d
theorem off_le {M : Mem} {H : Hp} : Same (off M H) H := fun b o h => (of_off h).1
mutual
theorem pdW_rp {K : PySem.W.Frag} {H G : Hp} {res : Addr → Option PyData} (hG : Same G H) (hr : ∀ a p, res a = some p → Rp K H (.ref a) p) : ∀ (d : D) (p : PyData) (u : V), pdW res d = some p → rep K G d u → Rp K H u p
  | .v x, p, u, h, r => by
    have e : u = x := r
    subst e
    cases u with
    | non => cases h; exact .non
    | bl b => cases h; exact .bl b
    | int i => cases h; exact .int i
    | str z => cases h; exact .str z
    | ref a => exact hr a p h
    | byt _ => cases h
    | flt _ => cases h
    | ty _ => cases h
  | .lst l, p, u, h, r => by
    obtain ⟨a, vs, rfl, h1, h2⟩ := r
    simp only [pdW] at h
    split at h
    · rename_i ps e
      cases h
      exact .lst (hG.seq h1) (pdsW_rp hG hr l ps vs e h2)
    · cases h
  | .tup l, p, u, h, r => by
    obtain ⟨a, vs, rfl, h1, h2⟩ := r
    simp only [pdW] at h
    split at h
    · rename_i ps e
      cases h
      exact .tup (sqT_same hG h1) (pdsW_rp hG hr l ps vs e h2)
    · cases h
  | .dct [], p, u, h, r => by
    obtain ⟨a, kvs, rfl, h1, h2⟩ := r
    cases h
    cases h2
    exact .dct (hG _ _ h1)
  | .dct (_ :: _), p, u, h, r => by cases h
  | .exn _ _ _, p, u, h, r => by cases h
theorem pdsW_rp {K : PySem.W.Frag} {H G : Hp} {res : Addr → Option PyData} (hG : Same G H) (hr : ∀ a p, res a = some p → Rp K H (.ref a) p) : ∀ (l : List D) (ps : List PyData) (us : List V), pdsW res l = some ps → reps K G l us → RpAll K H us ps
  | [], ps, us, h, r => by
    cases h
    cases r
    exact .nil
  | d :: ds, ps, us, h, r => by
    obtain ⟨u, w, rfl, h1, h2⟩ := r
    simp only [pdsW] at h
    split at h
    · rename_i p qs e1 e2
      cases h
      exact .cons (pdW_rp hG hr d p u e1 h1) (pdsW_rp hG hr ds qs w e2 h2)
    · cases h
end
theorem resM_rp {K : PySem.W.Frag} {M : Mem} {H : Hp} (m : MemOk K M H) : ∀ (n : Nat) (a : Addr) (p : PyData), resM M n a = some p → Rp K H (.ref a) p
  | 0, a, p, h => by cases h
  | n + 1, a, p, h => by
    unfold resM at h
    split at h
    · rename_i l e
      split at h
      · rename_i ps e2
        cases h
        obtain ⟨vs, h1, h2⟩ := m a _ e
        exact .lst (.inl (.inl h1)) (pdsW_rp off_le (resM_rp m n) l ps vs e2 h2)
      · cases h
    · rename_i e
      cases h
      obtain ⟨vs, h1, h2⟩ := m a _ e
      cases h2
      exact .dct h1
    · cases h
theorem pdM_rp {K : PySem.W.Frag} {M : Mem} {H : Hp} (m : MemOk K M H) {d : D} {p : PyData} {u : V} (h : pdM M d = some p) (r : rep K (off M H) d u) : Rp K H u p := pdW_rp off_le (resM_rp m 3) d p u h r

/-! data of Lean's PyData kind -/
mutual
def ofP : PyData → D
  | .none => .non
  | .bool b => .bl b
  | .int i => .int i
  | .str x => .str x
  | .list l => .lst (ofPs l)
  | .tuple l => .tup (ofPs l)
  | .dict _ => .dct []
def ofPs : List PyData → List D
  | [] => []
  | p :: ps => ofP p :: ofPs ps
end
mutual
/-- no dict but the empty one -/
def plainP : PyData → Bool
  | .list l => plainPs l
  | .tuple l => plainPs l
  | .dict [] => true
  | .dict _ => false
  | _ => true
def plainPs : List PyData → Bool
  | [] => true
  | p :: ps => plainP p && plainPs ps
end
mutual
theorem pdW_ofP (res : Addr → Option PyData) : ∀ p : PyData, plainP p = true → pdW res (ofP p) = some p
  | .none, _ => rfl
  | .bool _, _ => rfl
  | .int _, _ => rfl
  | .str _, _ => rfl
  | .list l, h => by
    have e := pdsW_ofPs res l h
    simp only [ofP, pdW, e]
  | .tuple l, h => by
    have e := pdsW_ofPs res l h
    simp only [ofP, pdW, e]
  | .dict [], _ => rfl
  | .dict (_ :: _), h => by cases h
theorem pdsW_ofPs (res : Addr → Option PyData) : ∀ l : List PyData, plainPs l = true → pdsW res (ofPs l) = some l
  | [], _ => rfl
  | p :: ps, h => by
    simp only [plainPs, Bool.and_eq_true] at h
    simp only [ofPs, pdsW, pdW_ofP res p h.1, pdsW_ofPs res ps h.2]
end
theorem pdM_ofP {M : Mem} {p : PyData} (h : plainP p = true) : pdM M (ofP p) = some p := pdW_ofP _ p h
theorem ofPs_map : ∀ l : List PyData, ofPs l = l.map ofP
  | [] => rfl
  | p :: ps => by rw [ofPs, ofPs_map ps]; rfl

def gEq (neg : Bool) : G2 := fun x y M Q => ∃ p q, pdM M x = some p ∧ pdM M y = some q ∧ SeqAt.shaped p = true ∧ SeqAt.shaped q = true ∧ Q (.bl (if neg then !PyData.eqv p q else PyData.eqv p q)) M
theorem sim_eq {K : PySem.W.Frag} {neg : Bool} : Sim2 K (rEqP K neg) (gEq neg) := by
  intro x y u w M H Q P m rx ry hg k
  obtain ⟨p, q, h1, h2, h3, h4, h5⟩ := hg
  exact ⟨p, q, pdM_rp m h1 rx, pdM_rp m h2 ry, h3, h4, k _ M _ H h5 (Stp.refl _ _) m rfl⟩

/-! ### built-ins by values -/
abbrev GC := List D → Mem → QD → Prop
def SimC (K : PySem.W.Frag) (r : List V → Hp → VK → Prop) (g : GC) : Prop :=
  ∀ (xs : List D) (us : List V) (M : Mem) (H : Hp) (Q : VK) (P : QD), MemOk K M H → reps K (off M H) xs us → g xs M P →
    (∀ d M' z H', P d M' → Stp M H M' H' → MemOk K M' H' → rep K (off M' H') d z → Q z H') → r us H Q
def dCB (g : GC) (f : DFs) : DF := fun env M Q E => f env M (fun xs M1 => g xs M1 Q) E
theorem sim_CB {K : PySem.W.Frag} {W : WX} {r : List V → Hp → VK → Prop} {g : GC} {ta : TA} {f : DFs} {n : Nat} (hr : SimC K r g) (h1 : SimA K W n ta f) : SimE K W (tCB r ta) (dCB g f) := by
  intro σ H env M Q P E rl h k x
  refine h1 σ H env M _ _ E rl h (fun d M1 u H1 p1 l1 s1 m1 r1 => ?_) x
  exact hr d u M1 H1 _ P m1 r1 p1 fun d3 M3 z H3 p3 s3 m3 r3 => k d3 M3 z H3 p3 (s1.trans s3) m3 r3
section
variable {X : Cx} {W : WX} {r : List V → Hp → VK → Prop} {g : GC} {f : DFs} {x : Str} {id T : String} {e : Expr} {es : List Expr} {p pos : Pos}
theorem d_callB (hc : CallR X (.builtin id) r) (hs : SimC X.K r g) (hm : X.mg x = none) (hv : bootBuiltins x = some (.builtin id)) (ha : DA X W (e :: es) f) (hg : Gl X x := by rfl) (hn : x ≠ "__name__" := by decide) (hdb : (x == ("__debug__" : Str)) = false := by decide)
    (he : starEach (e :: es) X.env = (false, eval e X.env) :: starEach es X.env := by rfl) (hpl : (backTo pos (starEach es X.env)).any (·.1) = false := by rfl) : DE X W (.Call (.Name x p) (e :: es) [] pos) (dCB g f) :=
  let ⟨_, p1, s1⟩ := ha
  ⟨_, pe_callB hc hg hm hv p1 hn hdb he hpl, sim_CB hs s1⟩
theorem d_callTy (hc : CallR X (.type T) r) (hs : SimC X.K r g) (hm : X.mg x = none) (hv : bootBuiltins x = some (.type T)) (ha : DA X W (e :: es) f) (hg : Gl X x := by rfl) (hn : x ≠ "__name__" := by decide) (hdb : (x == ("__debug__" : Str)) = false := by decide)
    (he : starEach (e :: es) X.env = (false, eval e X.env) :: starEach es X.env := by rfl) (hpl : (backTo pos (starEach es X.env)).any (·.1) = false := by rfl) : DE X W (.Call (.Name x p) (e :: es) [] pos) (dCB g f) :=
  let ⟨_, p1, s1⟩ := ha
  ⟨_, pe_callTy hc hg hm hv p1 hn hdb he hpl, sim_CB hs s1⟩
end
/-- a list or a tuple -/
def seqD (M : Mem) : D → Option (Bool × List D)
  | .lst l => some (true, l)
  | .tup l => some (false, l)
  | .v (.ref a) => match M a with
    | some (.lst l) => some (true, l)
    | _ => none
  | _ => none
def Sq (K : PySem.W.Frag) (H : Hp) (b : Bool) (a : Addr) (vs : List V) : Prop := match b with
  | true => SqL K H a vs
  | false => SqT K H a vs
theorem seq_rep {K : PySem.W.Frag} {M : Mem} {H : Hp} (m : MemOk K M H) {d : D} {b : Bool} {l : List D} {u : V} (h : seqD M d = some (b, l)) (r : rep K (off M H) d u) : ∃ a vs, u = .ref a ∧ Sq K H b a vs ∧ reps K (off M H) l vs := by
  cases d with
  | lst l' =>
    cases h
    obtain ⟨a, vs, h1, h2, h3⟩ := r
    exact ⟨a, vs, h1, off_le.seq h2, h3⟩
  | tup l' =>
    cases h
    obtain ⟨a, vs, h1, h2, h3⟩ := r
    exact ⟨a, vs, h1, sqT_same off_le h2, h3⟩
  | dct _ => cases h
  | exn _ _ _ => cases h
  | v x =>
    cases x with
    | ref a =>
      simp only [seqD] at h
      split at h
      · rename_i l2 e
        cases h
        obtain ⟨vs, h1, h2⟩ := m a _ e
        exact ⟨a, vs, r, .inl (.inl h1), h2⟩
      · cases h
    | _ => cases h
theorem Sq.or {K : PySem.W.Frag} {H : Hp} {b : Bool} {a : Addr} {vs : List V} (h : Sq K H b a vs) : SqL K H a vs ∨ SqT K H a vs := by
  cases b with
  | true => exact .inl h
  | false => exact .inr h
/-! len -/
def gLen : GC := fun xs M Q => match xs with
  | [x] => match seqD M x with
    | some (_, l) => Q (.int l.length) M
    | none => match x with
      | .v (.str z) => z.length ≤ sizeLine ∧ Q (.int z.length) M
      | _ => False
  | _ => False
theorem sim_len {K : PySem.W.Frag} : SimC K (fun xs H Q => ∃ x n, xs = [x] ∧ LenV K x H n ∧ Q (.int n) H) gLen := by
  intro xs us M H Q P m r h k
  unfold gLen at h
  split at h
  · rename_i x
    obtain ⟨u, w, rfl, r1, r2⟩ := r
    cases r2
    split at h
    · rename_i b l e
      obtain ⟨a, vs, rfl, h1, h2⟩ := seq_rep m e r1
      refine ⟨.ref a, vs.length, rfl, ?_, k _ M _ H h (Stp.refl _ _) m (by show V.int _ = V.int _; rw [reps_length h2])⟩
      cases b with
      | true => exact .inl ⟨vs, h1, rfl⟩
      | false => exact .inr ⟨vs, h1, rfl⟩
    · split at h
      · rename_i z e
        have eu : u = .str z := r1
        subst eu
        exact ⟨.str z, z.length, rfl, ⟨h.1, rfl⟩, k _ M _ H h.2 (Stp.refl _ _) m rfl⟩
      · exact h.elim
  · exact h.elim
/-! x[i] -/
theorem reps_at {K : PySem.W.Frag} {G : Hp} {l : List D} {us : List V} {i : Int} {d : D} (r : reps K G l us) (h : atI l i = some d) : ∃ u, atI us i = some u ∧ rep K G d u := by
  unfold atI at h ⊢
  rw [reps_length r]
  cases e : ixN l.length i with
  | none =>
    rw [e] at h
    cases h
  | some j =>
    rw [e] at h
    exact reps_get r h
def gIx : G2 := fun x y M Q => match y with
  | .v (.int i) => match seqD M x with
    | some (_, l) => ∃ d, atI l i = some d ∧ Q d M
    | none => match x with
      | .v (.str z) => z.length ≤ sizeLine ∧ ∃ c, atI z.cps.toList i = some c ∧ Q (.str ⟨#[c]⟩) M
      | _ => False
  | _ => False
theorem sim_ix {K : PySem.W.Frag} : Sim2 K (rIx K) gIx := by
  intro x y u w M H Q P m rx ry hg k
  unfold gIx at hg
  split at hg
  · rename_i i
    have ew : w = .int i := ry
    subst ew
    split at hg
    · rename_i b l e
      obtain ⟨d, h1, h2⟩ := hg
      obtain ⟨a, vs, rfl, q1, q2⟩ := seq_rep m e rx
      obtain ⟨z, e1, e2⟩ := reps_at q2 h1
      have fin := k _ M z H h2 (Stp.refl _ _) m e2
      cases b with
      | true => exact .inl ⟨a, vs, i, z, rfl, rfl, q1, e1, fin⟩
      | false => exact .inr (.inl ⟨a, vs, i, z, rfl, rfl, q1, e1, fin⟩)
    · split at hg
      · rename_i z e
        have eu : u = .str z := rx
        subst eu
        obtain ⟨h1, c, h2, h3⟩ := hg
        exact .inr (.inr ⟨z, i, c, rfl, rfl, h1, h2, k _ M _ H h3 (Stp.refl _ _) m rfl⟩)
      · exact hg.elim
  · exact hg.elim
theorem d_ix {X : Cx} {W : WX} {a b : Expr} {f g : DF} {pos : Pos} (h1 : DE X W a f) (h2 : DE X W b g) (hs : PlainIx b := by exact fun _ _ => rfl) : DE X W (.Subscript a b pos) (dOp gIx f g) :=
  let ⟨_, p1, s1⟩ := h1
  let ⟨_, p2, s2⟩ := h2
  ⟨_, pe_ix ix_seq p1 p2 hs, sim_op sim_ix s1 s2⟩
/-! repr -/
def gRepr : GC := fun xs M Q => match xs with
  | [x] => ∃ p, pdM M x = some p ∧ p.showable = true ∧ p.shown.length ≤ sizeLine ∧ p.depth ≤ 100 ∧ Q (.str p.shown) M
  | _ => False
theorem sim_repr {K : PySem.W.Frag} : SimC K (rRepr K) gRepr := by
  intro xs us M H Q P m r h k
  unfold gRepr at h
  split at h
  · rename_i x
    obtain ⟨u, w, rfl, r1, r2⟩ := r
    cases r2
    obtain ⟨p, h1, h2, h3, h4, h5⟩ := h
    exact ⟨u, p, rfl, pdM_rp m h1 r1, h2, h3, h4, k _ M _ H h5 (Stp.refl _ _) m rfl⟩
  · exact h.elim
/-! isinstance -/
def tyD (M : Mem) : D → Option String
  | .v .non => some "NoneType"
  | .v (.bl _) => some "bool"
  | .v (.int _) => some "int"
  | .v (.str _) => some "str"
  | .v (.ref a) => match M a with
    | some (.lst _) => (some "list")
    | some (.dct _) => some "dict"
    | none => none
  | .v _ => none
  | .lst _ => some "list"
  | .tup _ => some "tuple"
  | .dct _ => some "dict"
  | .exn _ _ _ => none
def tyNs : List String := ["NoneType", "bool", "int", "str", "list", "tuple", "dict"]
def isiB (t c : String) : Bool := t == c || (t == "bool" && c == "int")
theorem kit_all : (tyNs.all fun t => tyNs.all fun c => decide (kitB t c = some (isiB t c))) = true := by decide +kernel
theorem kit_isi {K : PySem.W.Frag} {t c : String} (ht : t ∈ tyNs) (hc : c ∈ tyNs) : PySem.W.kitOne K (.type t) (.type c) = some (isiB t c) := by
  have h := List.all_eq_true.mp kit_all t ht
  exact kit_ty (of_decide_eq_true (List.all_eq_true.mp h c hc))
theorem tyD_mem {M : Mem} {d : D} {t : String} (h : tyD M d = some t) : t ∈ tyNs := by
  cases d with
  | v x =>
    cases x with
    | ref a =>
      simp only [tyD] at h
      split at h
      · cases h; decide
      · cases h; decide
      · cases h
    | non => cases h; decide
    | bl _ => cases h; decide
    | int _ => cases h; decide
    | str _ => cases h; decide
    | _ => cases h
  | lst _ => cases h; decide
  | tup _ => cases h; decide
  | dct _ => cases h; decide
  | exn _ _ _ => cases h
theorem tyx_L {K : PySem.W.Frag} {H : Hp} {a : Addr} {xs : List V} (h : SqL K H a xs) : TyX K H (.ref a) (.type "list") := by
  rcases h with (h | ⟨o, h⟩) | ⟨o, its, n, hk, hc, _⟩
  · exact .base (.lst h)
  · exact .base (.frz h)
  · exact .kList hk hc
theorem tyx_T {K : PySem.W.Frag} {H : Hp} {a : Addr} {xs : List V} (h : SqT K H a xs) : TyX K H (.ref a) (.type "tuple") := by
  rcases h with (h | ⟨o, h⟩) | ⟨o, its, n, hk, hc, _⟩
  · exact .base (.tup h)
  · exact .fTuple h
  · exact .kTuple hk hc
theorem tyD_x {K : PySem.W.Frag} {M : Mem} {H : Hp} (m : MemOk K M H) {d : D} {t : String} {u : V} (h : tyD M d = some t) (r : rep K (off M H) d u) : TyX K H u (.type t) := by
  cases d with
  | v x =>
    have e : u = x := r
    subst e
    cases u with
    | ref a =>
      simp only [tyD] at h
      split at h
      · rename_i l e
        cases h
        obtain ⟨vs, h1, _⟩ := m a _ e
        exact .base (.lst h1)
      · rename_i l e
        cases h
        obtain ⟨vs, h1, _⟩ := m a _ e
        exact .base (.dK h1)
      · cases h
    | non => cases h; exact .base .non
    | bl b => cases h; exact .base (.bl b)
    | int i => cases h; exact .base (.int i)
    | str z => cases h; exact .base (.str z)
    | byt _ => cases h
    | flt _ => cases h
    | ty _ => cases h
  | lst l =>
    cases h
    obtain ⟨a, vs, rfl, h1, _⟩ := r
    exact tyx_L (off_le.seq h1)
  | tup l =>
    cases h
    obtain ⟨a, vs, rfl, h1, _⟩ := r
    exact tyx_T (sqT_same off_le h1)
  | exn _ _ _ => cases h
  | dct l =>
    cases h
    obtain ⟨a, vs, rfl, h1, _⟩ := r
    exact .base (.dK (off_le _ _ h1))
def gIsi : GC := fun xs M Q => match xs with
  | [x, .v (.ty c)] => match tyD M x with
    | some t => tyNs.contains c = true ∧ Q (.bl (isiB t c)) M
    | none => False
  | _ => False
theorem sim_isi {K : PySem.W.Frag} : SimC K (rIsi K) gIsi := by
  intro xs us M H Q P m r h k
  unfold gIsi at h
  split at h
  · rename_i x c
    obtain ⟨u, w, rfl, r1, u2, w2, rfl, r2, r3⟩ := r
    cases r3
    have e2 : u2 = .ty c := r2
    subst e2
    split at h
    · rename_i t e
      exact ⟨u, .ty c, _, _, _, rfl, .ty c, tyD_x m e r1, kit_isi (tyD_mem e) (by simpa using h.1), k _ M _ H h.2 (Stp.refl _ _) m rfl⟩
    · exact h.elim
  · exact h.elim
/-- isinstance(x, (c1, c2)) -/
def dIsi2 (c1 c2 : String) (f : DF) : DF := fun env M Q E => f env M (fun x M1 => match tyD M1 x with
  | some t => Q (.bl (isiB t c1 || isiB t c2)) M1
  | none => False) E
theorem kit_any2 {K : PySem.W.Frag} {t c1 c2 : String} (ht : t ∈ tyNs) (h1 : c1 ∈ tyNs) (h2 : c2 ∈ tyNs) : PySem.W.kitAny K (.type t) [.type c1, .type c2] = some (isiB t c1 || isiB t c2) := by
  refine kitAny_cons (kit_isi ht h1) (fun e => ?_) (fun e => by rw [e]; rfl)
  rw [e, Bool.false_or]
  refine kitAny_cons (kit_isi ht h2) (fun e => by rw [e]; exact kitAny_nil) (fun e => e)
theorem d_isi2 {X : Cx} {W : WX} {a : Expr} {f : DF} {x y1 y2 : Str} {c1 c2 : String} {p p1 p2 p3 pos : Pos} {k1} (hm : X.mg x = none) (hv : bootBuiltins x = some (.builtin "isinstance")) (m1 : X.mg y1 = none) (v1 : bootBuiltins y1 = some (.type c1)) (m2 : X.mg y2 = none) (v2 : bootBuiltins y2 = some (.type c2))
    (ha : DE X W a f) (hc1 : tyNs.contains c1 = true := by decide) (hc2 : tyNs.contains c2 = true := by decide) (hg : Gl X x := by rfl) (g1 : Gl X y1 := by rfl) (g2 : Gl X y2 := by rfl) (hn : x ≠ "__name__" := by decide) (n1 : y1 ≠ "__name__" := by decide) (n2 : y2 ≠ "__name__" := by decide)
    (hdb : (x == ("__debug__" : Str)) = false := by decide) (d1 : (y1 == ("__debug__" : Str)) = false := by decide) (d2 : (y2 == ("__debug__" : Str)) = false := by decide)
    (he : starEach (a :: [.Tuple [.Name y1 p1, .Name y2 p2] k1 p3]) X.env = (false, eval a X.env) :: starEach [.Tuple [.Name y1 p1, .Name y2 p2] k1 p3] X.env := by rfl)
    (hpl : (backTo pos (starEach [.Tuple [.Name y1 p1, .Name y2 p2] k1 p3] X.env)).any (·.1) = false := by rfl) :
    DE X W (.Call (.Name x p) [a, .Tuple [.Name y1 p1, .Name y2 p2] k1 p3] [] pos) (dIsi2 c1 c2 f) := by
  obtain ⟨te, pe, se⟩ := ha
  have q1 : PE X (.Name y1 p1) (tC (.ty c1)) := pe_bltn (v := .ty c1) g1 m1 v1 rfl n1 d1
  have q2 : PE X (.Name y2 p2) (tC (.ty c2)) := pe_bltn (v := .ty c2) g2 m2 v2 rfl n2 d2
  refine ⟨_, pe_callB call_isiT hg hm hv (pa_cons pe (pa_cons (pe_tup (x1 := k1) (pos := p3) (pa_cons q1 (pa_cons q2 pa_nil))) pa_nil) he) hn hdb he hpl, ?_⟩
  intro σ H env M Q P E rl h k xo
  refine se σ H env M _ _ E rl h (fun d M1 u H1 h1 s1 m1 r1 => ?_) xo
  split at h1
  · rename_i t e
    refine ⟨line1000 (by simp), fun T hT => ?_⟩
    have s2 : Stp M1 H1 M1 (upd H1 T (.tup [.ty c1, .ty c2])) := stp_new hT
    refine ⟨u, T, _, _, _, _, rfl, upd_same, .cons (.ty c1) (.cons (.ty c2) .nil), tyD_x (mem_new m1 hT) e (s2.rep r1), kit_any2 (tyD_mem e) (by simpa using hc1) (by simpa using hc2), ?_⟩
    exact k _ M1 _ _ h1 (s1.trans s2) (mem_new m1 hT) rfl
  · exact h1.elim
end DL
set_option maxHeartbeats 4000001
/-! rules of the machine that the layer below lacks -/
namespace PySem
open Sem (wp)
open AutoSeq1
  (wpAny_loadPart')
set_option maxHeartbeats 1000001 in
theorem dl_enum_meets {v : Value} {o : Obj} {H : Heap → Prop} (B : Begins v o H) :
    Meets (Builtin.«enumerate.__new__» ⟨[.type "enumerate", v], []⟩) (fun _ R s => H s.heap ∧
      R (.ok (.ret (.ref (s.heap.push o).objs.size))) { s with heap := (s.heap.push o).push { cls := .type "enumerate", data := .fields #[.none, .bool false, .ref s.heap.objs.size, rawInt 0, .none, .none] } }) :=
  .of_wp fun pr ww AA RR ss hh => by
    obtain ⟨hp, g, d, tk, os⟩ := ss
    obtain ⟨h1, h2⟩ := hh
    have hsub := sub_enumerate
    have begin_ : ∀ {A' : Around} {E : Value → Shared → Prop} {Q : Value → Shared → Prop}, Q (.ref hp.objs.size) ⟨hp.push o, g, d, tk, os⟩ → wpAny (model pr ww) A' (pyIter v) Q E ⟨hp, g, d, tk, os⟩ :=
      fun z => B.iter pr ww _ _ ⟨hp, g, d, tk, os⟩ _ h1 z
    wp_walk using begin_
    refine (wpAny_stack_any fun st => wpAny_pure ?_)
    split
    · rename_i c _ _ _ _ _
      cases (c == .type "enumerate")
      · wp_walk using begin_
        exact ⟨_, rfl, h2⟩
      · wp_walk using begin_
        exact ⟨_, rfl, h2⟩
    · wp_walk using begin_
      exact ⟨_, rfl, h2⟩
theorem dl_enum_call {prog : Program} {w : World} {A : Around} {E : Value → Shared → Prop} {s : Shared} {v : Value} {o : Obj} {H : Heap → Prop} {Q : Value → Shared → Prop} (B : Begins v o H) (h1 : H s.heap)
    (h : ∀ h', IsEnum h' (s.heap.objs.size + 1) s.heap.objs.size 0 .none → h'.get? s.heap.objs.size = some o → (∀ b u, s.heap.get? b = some u → h'.get? b = some u) → Q (.ref (s.heap.objs.size + 1)) { s with heap := h' }) :
    wpAny (model prog w) A (call (.type "enumerate") [v]) Q E s := by
  refine callType_new F.called_enumerate (by decide) (F.typeCall_enumerate_1 _) (F.newCall_enumerate_1 _) (fun obj => F.args_object_init_2 obj _) F.entry_enumerate_new (dl_enum_meets B) ⟨h1, ?_⟩
  have size1 : (s.heap.push o).objs.size = s.heap.objs.size + 1 := Heap.size_push ..
  show _ ∧ _
  rw [size1]
  have made : IsEnum ((s.heap.push o).push { cls := .type "enumerate", data := .fields #[.none, .bool false, .ref s.heap.objs.size, rawInt 0, .none, .none] }) (s.heap.objs.size + 1) s.heap.objs.size 0 .none := by
    have z := Heap.get?_push_size (s.heap.push o) (o := { cls := .type "enumerate", data := .fields #[.none, .bool false, .ref s.heap.objs.size, rawInt 0, .none, .none] }) rfl
    rw [size1] at z
    exact z
  exact ⟨⟨_, made, rfl⟩, h _ made (Heap.get?_push_of_some _ (Heap.get?_push_size _ B.free)) fun b u x => Heap.get?_push_of_some _ (Heap.get?_push_of_some _ x)⟩
end PySem

namespace DL
open PySem PySem.Spec
open PyProof.Rows L2

/-! ### a list or a tuple, walked -/
def iSeq (K : PySem.W.Frag) (tl : TE) : TI := fun σ H R => tl σ H fun x H1 => ∃ a, x = .ref a ∧ (((∃ xs, SqL K H1 a xs) ∧ R (Itl K a) H1) ∨ ((∃ xs, SqT K H1 a xs) ∧ R (Itt K a) H1))
theorem pi_seq {X : Cx} {tg : Expr} {l : Expr} {tl : TE} (hl : PE X l tl) : PI X tg l (iSeq X.K tl) := by
  refine ⟨fun pins s σ H R I h => thn (hl.run pins s σ H _ I h) ?_⟩
  rintro v s1 ⟨x, H1, I1, r1, a, ex, q1⟩
  subst ex
  cases r1
  have own : ∀ b ∈ [s1.heap.objs.size], FpOk X pins H1 b := fun b hb => by
    rw [List.mem_singleton.mp hb]
    exact (I1.fpOk (Nat.le_refl _) (I1.hok.fresh (Nat.le_refl _)))
  have kept : ∀ o : Obj, Inv X pins σ H1 { s1 with heap := s1.heap.push o } := fun o => I1.kept (t' := s1.toks) fun b u e => Heap.get?_push_of_some _ e
  rcases q1 with ⟨⟨xs, hq⟩, q⟩ | ⟨⟨xs, hq⟩, q⟩
  · obtain ⟨its, rv, p, hz⟩ := I1.list hq
    exact wpAny_pyIter_list p.isList ⟨s1.heap.objs.size, [s1.heap.objs.size], _, _, H1, rfl, kept _, turn_list a _, ⟨_, Heap.get?_push_size _ rfl, rfl, rfl⟩, own, q⟩
  · obtain ⟨its, rv, p, hz⟩ := I1.tuple hq
    exact wpAny_pyIter_tuple (show s1.heap.IsTuple a its.toArray from p) ⟨s1.heap.objs.size, [s1.heap.objs.size], _, _, H1, rfl, kept _, turn_tuple a _, ⟨_, Heap.get?_push_size _ rfl, rfl, rfl⟩, own, q⟩

/-! ### enumerate(tuple), enumerate(list) -/
def IteT (K : PySem.W.Frag) (a : Addr) : It :=
  ⟨fun i H => ∃ (xs : List V) (x : V), SqT K H a xs ∧ xs[i]? = some x, fun i H v H' => ∃ T x, v = .ref T ∧ H T = none ∧ H' = upd H T (.tup [.int (i : Nat), x]) ∧ ∀ xs, SqT K H a xs → xs[i]? = some x, fun i H => ∃ xs : List V, SqT K H a xs ∧ xs.length = i⟩
theorem turn_enumT {P : Program} {w : World} {K : PySem.W.Frag} {elts : List Expr} {kk : Nat} {tpos : Pos} (a e it : Addr) :
    Turn P w K (.Tuple elts kk tpos) (IteT K a) [e, it] e (fun i h => (∃ old, IsEnum h e it ((i : Nat) : Int) old) ∧ h.IsTupleIter it a i ∧ e ≠ it ∧ a ≠ it ∧ a ≠ e) where
  mem := List.mem_cons_self
  obj := fun i h st b hb => by
    rcases st with ⟨⟨old, he⟩, ⟨o, ho, hc, hd⟩, _⟩
    obtain z | z := List.mem_cons.mp hb
    · rw [z]
      exact ⟨_, he, fun v q => nomatch q⟩
    · rw [(List.mem_singleton.mp z)]
      exact ⟨o, ho, fun v q => by rw [hd] at q; cases q⟩
  keep := fun i h h' st k => let ⟨⟨old, he⟩, hi, r⟩ := st; ⟨⟨old, k e List.mem_cons_self _ he⟩, hi.at fun o q => k it (List.mem_cons_of_mem _ List.mem_cons_self) o q, r⟩
  item := by
    rintro X hP hw hK hc i pins s σ H E I hf st hg
    subst hP hw hK
    obtain ⟨⟨old, he⟩, hit, hne, hai, hae⟩ := st
    obtain ⟨xs, x, hq, hx⟩ := hg
    rcases I.tuple hq with ⟨its, rv, p, hz⟩
    have el : e < s.heap.objs.size := Heap.lt_size he
    have il : it < s.heap.objs.size := by
      obtain ⟨_, q, _⟩ := hit
      exact Heap.lt_size q
    have hlt : i < its.toArray.size := by
      obtain ⟨u, hu, _⟩ := rv.get hx
      have z := (List.getElem?_eq_some_iff.mp hu).1
      simpa using z
    have D := Draws.tuple (prog := X.prog) (w := X.w) (A := X.A.in1) (I.ok.hd hc) it a hai its.toArray
    refine wpAny_pyNext_enum_itemC D he ⟨hit, p⟩ hlt hne (by simp [hne, Ne.symm hae]) fun y h' tk hy ho hit' hT hsz hk => ?_
    refine ⟨_, rfl, wpAny_letOwnedTupleGo_enum (s := { s with heap := h', toks := tk + 1 }) ho fun h2 he2 sb => ?_⟩
    have ru : RelV x y := by
      rcases rv.get hx with ⟨u, hu, ru⟩
      have e1 : its.toArray[i]? = some u := by simpa using hu
      rw [e1] at hy
      cases hy
      exact ru
    have hT2 : h2.get? s.heap.objs.size = some { cls := .type "tuple", data := .seq #[.int i tk, y] } := (sb.2 _ (Nat.ne_of_gt el)).trans hT
    have made : ObjOk X.prog X.w (upd H s.heap.objs.size (.tup [.int (i : Nat), x])) h2 s.heap.objs.size (.tup [.int (i : Nat), x]) :=
      ⟨line1000 (by simp), [.int i tk, y], .cons ⟨_, rfl⟩ (.cons ru .nil), ⟨_, hT2, rfl, _, rfl⟩⟩
    have I1 : Inv X pins σ (upd H s.heap.objs.size (.tup [.int (i : Nat), x])) { s with heap := h2, toks := tk + 1 } :=
      I.turnedNew (ch := [e, it]) (fun b ob hb q => (sb.2 b (fun z => hb (by rw [z]; exact List.mem_cons_self))).trans (hk b ob (fun z => hb (by rw [z]; exact List.mem_cons_self)) (fun z => hb (by rw [z]; exact List.mem_cons_of_mem _ List.mem_cons_self)) q)) hf (Nat.le_refl _) made
    refine ⟨.ref s.heap.objs.size, _, I1, rfl, ⟨_, x, rfl, I.hok.fresh (Nat.le_refl _), rfl, fun ys hy => by rw [I.tuple_inj hy hq]; exact hx⟩, ⟨⟨y, ?_⟩, hit'.1.at fun o q => (sb.2 it (Ne.symm hne)).trans q, hne, hai, hae⟩, fun b hb => ?_⟩
    · have z : ((i + 1 : Nat) : Int) = (i : Int) + 1 := Int.natCast_succ i
      rw [z]
      exact he2
    · have lt : b < s.heap.objs.size := by
        obtain z | z := List.mem_cons.mp hb
        · rw [z]
          exact el
        · rw [(List.mem_singleton.mp z)]
          exact il
      rw [upd_ne (Nat.ne_of_lt lt)]
      exact (hf b hb).1
  done := by
    rintro X hP hw hK hc i pins s σ H E I hf st hg
    subst hP hw hK
    obtain ⟨⟨old, he⟩, hit, hne, hai, hae⟩ := st
    obtain ⟨xs, hq, hx⟩ := hg
    rcases I.tuple hq with ⟨its, rv, p, hz⟩
    obtain ⟨f0, f1, f2, f3, f4, f5⟩ := hf it (List.mem_cons_of_mem _ List.mem_cons_self)
    have hl := rv.length
    have D := Draws.tuple (prog := X.prog) (w := X.w) (A := X.A.in1) (I.ok.hd hc) it a hai its.toArray
    have e1 : i = its.toArray.size := by rw [List.size_toArray, ← hl, hx]
    subst e1
    exact wpAny_pyNext_enum_endD D he ⟨hit, p⟩ fun h' eb => ⟨rfl, I.turned (t' := s.toks) (fun b o hb q => eb b o hb q) f0 f1 f3 f4 f5⟩
  self := fun A j s Q E st q => let ⟨⟨_, he⟩, _⟩ := st; wpAny_pyIter_enum he q
theorem walk_enumT {K : PySem.W.Frag} {a : Addr} {xs : List V} : Walk (IteT K a) xs.length (fun H => SqT K H a xs) (YPair (fun i => some (.int (i : Nat))) (fun i => xs[i]?)) := by
  refine ⟨fun i _ hi q => ⟨xs, xs[i], q, by simp [hi]⟩, fun _ q => ⟨xs, q, rfl⟩, fun i H v H' _ q y => ?_⟩
  obtain ⟨T, x, g1, g2, g3, g4⟩ := y
  exact ⟨T, .int (i : Nat), x, g1, g2, g3, rfl, g4 xs q⟩
def iEnumA (K : PySem.W.Frag) (ta : TA) : TI := fun σ H R => ta σ H fun vs H1 => ∃ a xs, vs = [.ref a] ∧ ((SqL K H1 a xs ∧ R (Ite K a) H1) ∨ (SqT K H1 a xs ∧ R (IteT K a) H1))
theorem pi_enumA {X : Cx} {e : Expr} {ta : TA} {p pos tpos : Pos} {elts : List Expr} {kk : Nat} (hg : Gl X "enumerate") (hm : X.mg "enumerate" = none) (ha : PA X [e] ta) (hs : starEach [e] X.env = [(false, eval e X.env)] := by rfl) :
    PI X (.Tuple elts kk tpos) (.Call (.Name "enumerate" p) [e] [] pos) (iEnumA X.K ta) := by
  refine ⟨fun pins s σ H R I h => Call_ (ld_blt I hg hm boot_enumerate (PyProof.Rows.callWith_type1 (thn (ha.run pos pins s σ H _ I h) ?_) hs rfl))⟩
  rintro us s1 ⟨vs, H1, I1, r1, a, xs, rfl, q1⟩
  cases r1 with
  | cons r rr =>
    cases rr
    cases r
    have low : ∀ b ∈ [s1.heap.objs.size + 1, s1.heap.objs.size], FpOk X pins H1 b := fun b hb => by
      have hle :
        s1.heap.objs.size ≤ b := by
        obtain z | z := List.mem_cons.mp hb
        · omega
        · exact Nat.le_of_eq (List.mem_singleton.mp z).symm
      exact (I1.fpOk hle (I1.hok.fresh hle))
    rcases q1 with ⟨hq, q⟩ | ⟨hq, q⟩
    · rcases I1.list hq with ⟨its, rv, p', hz⟩
      refine dl_enum_call (begins_list a its.toArray) p'.isList fun h' he hit hk => wpAny_pyIter_enum he ?_
      exact ⟨s1.heap.objs.size + 1, [s1.heap.objs.size + 1, s1.heap.objs.size], _, _, H1, rfl, I1.kept (t' := s1.toks) hk, turn_enum a (s1.heap.objs.size + 1) s1.heap.objs.size, ⟨⟨.none, he⟩, ⟨_, hit, rfl, rfl⟩, Nat.succ_ne_self _⟩, low, q⟩
    · rcases I1.tuple hq with ⟨its, rv, p', hz⟩
      have al : a < s1.heap.objs.size := p'.lt
      refine dl_enum_call (begins_tuple a its.toArray) p' fun h' he hit hk => wpAny_pyIter_enum he ?_
      exact ⟨s1.heap.objs.size + 1, [s1.heap.objs.size + 1, s1.heap.objs.size], _, _, H1, rfl, I1.kept (t' := s1.toks) hk, turn_enumT a (s1.heap.objs.size + 1) s1.heap.objs.size, ⟨⟨.none, he⟩, ⟨_, hit, rfl, rfl⟩, Nat.succ_ne_self _, Nat.ne_of_lt al, Nat.ne_of_lt (Nat.lt_succ_of_lt al)⟩, low, q⟩
end DL
set_option maxHeartbeats 4000001
namespace DL
open PySem PySem.Spec
open PyProof.Rows L2

/-! ### defs, where no repr is under way -/
structure GnOk (P : Program) (w : World) (K : PySem.W.Frag) (mg : Str → Option Value) (base : Heap) (k : Nat) (f : Addr) (fd : FuncData) (ps : List Str) (sp : Sp) : Prop where
  len : ∀ ws H Q E, sp ws H Q E → ws.length = ps.length
  run : ∀ (A : Around) (outer : List Env) (s : Shared) (H : Hp) (args : Args) (us : List Value) (vs : List V) (Q : VK) (E : XK), Room k A → A.guards = some [] → Env0 P w K mg base A outer s H → BindsTo s fd args (ps.zip us) → Vals vs us →
    sp vs H Q E → codeAny (model P w) A (.call (.ref f) args) (CR (L2.CX P w) outer P w H s Q E) s
theorem GnOk.mono {P : Program} {w : World} {K : PySem.W.Frag} {mg : Str → Option Value} {base : Heap} {j k : Nat} {f : Addr} {fd : FuncData} {ps : List Str} {sp : Sp} (F : GnOk P w K mg base j f fd ps sp) (h : j ≤ k) : GnOk P w K mg base k f fd ps sp :=
  ⟨F.len, fun A outer s H args us vs Q E hr => F.run A outer s H args us vs Q E (hr.mono h)⟩
theorem GnOk.imp {P : Program} {w : World} {K : PySem.W.Frag} {mg : Str → Option Value} {base : Heap} {k : Nat} {f : Addr} {fd : FuncData} {ps : List Str} {sp sp' : Sp} (F : GnOk P w K mg base k f fd ps sp) (h : ∀ vs H Q E, sp' vs H Q E → sp vs H Q E) :
    GnOk P w K mg base k f fd ps sp' :=
  ⟨fun vs H Q E q => F.len vs H Q E (h _ _ _ _ q), fun A outer s H args us vs Q E hr hg he hb hv hs => F.run A outer s H args us vs Q E hr hg he hb hv (h _ _ _ _ hs)⟩
/-- a def by its body -/
theorem gn_of {P : Program} {w : World} {K : PySem.W.Frag} {mg : Str → Option Value} {base : Heap} {k : Nat} {x qual : Str} {params : Arguments} {body : List Stmt} {scope : Scope} {dvs : List V} {kws : List (Str × V)} {f : Addr} {fd : FuncData} {N ps : List Str} {sp : Sp}
    (F : FunD K x qual params body scope dvs kws f fd) (S : FnScope N ps scope) (len : ∀ vs H Q E, sp vs H Q E → vs.length = ps.length)
    (hbody : ∀ (cdv : Value) (A : Around) (outer : List Env) (s : Shared) (H : Hp) (vs : List V) (Q : VK) (E : XK), Room k (A.deeper (envOfC qual scope s.heap.objs.size f cdv)) → A.guards = some [] → sp vs H Q E →
      ∃ t, PSs (cxOf (L2.CX P w) P w K mg base N qual scope f cdv A outer s H E) body t ∧ t { nx := fun _ H' => Q .non H', rt := Q } (start N vs) H) : GnOk P w K mg base (k + 1) f fd ps sp := by
  rcases F.ex with ⟨oc, od, dV, kV, doc, pm, an, cdv, ct, osl, rfl, lk, hcd, _, _⟩
  constructor
  · exact len
  intro A outer s H args us vs Q E room hG e0 bound rv hsp
  have KIn : K.In s.heap := e0.mod.kin.keeps fun b o e => (e0.bs b o e).1
  have free : s.heap.NoLimit := e0.mod.nolimit.keeps fun b o e => (e0.bs b o e).1
  have kinds : ∀ y ∈ ps.zip us, scope.names.lookup y.1 = some .local ∨ (scope.names.lookup y.1 = some .cell ∧ ((cellsFrom (s.heap.objs.size + 1) scope.names []).lookup y.1).isSome = true) := by
    rintro ⟨n, v⟩ hy
    exact (S.par n (List.of_mem_zip hy).1).imp (fun q => q) fun q => ⟨q, PySem.W.cellsFrom_some _ _ _ (.inl q)⟩
  refine codeAny_call_function room.depth (KIn _ _ lk) rfl S.co S.gen rfl (PySem.W.codeRec_of KIn hcd) (bound _ _ _ _ (wpAny_newFunctionEnv_cells S.kind kinds fun env he s1 ic => ?_))
  subst he
  obtain ⟨t, ht, hq⟩ := hbody cdv A outer s H vs Q E (room.deeper _) hG hsp
  refine ⟨free.keeps ic.toInCall.keep, codeAny_func (wpAny_mono (ht.run [] s1 (start N vs) H _ (inv_start S room.hd e0 (len _ _ _ _ hsp) rv ic) hq) (fun fl s' hs => ?_) fun e s' hs => hs)⟩
  cases fl with
  | ret u =>
    obtain ⟨v, σ', H', J, r, q⟩ := hs
    exact ⟨v, H', J.os, J.bare, J.base, J.hok, r, q⟩
  | next =>
    obtain ⟨σ', H', J, q⟩ := hs
    exact ⟨.non, H', J.os, J.bare, J.base, J.hok, rfl, q⟩
  | brk =>
    obtain ⟨_, _, _, z⟩ := hs
    exact False.elim z
  | cont =>
    obtain ⟨_, _, _, z⟩ := hs
    exact False.elim z
/-- the callee runs -/
theorem run_gn {X : Cx} {k n : Nat} {f : Addr} {fd : FuncData} {ps ks : List Str} {sp : Sp} {g : List Value → List Value → List Value} {gV : List V → List V → List V} {W : WX} {pins : List (Addr × Obj)} {σ : L2.St} {H : Hp} {s : Shared} {Q : VK} {us ws : List Value} {vs zs : List V}
    (F : GnOk X.prog X.w X.K X.mg X.base k f fd ps sp) (hr : Room k X.A) (hG : X.A.guards = some []) (hb : KBn X.K fd ps n ks g gV) (tk : Takes X W) (I : Inv X pins σ H s) (r : Vals vs us) (rz : Vals zs ws) (l1 : vs.length = n) (l2 : zs.length = ks.length)
    (h : sp (gV vs zs) H Q (WE W σ)) : wpAny (model X.prog X.w) X.A (call (.ref f) us (ks.zip ws)) (EP X pins σ Q) X.xe s := by
  have both := hb.rel r rz
  refine wpAny_call (codeAny_mono (F.run X.A X.stack s H ⟨us, ks.zip ws⟩ (g us ws) (gV vs zs) Q (WE W σ) hr hG I.env0 (hb.to s us ws I.kIn (r.length.symm.trans l1) (rz.length.symm.trans l2)) both h) fun res s' out => ?_)
  match res, out with
  | .error e, out => exact passAt tk σ pins H s e s' I out
  | .ok (.ret u), out => exact I.after out
  | .ok .next, out => exact out.elim
  | .ok .brk, out => exact out.elim
  | .ok .cont, out => exact out.elim
/-- f(e, ..) -/
def tG (sp : Sp) (gV : List V → List V → List V) (n m : Nat) (W : WX) (t tk : TA) : TE := fun σ H Q => t σ H fun vs H1 => tk σ H1 fun zs H2 => vs.length = n ∧ zs.length = m ∧ sp (gV vs zs) H2 Q (WE W σ)
section
variable {X : Cx} {k n : Nat} {f : Addr} {fd : FuncData} {ps ks : List Str} {sp : Sp} {g : List Value → List Value → List Value} {gV : List V → List V → List V} {W : WX} {x : Str} {p pos : Pos} {e : Expr} {es : List Expr} {kws : List Keyword} {t tk : TA}
theorem pe_gn (F : GnOk X.prog X.w X.K X.mg X.base k f fd ps sp) (hr : Room k X.A) (hG : X.A.guards = some []) (hm : X.mg x = some (.ref f)) (hk : PySem.W.keepIn X.K (.ref f) = true) (hb : KBn X.K fd ps n [] g gV) (tx : Takes X W) (ha : PA X (e :: es) t) (hg : Gl X x)
    (hdb : (x == ("__debug__" : Str)) = false) (he : starEach (e :: es) X.env = (false, eval e X.env) :: starEach es X.env) (hpl : (backTo pos (starEach es X.env)).any (·.1) = false) :
    PE X (.Call (.Name x p) (e :: es) [] pos) (tG sp gV n 0 W t tNil) := by
  refine ⟨fun pins s σ H Q I h => wpAny_Call_Name_kw (ld_glob I hg hm (PySem.W.callWith_K (h₀ := X.base) I.ok.mod.kin hk (thn (ha.run pos pins s σ H _ I h) ?_) he hpl) hdb)⟩
  rintro us s1 ⟨vs, H1, I1, r, l1, l2, q⟩
  exact ⟨I1.kIn, run_gn (ks := []) (ws := []) F hr hG hb tx I1 r .nil l1 l2 q⟩
theorem pe_gn0 (F : GnOk X.prog X.w X.K X.mg X.base k f fd ps sp) (hr : Room k X.A) (hG : X.A.guards = some []) (hm : X.mg x = some (.ref f)) (hk : PySem.W.keepIn X.K (.ref f) = true) (hb : KBn X.K fd ps n [] g gV) (tx : Takes X W) (hg : Gl X x) (hdb : (x == ("__debug__" : Str)) = false) :
    PE X (.Call (.Name x p) [] [] pos) (tG sp gV n 0 W tNil tNil) := by
  refine ⟨fun pins s σ H Q I h => wpAny_Call_Name_kw (ld_glob I hg hm ?_ hdb)⟩
  obtain ⟨l1, l2, q⟩ := h
  exact PySem.W.callWith_K0 I.kIn hk (run_gn (us := []) (ks := []) (ws := []) F hr hG hb tx I .nil .nil l1 l2 q)
theorem pe_gnK (F : GnOk X.prog X.w X.K X.mg X.base k f fd ps sp) (hr : Room k X.A) (hG : X.A.guards = some []) (hm : X.mg x = some (.ref f)) (hk : PySem.W.keepIn X.K (.ref f) = true) (hb : KBn X.K fd ps n ks g gV) (tx : Takes X W) (ha : PA X (e :: es) t) (hkw : PK X kws tk) (hg : Gl X x)
    (hall : (backToKw pos (keywordEach kws X.env)).all (·.1.isSome) = true) (hks : (backToKw pos (keywordEach kws X.env)).filterMap (·.1) = ks) (hdb : (x == ("__debug__" : Str)) = false) (he : starEach (e :: es) X.env = (false, eval e X.env) :: starEach es X.env)
    (hpl : ((backTo pos (starEach (e :: es) X.env)).any (·.1) || (backToKw pos (keywordEach kws X.env)).any (·.1.isNone)) = false) : PE X (.Call (.Name x p) (e :: es) kws pos) (tG sp gV n ks.length W t tk) := by
  refine ⟨fun pins s σ H Q I h => wpAny_Call_Name_kw (ld_glob I hg hm (PySem.W.callWith_KW (h₀ := X.base) I.ok.mod.kin hk hall (thn (ha.run pos pins s σ H _ I h) ?_) hpl he) hdb)⟩
  rintro us s1 ⟨vs, H1, I1, r, q⟩
  refine thn (hkw.run pos pins s1 σ H1 _ I1 q) ?_
  rintro ws s2 ⟨zs, H2, I2, rz, l1, l2, q2⟩
  rw [hks]
  exact ⟨I2.kIn, run_gn F hr hG hb tx I2 r rz l1 l2 q2⟩
theorem pe_gnK0 (F : GnOk X.prog X.w X.K X.mg X.base k f fd ps sp) (hr : Room k X.A) (hG : X.A.guards = some []) (hm : X.mg x = some (.ref f)) (hk : PySem.W.keepIn X.K (.ref f) = true) (hb : KBn X.K fd ps n ks g gV) (tx : Takes X W) (hkw : PK X kws tk) (hg : Gl X x)
    (hall : (backToKw pos (keywordEach kws X.env)).all (·.1.isSome) = true) (hks : (backToKw pos (keywordEach kws X.env)).filterMap (·.1) = ks) (hdb : (x == ("__debug__" : Str)) = false)
    (hpl : ((backTo pos (starEach [] X.env)).any (·.1) || (backToKw pos (keywordEach kws X.env)).any (·.1.isNone)) = false) : PE X (.Call (.Name x p) [] kws pos) (tG sp gV n ks.length W tNil tk) := by
  refine ⟨fun pins s σ H Q I h => wpAny_Call_Name_kw (ld_glob I hg hm (PySem.W.callWith_KW0 (h₀ := X.base) I.ok.mod.kin hk hall (thn (hkw.run pos pins s σ H _ I h) ?_) hpl) hdb)⟩
  rintro ws s2 ⟨zs, H2, I2, rz, l1, l2, q2⟩
  rw [hks]
  exact ⟨I2.kIn, run_gn (us := []) F hr hG hb tx I2 .nil rz l1 l2 q2⟩
end

/-! ### what a def does, by data -/
abbrev FD := List D → Mem → QD → XD → Prop
def spD (K : PySem.W.Frag) (n : Nat) (F : FD) : Sp := fun vs H Q E => vs.length = n ∧ ∃ (ds : List D) (M : Mem) (P : QD) (Z : XD), MemOk K M H ∧ reps K (off M H) ds vs ∧ F ds M P Z ∧
  (∀ d M' u H', P d M' → Stp M H M' H' → MemOk K M' H' → rep K (off M' H') d u → Q u H') ∧ (∀ xn M' dd H', Z xn M' → Stp M H M' H' → MemOk K M' H' → xrep K (off M' H') H' dd xn.fs → E xn.cls dd H')
def Dfn (P : Program) (w : World) (K : PySem.W.Frag) (mg : Str → Option Value) (base : Heap) (k : Nat) (f : Addr) (fd : FuncData) (ps : List Str) (F : FD) : Prop := GnOk P w K mg base k f fd ps (spD K ps.length F)
theorem Dfn.imp {P : Program} {w : World} {K : PySem.W.Frag} {mg : Str → Option Value} {base : Heap} {k : Nat} {f : Addr} {fd : FuncData} {ps : List Str} {F F' : FD} (h : Dfn P w K mg base k f fd ps F) (hi : ∀ ds M Q Z, ds.length = ps.length → F' ds M Q Z → F ds M Q Z) : Dfn P w K mg base k f fd ps F' := by
  refine GnOk.imp h fun vs H Q E hs => ?_
  obtain ⟨hl, ds, M, Pd, Z, m, r, hF, h1, h2⟩ := hs
  exact ⟨hl, ds, M, Pd, Z, m, r, hi ds M Pd Z (by rw [← reps_length r]; exact hl) hF, h1, h2⟩
def dCall (F : FD) (f : DFs) : DF := fun env M Q E => f env M (fun ds M1 => F ds M1 Q E) E
def dCallK (F : FD) (gD : List D → List D → List D) (f h : DFs) : DF := fun env M Q E => f env M (fun ds M1 => h env M1 (fun es M2 => F (gD ds es) M2 Q E) E) E
/-- the arguments' order, by data -/
def OrdOk (K : PySem.W.Frag) (n m : Nat) (gD : List D → List D → List D) (gV : List V → List V → List V) : Prop := ∀ (G : Hp) (ds es : List D) (vs zs : List V), vs.length = n → zs.length = m → reps K G ds vs → reps K G es zs → reps K G (gD ds es) (gV vs zs)
theorem sim_G {K : PySem.W.Frag} {W : WX} {ta tk : TA} {f h : DFs} {F : FD} {gD : List D → List D → List D} {gV : List V → List V → List V} {n m np : Nat} (ho : OrdOk K n m gD gV) (hl : ∀ vs zs, vs.length = n → zs.length = m → (gV vs zs).length = np)
    (h1 : SimA K W n ta f) (h2 : SimA K W m tk h) : SimE K W (tG (spD K np F) gV n m W ta tk) (dCallK F gD f h) := by
  intro σ H env M Q P E rl hh k x
  refine h1 σ H env M _ _ E rl hh (fun ds M1 vs H1 p1 l1 s1 m1 r1 => ?_) x
  refine h2 σ H1 env M1 _ _ E (rl.to s1 m1) p1 (fun es M2 zs H2 p2 l2 s2 m2 r2 => ?_) (x.to s1)
  have e1 : vs.length = n := by rw [reps_length r1]; exact l1
  have e2 : zs.length = m := by rw [reps_length r2]; exact l2
  refine ⟨e1, e2, hl _ _ e1 e2, gD ds es, M2, P, E, m2, ho _ _ _ _ _ e1 e2 (s2.reps r1) r2, p2, fun d M3 u H3 p3 s3 m3 r3 => ?_, fun xn M3 dd H3 p3 s3 m3 r3 => ?_⟩
  · exact k d M3 u H3 p3 ((s1.trans s2).trans s3) m3 r3
  · exact (x.to (s1.trans s2)) xn M3 dd H3 p3 s3 m3 r3
theorem sim_G1 {K : PySem.W.Frag} {W : WX} {ta : TA} {f : DFs} {F : FD} {n : Nat} (h1 : SimA K W n ta f) : SimE K W (tG (spD K n F) (fun vs _ => vs) n 0 W ta tNil) (dCall F f) := by
  intro σ H env M Q P E rl hh k x
  refine h1 σ H env M _ _ E rl hh (fun ds M1 vs H1 p1 l1 s1 m1 r1 => ?_) x
  have e1 : vs.length = n := by rw [reps_length r1]; exact l1
  exact ⟨e1, rfl, e1, ds, M1, P, E, m1, r1, p1, fun d M3 u H3 p3 s3 m3 r3 => k d M3 u H3 p3 (s1.trans s3) m3 r3, fun xn M3 dd H3 p3 s3 m3 r3 => (x.to s1) xn M3 dd H3 p3 s3 m3 r3⟩

/-! ### calls, by data -/
/-- a def that stands at a name of the module -/
structure Def (X : Cx) (x : Str) (k : Nat) (ps : List Str) (F : FD) : Prop where
  ex : ∃ f fd, X.mg x = some (.ref f) ∧ PySem.W.keepIn X.K (.ref f) = true ∧ Binds X.K fd ps [] ∧ Dfn X.prog X.w X.K X.mg X.base k f fd ps F
theorem kbn_all {K : PySem.W.Frag} {fd : FuncData} {ps : List Str} (b : Binds K fd ps []) : KBn K fd ps ps.length [] (fun us _ => us) (fun vs _ => vs) := by
  refine ⟨fun s us ws h l1 l2 => ?_, fun r _ => r⟩
  have z := b s us h (by rw [List.append_nil]; exact l1)
  rw [List.append_nil] at z
  exact z
section
variable {X : Cx} {W : WX} {x : Str} {p pos : Pos} {e : Expr} {es : List Expr} {f : DFs} {k : Nat} {ps : List Str} {F : FD}
theorem d_call (T : Def X x k ps F) (hr : Room k X.A) (hG : X.A.guards = some []) (tk : Takes X W) (ha : DA X W (e :: es) f) (hl : (e :: es).length = ps.length := by rfl) (hg : Gl X x := by rfl) (hdb : (x == ("__debug__" : Str)) = false := by decide)
    (he : starEach (e :: es) X.env = (false, eval e X.env) :: starEach es X.env := by rfl) (hpl : (backTo pos (starEach es X.env)).any (·.1) = false := by rfl) : DE X W (.Call (.Name x p) (e :: es) [] pos) (dCall F f) := by
  obtain ⟨fa, fd, hm, hk, hb, G⟩ := T.ex
  obtain ⟨ta, pa, sa⟩ := ha
  rw [hl] at sa
  exact ⟨_, pe_gn G hr hG hm hk (kbn_all hb) tk pa hg hdb he hpl, sim_G1 sa⟩
end
end DL
set_option maxHeartbeats 4000001
namespace DL
open PySem PySem.Spec
open PyProof.Rows L2

/-! ### statements by data -/
structure EndsD where
  nx : EnvD → Mem → Prop
  rt : D → Mem → Prop
  bk : EnvD → Mem → Prop
  ct : EnvD → Mem → Prop
  ex : Xn → EnvD → Mem → Prop
abbrev SF := EndsD → EnvD → Mem → Prop
structure Fit (K : PySem.W.Frag) (W : WX) (M : Mem) (H : Hp) (D : Ends) (E : EndsD) : Prop where
  nx : ∀ env M' σ' H', E.nx env M' → Stp M H M' H' → Rel K env M' σ' H' → D.nx σ' H'
  rt : ∀ d M' u H', E.rt d M' → Stp M H M' H' → MemOk K M' H' → rep K (off M' H') d u → D.rt u H'
  bk : ∀ env M' σ' H', E.bk env M' → Stp M H M' H' → Rel K env M' σ' H' → D.bk σ' H'
  ct : ∀ env M' σ' H', E.ct env M' → Stp M H M' H' → Rel K env M' σ' H' → D.ct σ' H'
  ex : ∀ xn env M' dd σ' H', E.ex xn env M' → Stp M H M' H' → Rel K env M' σ' H' → xrep K (off M' H') H' dd xn.fs → W xn.cls dd σ' H'
theorem Fit.to {K : PySem.W.Frag} {W : WX} {M M1 : Mem} {H H1 : Hp} {D : Ends} {E : EndsD} (c : Fit K W M H D E) (s : Stp M H M1 H1) : Fit K W M1 H1 D E :=
  ⟨fun env M' σ' H' h s' => c.nx env M' σ' H' h (s.trans s'), fun d M' u H' h s' => c.rt d M' u H' h (s.trans s'), fun env M' σ' H' h s' => c.bk env M' σ' H' h (s.trans s'),
    fun env M' σ' H' h s' => c.ct env M' σ' H' h (s.trans s'), fun xn env M' dd σ' H' h s' => c.ex xn env M' dd σ' H' h (s.trans s')⟩
def SimS (K : PySem.W.Frag) (W : WX) (t : TS) (f : SF) : Prop := ∀ (σ : L2.St) (H : Hp) (env : EnvD) (M : Mem) (D : Ends) (E : EndsD), Rel K env M σ H → f E env M → Fit K W M H D E → t D σ H
def DS (X : Cx) (W : WX) (st : Stmt) (f : SF) : Prop := ∃ t, PS X st t ∧ SimS X.K W t f
def DSs (X : Cx) (W : WX) (sts : List Stmt) (f : SF) : Prop := ∃ t, PSs X sts t ∧ SimS X.K W t f
theorem Fit.xo {K : PySem.W.Frag} {W : WX} {M : Mem} {H : Hp} {D : Ends} {E : EndsD} {env : EnvD} {σ : L2.St} (c : Fit K W M H D E) (r : Rel K env M σ H) : XOk K W σ M H (fun xn M' => E.ex xn env M') :=
  fun xn M' dd H' h s m x => c.ex xn env M' dd σ H' h s (r.to s m) x

/-! targets -/
abbrev DG := D → EnvD → Mem → (EnvD → Mem → Prop) → Prop
abbrev DGs := List D → EnvD → Mem → (EnvD → Mem → Prop) → Prop
def SimG (K : PySem.W.Frag) (g : TG) (f : DG) : Prop := ∀ (d : D) (u : V) (σ : L2.St) (H : Hp) (env : EnvD) (M : Mem) (Q : L2.St → Hp → Prop) (P : EnvD → Mem → Prop), Rel K env M σ H → rep K (off M H) d u → f d env M P →
  (∀ env' M' σ' H', P env' M' → Stp M H M' H' → Rel K env' M' σ' H' → Q σ' H') → g u σ H Q
def SimGs (K : PySem.W.Frag) (g : TGs) (f : DGs) : Prop := ∀ (d : List D) (u : List V) (σ : L2.St) (H : Hp) (env : EnvD) (M : Mem) (Q : L2.St → Hp → Prop) (P : EnvD → Mem → Prop), Rel K env M σ H → reps K (off M H) d u → f d env M P →
  (∀ env' M' σ' H', P env' M' → Stp M H M' H' → Rel K env' M' σ' H' → Q σ' H') → g u σ H Q
def DGt (X : Cx) (tg : Expr) (f : DG) : Prop := ∃ g, PG X tg g ∧ SimG X.K g f
def DGts (X : Cx) (tgs : List Expr) (f : DGs) : Prop := ∃ g, PGs X tgs g ∧ SimGs X.K g f
def gNm (i : Nat) : DG := fun d env M Q => Q (env.set i (some d)) M
def gsNil : DGs := fun ds env M Q => ds = [] ∧ Q env M
def gsCons (f : DG) (g : DGs) : DGs := fun ds env M Q => match ds with
  | d :: r => f d env M fun env1 M1 => g r env1 M1 Q
  | [] => False
def gTupD (n : Nat) (g : DGs) : DG := fun d env M Q => match d with
  | .tup l => l.length = n ∧ g l env M Q
  | _ => False
theorem simg_nm {K : PySem.W.Frag} {i : Nat} : SimG K (gName i) (gNm i) := fun d u σ H env M Q P r h hf k => k _ M _ H hf (Stp.refl _ _) (r.set i h)
theorem simgs_nil {K : PySem.W.Frag} : SimGs K gNil gsNil := by
  intro d u σ H env M Q P r h hf k
  obtain ⟨rfl, hp⟩ := hf
  cases h
  exact ⟨rfl, k _ M _ H hp (Stp.refl _ _) r⟩
theorem simgs_cons {K : PySem.W.Frag} {g : TG} {gs : TGs} {f : DG} {fs : DGs} (h1 : SimG K g f) (h2 : SimGs K gs fs) : SimGs K (gCons g gs) (gsCons f fs) := by
  intro d u σ H env M Q P r h hf k
  cases d with
  | nil => exact False.elim hf
  | cons d ds =>
    obtain ⟨w, us, rfl, q1, q2⟩ := h
    refine ⟨w, us, rfl, h1 d w σ H env M _ _ r q1 hf fun env1 M1 σ1 H1 p1 s1 r1 => ?_⟩
    exact h2 ds us σ1 H1 env1 M1 _ _ r1 (s1.reps q2) p1 fun env2 M2 σ2 H2 p2 s2 r2 => k env2 M2 σ2 H2 p2 (s1.trans s2) r2
theorem simg_tup {K : PySem.W.Frag} {gs : TGs} {fs : DGs} {n : Nat} (h1 : SimGs K gs fs) : SimG K (gTup K n gs) (gTupD n fs) := by
  intro d u σ H env M Q P r h hf k
  unfold gTupD at hf
  split at hf
  · obtain ⟨a, vs, rfl, q1, q2⟩ := h
    exact ⟨a, vs, rfl, sqT_same off_le q1, by rw [reps_length q2]; exact hf.1, h1 _ _ σ H env M _ _ r q2 hf.2 k⟩
  · exact hf.elim
section
variable {X : Cx} {e : Expr} {es : List Expr} {f : DG} {fs : DGs} {pos : Pos}
theorem g_name (i : Nat) {x : Str} (hN : X.N.Nodup) (hi : X.N[i]? = some x := by rfl) (hx : L2.Loc X.env.scope x := by first | exact Or.inl rfl | exact Or.inr rfl) (hf : X.fn x = true ∨ X.env.scope.names.lookup x = some .local := by first | exact .inl rfl | exact .inr rfl) : DGt X (.Name x pos) (gNm i) := ⟨_, pg_name hN hi hx hf, simg_nm⟩
theorem gs_nil : DGts X [] gsNil := ⟨_, pgs_nil, simgs_nil⟩
theorem gs_cons (h1 : DGt X e f) (h2 : DGts X es fs) (hs : (assignEach (e :: es) X.env).map (·.2) = assign e X.env :: (assignEach es X.env).map (·.2) := by rfl) : DGts X (e :: es) (gsCons f fs) := let ⟨_, p1, s1⟩ := h1; let ⟨_, p2, s2⟩ := h2; ⟨_, pgs_cons p1 p2 hs, simgs_cons s1 s2⟩
theorem g_tup {k n : Nat} (hc : X.calm = true) (h : DGts X es fs) (hn : (assignEach es X.env).length = n := by rfl) (hst : (assignEach es X.env).findIdx? (·.1) = none := by rfl) : DGt X (.Tuple es k pos) (gTupD n fs) :=
  let ⟨_, p, s⟩ := h
  ⟨_, pg_tup hc p hn hst, simg_tup s⟩
end

/-! plain statements -/
def sNext : SF := fun E env M => E.nx env M
def sSeq (f g : SF) : SF := fun E env M => f { E with nx := g E } env M
def sDrop (f : DF) : SF := fun E env M => f env M (fun _ M1 => E.nx env M1) (fun xn M1 => E.ex xn env M1)
def sRet (f : DF) : SF := fun E env M => f env M E.rt (fun xn M1 => E.ex xn env M1)
def sRetN : SF := fun E _ M => E.rt .non M
def sIf (c : DFt) (f g : SF) : SF := fun E env M => c env M (fun b M1 => bsel b (f E env M1) (g E env M1)) (fun xn M1 => E.ex xn env M1)
def sAsg (f : DF) (g : DG) : SF := fun E env M => f env M (fun d M1 => g d env M1 E.nx) (fun xn M1 => E.ex xn env M1)
def sBreak : SF := fun E env M => E.bk env M
def sCont : SF := fun E env M => E.ct env M
section
variable {K : PySem.W.Frag} {W : WX} {t u : TS} {f g : SF} {te : TE} {fe : DF} {c : TT} {fc : DFt} {tg : TG} {fg : DG}
theorem sims_next : SimS K W tNext sNext := fun σ H env M D E r h c => c.nx env M σ H h (Stp.refl _ _) r
theorem sims_break : SimS K W tBreak sBreak := fun σ H env M D E r h c => c.bk env M σ H h (Stp.refl _ _) r
theorem sims_cont : SimS K W tCont sCont := fun σ H env M D E r h c => c.ct env M σ H h (Stp.refl _ _) r
theorem sims_seq (h1 : SimS K W t f) (h2 : SimS K W u g) : SimS K W (tSeq t u) (sSeq f g) := by
  intro σ H env M D E r h c
  refine h1 σ H env M _ _ r h ⟨fun env' M' σ' H' q s r' => ?_, c.rt, c.bk, c.ct, c.ex⟩
  exact h2 σ' H' env' M' D E r' q (c.to s)
theorem sims_drop (h1 : SimE K W te fe) : SimS K W (tDrop te) (sDrop fe) := fun σ H env M D E r h c =>
  h1 σ H env M _ _ _ r h (fun d M' v H' p s m _ => c.nx env M' σ H' p s (r.to s m)) (c.xo r)
theorem sims_ret (h1 : SimE K W te fe) : SimS K W (tRet te) (sRet fe) := fun σ H env M D E r h c =>
  h1 σ H env M _ _ _ r h (fun d M' v H' p s m q => c.rt d M' v H' p s m q) (c.xo r)
theorem sims_retN : SimS K W tRetN sRetN := fun σ H env M D E r h c => c.rt .non M .non H h (Stp.refl _ _) r.mem rfl
theorem sims_if (h0 : SimT K W c fc) (h1 : SimS K W t f) (h2 : SimS K W u g) : SimS K W (tIfS c t u) (sIf fc f g) := by
  intro σ H env M D E r h k
  refine h0 σ H env M _ _ _ r h (fun b M' H' p s m => ?_) (k.xo r)
  cases b with
  | true => exact iteT (h1 σ H' env M' D E (r.to s m) (p.1 rfl) (k.to s))
  | false => exact iteF (h2 σ H' env M' D E (r.to s m) (p.2 rfl) (k.to s))
theorem sims_asg (h1 : SimE K W te fe) (h2 : SimG K tg fg) : SimS K W (tAsg te tg) (sAsg fe fg) := by
  intro σ H env M D E r h k
  refine h1 σ H env M _ _ _ r h (fun d M' v H' p s m q => ?_) (k.xo r)
  exact h2 d v σ H' env M' _ _ (r.to s m) q p fun env2 M2 σ2 H2 p2 s2 r2 => k.nx env2 M2 σ2 H2 p2 (s.trans s2) r2
end
section
variable {X : Cx} {W : WX} {f g : SF} {fe : DF} {fc : DFt} {fg : DG} {st : Stmt} {sts rest a b : List Stmt} {e c tg : Expr} {pos : Pos}
theorem ds_nil : DSs X W [] sNext := ⟨_, pss_nil, sims_next⟩
theorem ds_cons (h1 : DS X W st f) (h2 : DSs X W rest g) : DSs X W (st :: rest) (sSeq f g) := let ⟨_, p1, s1⟩ := h1; let ⟨_, p2, s2⟩ := h2; ⟨_, pss_cons p1 p2, sims_seq s1 s2⟩
theorem ds_one (h1 : DS X W st f) : DSs X W [st] f := let ⟨_, p1, s1⟩ := h1; ⟨_, pss_one p1, s1⟩
theorem s_expr (h1 : DE X W e fe) (hs : swapsWith e none pos.line X.env = pure false := by rfl) : DS X W (.Expr e pos) (sDrop fe) := let ⟨_, p1, s1⟩ := h1; ⟨_, ps_expr p1 hs, sims_drop s1⟩
theorem s_ret (h1 : DE X W e fe) : DS X W (.Return (some e) pos) (sRet fe) := let ⟨_, p1, s1⟩ := h1; ⟨_, ps_ret p1, sims_ret s1⟩
theorem s_retN : DS X W (.Return none pos) sRetN := ⟨_, ps_retN, sims_retN⟩
theorem s_pass : DS X W (.Pass pos) sNext := ⟨_, ps_pass, sims_next⟩
theorem s_break : DS X W (.Break pos) sBreak := ⟨_, ps_break, sims_break⟩
theorem s_cont : DS X W (.Continue pos) sCont := ⟨_, ps_continue, sims_cont⟩
theorem s_if (h0 : DT X W c fc) (h1 : DSs X W a f) (h2 : DSs X W b g) : DS X W (.If c a b pos) (sIf fc f g) := let ⟨_, p0, s0⟩ := h0; let ⟨_, p1, s1⟩ := h1; let ⟨_, p2, s2⟩ := h2; ⟨_, ps_if p0 p1 p2, sims_if s0 s1 s2⟩
theorem s_set (i : Nat) {x : Str} {pos' : Pos} (h1 : DE X W e fe) (hN : X.N.Nodup) (hi : X.N[i]? = some x := by rfl) (hx : L2.Loc X.env.scope x := by first | exact Or.inl rfl | exact Or.inr rfl) (hsw : swapsWith e (some (.Name x pos')) pos.line X.env = pure false := by rfl)
    (hf : X.fn x = true ∨ X.env.scope.names.lookup x = some .local := by first | exact .inl rfl | exact .inr rfl) : DS X W (.Assign [.Name x pos'] e pos) (sAsg fe (gNm i)) :=
  let ⟨_, p1, s1⟩ := h1
  ⟨_, ps_set hN hi hx p1 hsw hf, sims_asg s1 simg_nm⟩
theorem s_asg (h1 : DE X W e fe) (h2 : DGt X tg fg) (hsw : swapsWithSole [tg] e pos.line X.env = pure false := by rfl) (hw : swappedStores [tg] e X.env = pure none := by rfl) (ha : (assignEach [tg] X.env).map (·.2) = [assign tg X.env] := by rfl) : DS X W (.Assign [tg] e pos) (sAsg fe fg) :=
  let ⟨_, p1, s1⟩ := h1
  let ⟨_, p2, s2⟩ := h2
  ⟨_, ps_asg p1 p2 hsw hw ha, sims_asg s1 s2⟩
end
end DL
set_option maxHeartbeats 4000001
namespace DL
open PySem PySem.Spec
open PyProof.Rows L2

/-! ### stores into lists, methods of lists -/
def noX : XD := fun _ _ => False
theorem noX_ok {K : PySem.W.Frag} {W : WX} {σ : L2.St} {M : Mem} {H : Hp} : XOk K W σ M H noX := fun _ _ _ _ h => False.elim h
/-- the list at a -/
def lstAt (M : Mem) (a : Addr) (P : List D → Prop) : Prop := match M a with
  | some (.lst l) => P l
  | _ => False
def atRef (d : D) (P : Addr → Prop) : Prop := match d with
  | .v (.ref a) => P a
  | _ => False
def asI (d : D) (P : Int → Prop) : Prop := match d with
  | .v (.int i) => P i
  | _ => False
theorem of_lstAt {M : Mem} {a : Addr} {P : List D → Prop} (h : lstAt M a P) : ∃ l, M a = some (.lst l) ∧ P l := by
  unfold lstAt at h
  split at h
  · rename_i l e
    exact ⟨l, e, h⟩
  · exact h.elim
theorem of_atRef {d : D} {P : Addr → Prop} (h : atRef d P) : ∃ a, d = .ref a ∧ P a := by
  unfold atRef at h
  split at h
  · exact ⟨_, rfl, h⟩
  · exact h.elim
theorem of_asI {d : D} {P : Int → Prop} (h : asI d P) : ∃ a, d = .int a ∧ P a := by
  unfold asI at h
  split at h
  · exact ⟨_, rfl, h⟩
  · exact h.elim
/-- o[i] = d -/
def gSubD (fo fi : DF) : DG := fun d env M Q => fo env M (fun o M1 => fi env M1 (fun i M2 => atRef o fun a => asI i fun k => lstAt M2 a fun l => ∃ j, ixN l.length k = some j ∧ Q env (mput M2 a (.lst (l.set j d)))) noX) noX
theorem simg_sub {K : PySem.W.Frag} {to ti : TE} {fo fi : DF} (h1 : SimE K (fun _ _ _ _ => False) to fo) (h2 : SimE K (fun _ _ _ _ => False) ti fi) : SimG K (gSub to ti rSetL) (gSubD fo fi) := by
  intro d u σ H env M Q P r h hf k
  refine h1 σ H env M _ _ noX r hf (fun o M1 w H1 p1 s1 m1 r1 => ?_) noX_ok
  refine h2 σ H1 env M1 _ _ noX (r.to s1 m1) p1 (fun i M2 z H2 p2 s2 m2 r2 => ?_) noX_ok
  obtain ⟨a, rfl, p2⟩ := of_atRef p2
  obtain ⟨n, rfl, p2⟩ := of_asI p2
  obtain ⟨l, hl, j, hj, q⟩ := of_lstAt p2
  obtain ⟨vs, e1, e2⟩ := m2 a _ hl
  have s12 := s1.trans s2
  have hne : M2 a ≠ none := by rw [hl]; simp
  have e3 := reps_set (s12.rep h) j e2
  refine ⟨a, vs, n, j, r1, r2, e1, by rw [reps_length e2]; exact hj, ?_⟩
  exact k _ _ _ _ q (s12.trans (stp_upd hne)) ((r.to s12 m2).to (stp_upd hne) (mem_upd m2 hne e3))
theorem g_sub {X : Cx} {o i : Expr} {fo fi : DF} {pos : Pos} (h1 : DE X (fun _ _ _ _ => False) o fo) (h2 : DE X (fun _ _ _ _ => False) i fi)
    (ha : ∀ x0, assign (.Subscript o i pos) X.env x0 = (do
      let ov ← holding [x0] (eval o X.env)
      let iv ← holding [x0, ov] (eval i X.env)
      standAt pos
      holding [x0, ov, iv] (setItem ov iv x0)
      release [x0, ov, iv] []) := by intro _; rfl) : DGt X (.Subscript o i pos) (gSubD fo fi) :=
  let ⟨_, p1, s1⟩ := h1
  let ⟨_, p2, s2⟩ := h2
  ⟨_, pg_sub p1 p2 set_list ha, simg_sub s1 s2⟩
/-- xs.append(e) -/
def dApp (fo fe : DF) : DF := fun env M Q E => fo env M (fun o M1 => atRef o fun a => lstAt M1 a fun _ => fe env M1 (fun d M2 => lstAt M2 a fun l => l.length < 1000000 ∧ Q .non (mput M2 a (.lst (l ++ [d])))) E) E
theorem line6 {n : Nat} (h : n < 1000000) : n < sizeLine := Nat.lt_of_lt_of_le h (by rw [sizeLine_eq]; decide)
theorem sim_app {K : PySem.W.Frag} {W : WX} {to te : TE} {fo fe : DF} (h1 : SimE K W to fo) (h2 : SimE K W te fe) : SimE K W (tBM K "list" rAppend to (tCons te tNil)) (dApp fo fe) := by
  intro σ H env M Q P E rl h k x
  refine h1 σ H env M _ _ E rl h (fun o M1 u H1 p1 s1 m1 r1 => ?_) x
  obtain ⟨a, rfl, p1⟩ := of_atRef p1
  obtain ⟨l0, hl0, p1⟩ := of_lstAt p1
  have eu : u = .ref a := r1
  subst eu
  obtain ⟨vs0, e0, _⟩ := m1 a _ hl0
  refine ⟨.inl ⟨rfl, vs0, .inl (.inl e0)⟩, ?_⟩
  refine h2 σ H1 env M1 _ _ E (rl.to s1 m1) p1 (fun d M2 w H2 p2 s2 m2 r2 => ?_) (x.to s1)
  obtain ⟨l, hl, hz, q⟩ := of_lstAt p2
  obtain ⟨vs, e1, e2⟩ := m2 a _ hl
  have hne : M2 a ≠ none := by rw [hl]; simp
  refine ⟨a, vs, w, rfl, rfl, e1, line6 (by rw [reps_length e2]; exact hz), ?_⟩
  exact k _ _ _ _ q ((s1.trans s2).trans (stp_upd hne)) (mem_upd m2 hne (reps_append e2 ⟨w, [], rfl, r2, rfl⟩)) rfl
/-- xs.pop() -/
def dPop (fo : DF) : DF := fun env M Q E => fo env M (fun o M1 => atRef o fun a => lstAt M1 a fun l => ∃ d, l[l.length - 1]? = some d ∧ Q d (mput M1 a (.lst l.dropLast))) E
theorem reps_dropLast {K : PySem.W.Frag} {G : Hp} {l : List D} {us : List V} (h : reps K G l us) : reps K G l.dropLast us.dropLast := by
  rw [List.dropLast_eq_take, List.dropLast_eq_take, reps_length h]
  exact reps_take _ h
theorem sim_pop {K : PySem.W.Frag} {W : WX} {to : TE} {fo : DF} (h1 : SimE K W to fo) : SimE K W (tBM0 K "list" rPop to) (dPop fo) := by
  intro σ H env M Q P E rl h k x
  refine h1 σ H env M _ _ E rl h (fun o M1 u H1 p1 s1 m1 r1 => ?_) x
  obtain ⟨a, rfl, p1⟩ := of_atRef p1
  obtain ⟨l, hl, d, hd, q⟩ := of_lstAt p1
  have eu : u = .ref a := r1
  subst eu
  obtain ⟨vs, e1, e2⟩ := m1 a _ hl
  have hne : M1 a ≠ none := by rw [hl]; simp
  obtain ⟨z, z1, z2⟩ := reps_get e2 hd
  refine ⟨.inl ⟨rfl, vs, .inl (.inl e1)⟩, a, vs, z, rfl, rfl, e1, by rw [reps_length e2]; exact z1, ?_⟩
  have s2 : Stp M1 H1 (mput M1 a (.lst l.dropLast)) (upd H1 a (.lst vs.dropLast)) := stp_upd hne
  exact k _ _ _ _ q (s1.trans s2) (mem_upd m1 hne (reps_dropLast e2)) (s2.rep z2)
section
variable {X : Cx} {W : WX} {o e : Expr} {fo fe : DF} {apos cpos : Pos}
theorem d_append (h1 : DE X W o fo) (h2 : DE X W e fe) (hbase : attributeBase o "append" X.env (eval o X.env) = eval o X.env := by rfl)
    (hfew : ((backTo cpos (starEach (e :: []) X.env)).all (fun x => !x.1) && (backToKw cpos (keywordEach [] X.env)).all (fun x => x.1.isSome)
      && decide ((e :: []).length + ([] : List Keyword).length + (if ([] : List Keyword).isEmpty then 0 else 1) < 30)) = true := by rfl)
    (hline : (apos.endLine == cpos.line) = true := by rfl) (hs : starEach (e :: []) X.env = (false, eval e X.env) :: starEach [] X.env := by rfl) (hplain : (backTo cpos (starEach [] X.env)).any (·.1) = false := by rfl) :
    DE X W (.Call (.Attribute o "append" apos) (e :: []) [] cpos) (dApp fo fe) :=
  let ⟨_, p1, s1⟩ := h1
  let ⟨_, p2, s2⟩ := h2
  ⟨_, pe_bm PySem.F.plainAttrs_list PySem.F.slot_list_append PySem.F.type_list_append mt_append p1 (pa_cons p2 pa_nil hs) hbase hfew hline hs hplain, sim_app s1 s2⟩
theorem d_pop (h1 : DE X W o fo) (hbase : attributeBase o "pop" X.env (eval o X.env) = eval o X.env := by rfl) (hline : (apos.endLine == cpos.line) = true := by rfl) : DE X W (.Call (.Attribute o "pop" apos) [] [] cpos) (dPop fo) :=
  let ⟨_, p1, s1⟩ := h1
  ⟨_, pe_bm0 PySem.F.plainAttrs_list PySem.F.slot_list_pop PySem.F.type_list_pop mt_pop p1 hbase hline, sim_pop s1⟩
end

/-! ### what does not change any more -/
def dFrz (f : DF) : DF := fun env M Q E => f env M (fun d M1 => atRef d fun a => lstAt M1 a fun l => Q (.lst l) (mdel M1 a)) E
theorem sim_frz {K : PySem.W.Frag} {W : WX} {te : TE} {f : DF} (h1 : SimE K W te f) : SimE K W te (dFrz f) := by
  intro σ H env M Q P E rl h k x
  refine h1 σ H env M _ _ E rl h (fun o M1 u H1 p1 s1 m1 r1 => ?_) x
  obtain ⟨a, rfl, p1⟩ := of_atRef p1
  obtain ⟨l, hl, q⟩ := of_lstAt p1
  have eu : u = .ref a := r1
  subst eu
  exact k _ _ _ _ q (s1.trans stp_del) (mem_del m1) (rep_del m1 hl)
theorem d_frz {X : Cx} {W : WX} {e : Expr} {f : DF} (h : DE X W e f) : DE X W e (dFrz f) := let ⟨_, p, s⟩ := h; ⟨_, p, sim_frz s⟩
/-- ahead of a statement: slot i's list does not change any more -/
def sFrz (i : Nat) (f : SF) : SF := fun E env M => match env[i]? with
  | some (some d) => atRef d fun a => lstAt M a fun l => f E (env.set i (some (.lst l))) (mdel M a)
  | _ => False
theorem sims_frz {K : PySem.W.Frag} {W : WX} {t : TS} {f : SF} {i : Nat} (h1 : SimS K W t f) : SimS K W t (sFrz i f) := by
  intro σ H env M D E r h c
  unfold sFrz at h
  split at h
  · rename_i d e
    obtain ⟨a, rfl, p1⟩ := of_atRef h
    obtain ⟨l, hl, q⟩ := of_lstAt p1
    obtain ⟨u, e1, e2⟩ := r.get i _ e
    have eu : u = .ref a := e2
    subst eu
    have r2 := ((r.to stp_del (mem_del r.mem (p := a))).set i (rep_del r.mem hl))
    have eσ : σ.set i (some (.ref a)) = σ := by
      apply List.ext_getElem?
      intro j
      by_cases hj : i = j
      · subst hj
        rw [List.getElem?_set_self (by
          rcases Nat.lt_or_ge i σ.length with z | z
          · exact z
          · rw [List.getElem?_eq_none z] at e1
            cases e1), e1]
      · rw [List.getElem?_set_ne hj]
    rw [eσ] at r2
    exact h1 σ H _ _ D E r2 q (c.to stp_del)
  · exact h.elim
theorem s_frz {X : Cx} {W : WX} {st : Stmt} {f : SF} (i : Nat) (h : DS X W st f) : DS X W st (sFrz i f) := let ⟨_, p, s⟩ := h; ⟨_, p, sims_frz s⟩
theorem ss_frz {X : Cx} {W : WX} {st : List Stmt} {f : SF} (i : Nat) (h : DSs X W st f) : DSs X W st (sFrz i f) := let ⟨_, p, s⟩ := h; ⟨_, p, sims_frz s⟩

/-! ### one reading for all contexts -/
def tF (K : PySem.W.Frag) (W : WX) (f : DF) : TE := fun σ H Q => ∃ env M P E, Rel K env M σ H ∧ f env M P E ∧ (∀ d M' u H', P d M' → Stp M H M' H' → MemOk K M' H' → rep K (off M' H') d u → Q u H') ∧ XOk K W σ M H E
def tFt (K : PySem.W.Frag) (W : WX) (f : DFt) : TT := fun σ H Q => ∃ env M P E, Rel K env M σ H ∧ f env M P E ∧ (∀ b M' H', P b M' → Stp M H M' H' → MemOk K M' H' → Q b H') ∧ XOk K W σ M H E
def tFs (K : PySem.W.Frag) (W : WX) (f : SF) : TS := fun D σ H => ∃ env M E, Rel K env M σ H ∧ f E env M ∧ Fit K W M H D E
theorem DE.pe {X : Cx} {W : WX} {e : Expr} {f : DF} (h : DE X W e f) : PE X e (tF X.K W f) := by
  obtain ⟨t, p, sm⟩ := h
  refine (⟨fun pins s σ H Q I hq => ?_⟩)
  obtain ⟨env, M, P, E, r, hf, k, x⟩ := hq
  exact p.run pins s σ H Q I (sm σ H env M Q P E r hf k x)
theorem DT.pt {X : Cx} {W : WX} {e : Expr} {f : DFt} (h : DT X W e f) : PT X e (tFt X.K W f) := by
  obtain ⟨t, p, sm⟩ := h
  refine (⟨fun pins s σ H Q I hq => ?_⟩)
  obtain ⟨env, M, P, E, r, hf, k, x⟩ := hq
  exact p.run pins s σ H Q I (sm σ H env M Q P E r hf k x)
theorem DSs.ps {X : Cx} {W : WX} {e : List Stmt} {f : SF} (h : DSs X W e f) : PSs X e (tFs X.K W f) := by
  obtain ⟨t, p, sm⟩ := h
  refine (⟨fun pins s σ H D I hq => ?_⟩)
  obtain ⟨env, M, E, r, hf, k⟩ := hq
  exact p.run pins s σ H D I (sm σ H env M D E r hf k)

/-! ### what is walked -/
def Yld (K : PySem.W.Frag) (J : It) (ds : List D) (Kp : Mem → Prop) (M1 : Mem) (H1 : Hp) : Prop := ∃ (G : Hp → Prop) (Y : Nat → Hp → V → Hp → Prop), Walk J ds.length G Y ∧ (∀ M2 H2, Stp M1 H1 M2 H2 → MemOk K M2 H2 → Kp M2 → G H2) ∧
  ∀ i d M2 H2 x H3, ds[i]? = some d → Stp M1 H1 M2 H2 → MemOk K M2 H2 → Kp M2 → Y i H2 x H3 → Stp M2 H2 M2 H3 ∧ MemOk K M2 H3 ∧ rep K (off M2 H3) d x
abbrev DFi := EnvD → Mem → (List D → (Mem → Prop) → Mem → Prop) → XD → Prop
def SimI (K : PySem.W.Frag) (W : WX) (wi : TI) (f : DFi) : Prop := ∀ (σ : L2.St) (H : Hp) (env : EnvD) (M : Mem) (R : It → Hp → Prop) (P : List D → (Mem → Prop) → Mem → Prop) (E : XD), Rel K env M σ H → f env M P E →
  (∀ ds Kp M' H' J, P ds Kp M' → Stp M H M' H' → MemOk K M' H' → Yld K J ds Kp M' H' → R J H') → XOk K W σ M H E → wi σ H R
def DI (X : Cx) (W : WX) (tg iter : Expr) (f : DFi) : Prop := ∃ wi, PI X tg iter wi ∧ SimI X.K W wi f
/-- what keeps a list that may change as it is -/
def keepOf (M : Mem) (d : D) : Mem → Prop := match d with
  | .v (.ref a) => fun M2 => M2 a = M a
  | _ => fun _ => True
theorem seq_keep {K : PySem.W.Frag} {M1 M2 : Mem} {H1 H2 : Hp} {d : D} {b : Bool} {l : List D} {a : Addr} {vs : List V} (m1 : MemOk K M1 H1) (h : seqD M1 d = some (b, l)) (r : rep K (off M1 H1) d (.ref a)) (hq : Sq K H1 b a vs) (hr : reps K (off M1 H1) l vs)
    (s : Stp M1 H1 M2 H2) (m2 : MemOk K M2 H2) (k : keepOf M1 d M2) : ∃ ws, Sq K H2 b a ws ∧ reps K (off M2 H2) l ws := by
  cases d with
  | lst l' =>
    cases h
    obtain ⟨a', ws, e1, e2, e3⟩ := r
    cases e1
    exact ⟨ws, off_le.seq (s.same.seq e2), s.reps e3⟩
  | tup l' =>
    cases h
    obtain ⟨a', ws, e1, e2, e3⟩ := r
    cases e1
    exact ⟨ws, sqT_same off_le (sqT_same s.same e2), s.reps e3⟩
  | dct _ => cases h
  | exn _ _ _ => cases h
  | v x =>
    have e : V.ref a = x := r
    subst e
    simp only [seqD] at h
    split at h
    · rename_i l2 e
      cases h
      have k' : M2 a = M1 a := k
      rw [e] at k'
      obtain ⟨ws, e1, e2⟩ := m2 a _ k'
      exact ⟨ws, .inl (.inl e1), e2⟩
    · cases h
def iSq (f : DF) : DFi := fun env M Q E => f env M (fun d M1 => match seqD M1 d with
  | some (_, l) => Q l (keepOf M1 d) M1
  | none => False) E
theorem simi_seq {K : PySem.W.Frag} {W : WX} {te : TE} {f : DF} (h1 : SimE K W te f) : SimI K W (iSeq K te) (iSq f) := by
  intro σ H env M R P E rl h k x
  refine h1 σ H env M _ _ E rl h (fun d M1 u H1 p1 s1 m1 r1 => ?_) x
  split at p1
  · rename_i b l e
    obtain ⟨a, vs, rfl, q1, q2⟩ := seq_rep m1 e r1
    have hl := reps_length q2
    refine ⟨a, rfl, ?_⟩
    cases b with
    | true =>
      refine .inl ⟨⟨vs, q1⟩, k l _ M1 H1 _ p1 s1 m1 ⟨fun H => ∃ ws, SqL K H a ws ∧ ws.length = l.length, fun i H2 x H3 => H3 = H2 ∧ ∀ ws, SqL K H2 a ws → ws[i]? = some x, ?_, fun M2 H2 s2 m2 kp => ?_, fun i d' M2 H2 x H3 hi s2 m2 kp y => ?_⟩⟩
      · refine ⟨fun i H hi ⟨ws, w1, w2⟩ => ⟨ws, ws[i]'(by omega), w1, by simp [show i < ws.length by omega]⟩, fun H ⟨ws, w1, w2⟩ => ⟨ws, w1, Nat.le_of_eq w2⟩, fun i H x H' hi _ y => y⟩
      · obtain ⟨ws, w1, w2⟩ := seq_keep m1 e r1 q1 q2 s2 m2 kp
        exact ⟨ws, w1, reps_length w2⟩
      · obtain ⟨rfl, y2⟩ := y
        obtain ⟨ws, w1, w2⟩ := seq_keep m1 e r1 q1 q2 s2 m2 kp
        obtain ⟨z, z1, z2⟩ := reps_get w2 hi
        have z3 := y2 ws w1
        rw [z1] at z3
        cases z3
        exact ⟨Stp.refl _ _, m2, z2⟩
    | false =>
      refine .inr ⟨⟨vs, q1⟩, k l _ M1 H1 _ p1 s1 m1 ⟨fun H => ∃ ws, SqT K H a ws ∧ ws.length = l.length, fun i H2 x H3 => H3 = H2 ∧ ∀ ws, SqT K H2 a ws → ws[i]? = some x, ?_, fun M2 H2 s2 m2 kp => ?_, fun i d' M2 H2 x H3 hi s2 m2 kp y => ?_⟩⟩
      · refine ⟨fun i H hi ⟨ws, w1, w2⟩ => ⟨ws, ws[i]'(by omega), w1, by simp [show i < ws.length by omega]⟩, fun H ⟨ws, w1, w2⟩ => ⟨ws, w1, Nat.le_of_eq w2⟩, fun i H x H' hi _ y => y⟩
      · obtain ⟨ws, w1, w2⟩ := seq_keep m1 e r1 q1 q2 s2 m2 kp
        exact ⟨ws, w1, reps_length w2⟩
      · obtain ⟨rfl, y2⟩ := y
        obtain ⟨ws, w1, w2⟩ := seq_keep m1 e r1 q1 q2 s2 m2 kp
        obtain ⟨z, z1, z2⟩ := reps_get w2 hi
        have z3 := y2 ws w1
        rw [z1] at z3
        cases z3
        exact ⟨Stp.refl _ _, m2, z2⟩
  · exact p1.elim
theorem di_seq {X : Cx} {W : WX} {tg e : Expr} {f : DF} (h : DE X W e f) : DI X W tg e (iSq f) := let ⟨_, p, s⟩ := h; ⟨_, pi_seq p, simi_seq s⟩
/-- range(n) -/
def rangeD (n : Int) : List D := (List.range n.toNat).map fun i => .int (i : Nat)
def iRg (f : DF) : DFi := fun env M Q E => f env M (fun d M1 => asI d fun n => (-(2 ^ 62) ≤ n ∧ n < 2 ^ 62) ∧ Q (rangeD n) (fun _ => True) M1) E
theorem simi_rg {K : PySem.W.Frag} {W : WX} {te : TE} {f : DF} (h1 : SimE K W te f) : SimI K W (iRng1 (tCons te tNil)) (iRg f) := by
  intro σ H env M R P E rl h k x
  refine h1 σ H env M _ _ E rl h (fun d M1 u H1 p1 s1 m1 r1 => ?_) x
  obtain ⟨n, rfl, ⟨b1, b2⟩, q⟩ := of_asI p1
  have eu : u = .int n := r1
  subst eu
  refine ⟨n, rfl, b1, b2, k _ _ M1 H1 _ q s1 m1 ?_⟩
  have hl : (rangeD n).length = n.toNat := by simp [rangeD]
  unfold Yld
  rw [hl]
  refine ⟨_, _, walk_range, fun _ _ _ _ _ => True.intro, fun i d' M2 H2 x H3 hi s2 m2 _ y => ?_⟩
  obtain ⟨rfl, rfl⟩ := y
  refine ⟨Stp.refl _ _, m2, ?_⟩
  unfold rangeD at hi
  rw [List.getElem?_map] at hi
  cases e : (List.range n.toNat)[i]? with
  | none =>
    rw [e] at hi
    cases hi
  | some j =>
    rw [e] at hi
    cases hi
    have z := List.getElem?_eq_some_iff.mp e
    obtain ⟨z1, z2⟩ := z
    rw [List.getElem_range] at z2
    subst z2
    show V.int _ = V.int _
    rw [Int.zero_add]
theorem di_rg {X : Cx} {W : WX} {tg a : Expr} {f : DF} {p pos : Pos} (hm : X.mg "range" = none) (h : DE X W a f) (hg : Gl X "range" := by rfl) (hs : starEach [a] X.env = [(false, eval a X.env)] := by rfl) : DI X W tg (.Call (.Name "range" p) [a] [] pos) (iRg f) :=
  let ⟨_, q, s⟩ := h
  ⟨_, pi_range1 hg hm (pa_cons q pa_nil hs) hs, simi_rg s⟩
/-- enumerate(xs) -/
def enumD (l : List D) : List D := l.mapIdx fun i d => .tup [.int (i : Nat), d]
def iEn (f : DF) : DFi := fun env M Q E => f env M (fun d M1 => match seqD M1 d with
  | some (_, l) => Q (enumD l) (keepOf M1 d) M1
  | none => False) E
theorem simi_en {K : PySem.W.Frag} {W : WX} {te : TE} {f : DF} (h1 : SimE K W te f) : SimI K W (iEnumA K (tCons te tNil)) (iEn f) := by
  intro σ H env M R P E rl h k x
  refine h1 σ H env M _ _ E rl h (fun d M1 u H1 p1 s1 m1 r1 => ?_) x
  split at p1
  · rename_i b l e
    obtain ⟨a, vs, rfl, q1, q2⟩ := seq_rep m1 e r1
    have hl := reps_length q2
    have hel : (enumD l).length = l.length := by simp [enumD]
    have pair : ∀ {i : Nat} {d' : D} {M2 : Mem} {H2 H3 : Hp} {x y : V} {T : Addr}, (enumD l)[i]? = some d' → MemOk K M2 H2 → H2 T = none → H3 = upd H2 T (.tup [.int (i : Nat), y]) → x = .ref T → (∃ d0, l[i]? = some d0 ∧ rep K (off M2 H2) d0 y) → Stp M2 H2 M2 H3 ∧ MemOk K M2 H3 ∧ rep K (off M2 H3) d' x := by
      intro i d' M2 H2 H3 x y T hi m2 hT e3 ex hy
      subst e3 ex
      obtain ⟨d0, g1, g2⟩ := hy
      have s3 : Stp M2 H2 M2 (upd H2 T (.tup [.int (i : Nat), y])) := stp_new hT
      refine ⟨s3, mem_new m2 hT, ?_⟩
      unfold enumD at hi
      rw [List.getElem?_mapIdx, g1] at hi
      cases hi
      refine ⟨T, _, rfl, .inl (.inl (by rw [off_none (m2.none hT)]; exact upd_same)), _, _, rfl, rfl, y, [], rfl, s3.rep g2, rfl⟩
    cases b with
    | true =>
      refine ⟨a, vs, rfl, .inl ⟨q1, k _ _ M1 H1 _ p1 s1 m1 ?_⟩⟩
      refine ⟨fun H => ∃ ws, SqL K H a ws ∧ ws.length = l.length, fun i H2 x H3 => ∃ T y, x = .ref T ∧ H2 T = none ∧ H3 = upd H2 T (.tup [.int (i : Nat), y]) ∧ ∀ ws, SqL K H2 a ws → ws[i]? = some y, ?_, fun M2 H2 s2 m2 kp => ?_, fun i d' M2 H2 x H3 hi s2 m2 kp y => ?_⟩
      · rw [hel]
        refine ⟨fun i H hi ⟨ws, w1, w2⟩ => ⟨ws, ws[i]'(by omega), w1, by simp [show i < ws.length by omega]⟩, fun H ⟨ws, w1, w2⟩ => ⟨ws, w1, Nat.le_of_eq w2⟩, fun i H x H' hi _ y => y⟩
      · obtain ⟨ws, w1, w2⟩ := seq_keep m1 e r1 q1 q2 s2 m2 kp
        exact ⟨ws, w1, reps_length w2⟩
      · obtain ⟨T, y, g1, g2, g3, g4⟩ := y
        obtain ⟨ws, w1, w2⟩ := seq_keep m1 e r1 q1 q2 s2 m2 kp
        have hlt : i < l.length := by
          have z := (List.getElem?_eq_some_iff.mp hi).1
          rw [hel] at z
          exact z
        obtain ⟨z, z1, z2⟩ := reps_get (i := i) (d := l[i]) w2 (by simp [hlt])
        have z3 := g4 ws w1
        rw [z1] at z3
        cases z3
        exact pair hi m2 g2 g3 g1 ⟨l[i], by simp [hlt], z2⟩
    | false =>
      refine ⟨a, vs, rfl, .inr ⟨q1, k _ _ M1 H1 _ p1 s1 m1 ?_⟩⟩
      refine ⟨fun H => ∃ ws, SqT K H a ws ∧ ws.length = l.length, fun i H2 x H3 => ∃ T y, x = .ref T ∧ H2 T = none ∧ H3 = upd H2 T (.tup [.int (i : Nat), y]) ∧ ∀ ws, SqT K H2 a ws → ws[i]? = some y, ?_, fun M2 H2 s2 m2 kp => ?_, fun i d' M2 H2 x H3 hi s2 m2 kp y => ?_⟩
      · rw [hel]
        refine ⟨fun i H hi ⟨ws, w1, w2⟩ => ⟨ws, ws[i]'(by omega), w1, by simp [show i < ws.length by omega]⟩, fun H ⟨ws, w1, w2⟩ => ⟨ws, w1, w2⟩, fun i H x H' hi _ y => y⟩
      · obtain ⟨ws, w1, w2⟩ := seq_keep m1 e r1 q1 q2 s2 m2 kp
        exact ⟨ws, w1, reps_length w2⟩
      · obtain ⟨T, y, g1, g2, g3, g4⟩ := y
        obtain ⟨ws, w1, w2⟩ := seq_keep m1 e r1 q1 q2 s2 m2 kp
        have hlt : i < l.length := by
          have z := (List.getElem?_eq_some_iff.mp hi).1
          rw [hel] at z
          exact z
        obtain ⟨z, z1, z2⟩ := reps_get (i := i) (d := l[i]) w2 (by simp [hlt])
        have z3 := g4 ws w1
        rw [z1] at z3
        cases z3
        exact pair hi m2 g2 g3 g1 ⟨l[i], by simp [hlt], z2⟩
  · exact p1.elim
theorem di_en {X : Cx} {W : WX} {e : Expr} {f : DF} {elts : List Expr} {kk : Nat} {p pos tpos : Pos} (hm : X.mg "enumerate" = none) (h : DE X W e f) (hg : Gl X "enumerate" := by rfl) (hs : starEach [e] X.env = [(false, eval e X.env)] := by rfl) :
    DI X W (.Tuple elts kk tpos) (.Call (.Name "enumerate" p) [e] [] pos) (iEn f) :=
  let ⟨_, q, s⟩ := h
  ⟨_, pi_enumA hg hm (pa_cons q pa_nil hs) hs, simi_en s⟩
end DL
set_option maxHeartbeats 4000001
namespace DL
open PySem PySem.Spec
open PyProof.Rows L2

/-! ### for -/
def forL (Kp : Mem → Prop) (g : DG) (b : SF) (E : EndsD) : List D → EnvD → Mem → Prop
  | [], env, M => Kp M ∧ E.nx env M
  | d :: ds, env, M => Kp M ∧ g d env M fun env1 M1 => b { E with nx := forL Kp g b E ds, ct := forL Kp g b E ds, bk := E.nx } env1 M1
def sFor (fi : DFi) (g : DG) (b : SF) : SF := fun E env M => fi env M (fun ds Kp M1 => forL Kp g b E ds env M1) (fun xn M1 => E.ex xn env M1)
theorem sims_for {K : PySem.W.Frag} {W : WX} {wi : TI} {fi : DFi} {tg : TG} {g : DG} {tb : TS} {b : SF} (h1 : SimI K W wi fi) (h2 : SimG K tg g) (h3 : SimS K W tb b) : SimS K W (tFor wi tg tb) (sFor fi g b) := by
  intro σ H env M D E r h c
  refine h1 σ H env M _ _ _ r h (fun ds Kp M1 H1 J p s1 m1 y => ?_) (c.xo r)
  obtain ⟨G, Y, wk, hG, hY⟩ := y
  refine for_it wk (fun i σ2 H2 => ∃ env2 M2, Stp M1 H1 M2 H2 ∧ Rel K env2 M2 σ2 H2 ∧ forL Kp g b E (ds.drop i) env2 M2) ⟨env, M1, Stp.refl _ _, r.to s1 m1, by rw [List.drop_zero]; exact p⟩ ?_ ?_ ?_
  · rintro i σ2 H2 hi ⟨env2, M2, s2, r2, q⟩
    refine hG M2 H2 s2 r2.mem ?_
    cases e : ds.drop i with
    | nil =>
      rw [e] at q
      exact q.1
    | cons d t =>
      rw [e] at q
      exact q.1
  · rintro i x σ2 H2 H3 hi ⟨env2, M2, s2, r2, q⟩ hy
    have hd : ds[i]? = some ds[i] := by simp [hi]
    rw [List.drop_eq_getElem_cons hi] at q
    obtain ⟨kp, q⟩ := q
    obtain ⟨s3, m3, rp⟩ := hY i _ M2 H2 x H3 hd s2 r2.mem kp hy
    refine h2 _ x σ2 H3 env2 M2 _ _ (r2.to s3 m3) rp q fun env4 M4 σ4 H4 p4 s4 r4 => ?_
    have s14 := (s2.trans s3).trans s4
    refine h3 σ4 H4 env4 M4 _ _ r4 p4 ⟨fun env5 M5 σ5 H5 p5 s5 r5 => ⟨env5, M5, s14.trans s5, r5, p5⟩, fun d M' u H' p5 s5 => c.rt d M' u H' p5 ((s1.trans s14).trans s5), fun env5 M5 σ5 H5 p5 s5 r5 => c.nx env5 M5 σ5 H5 p5 ((s1.trans s14).trans s5) r5,
      fun env5 M5 σ5 H5 p5 s5 r5 => ⟨env5, M5, s14.trans s5, r5, p5⟩, fun xn env5 M5 dd σ5 H5 p5 s5 => c.ex xn env5 M5 dd σ5 H5 p5 ((s1.trans s14).trans s5)⟩
  · rintro σ2 H2 ⟨env2, M2, s2, r2, q⟩
    rw [List.drop_length] at q
    exact c.nx env2 M2 σ2 H2 q.2 (s1.trans s2) r2
theorem s_for {X : Cx} {W : WX} {tg iter : Expr} {body : List Stmt} {fi : DFi} {g : DG} {b : SF} {pos : Pos} (hp : PassesOwn (model X.prog X.w) X.A X.env X.xe) (hc : X.calm = true) (hi : DI X W tg iter fi) (hg : DGt X tg g) (hb : DSs X W body b)
    (hs : ∀ x, foldedSetIterable iter X.env x = pure x := by intro _; rfl) : DS X W (.For tg iter body [] pos) (sFor fi g b) :=
  let ⟨_, p1, s1⟩ := hi
  let ⟨_, p2, s2⟩ := hg
  let ⟨_, p3, s3⟩ := hb
  ⟨_, ps_for hp hc p1 p2 p3 hs, sims_for s1 s2 s3⟩

/-! ### list comprehensions -/
def wipeD (env : EnvD) : List Nat → EnvD
  | [] => env
  | v :: vs => (wipeD env vs).set v none
theorem Rel.wipe {K : PySem.W.Frag} {env : EnvD} {M : Mem} {σ : L2.St} {H : Hp} (r : Rel K env M σ H) : ∀ vs : List Nat, Rel K (wipeD env vs) M (wipe σ vs) H
  | [] => r
  | v :: vs => (Rel.wipe r vs).unset v
theorem wipe_get (σ : L2.St) (j : Nat) : ∀ vs : List Nat, (wipe σ vs)[j]? = if j ∈ vs ∧ j < σ.length then some none else σ[j]?
  | [] => by simp [wipe]
  | v :: vs => by
    unfold wipe
    have ih := wipe_get σ j vs
    by_cases hv : v = j
    · subst hv
      by_cases hl : v < σ.length
      · rw [List.getElem?_set_self (by rw [wipe_length]; exact hl), if_pos ⟨List.mem_cons_self, hl⟩]
      · rw [List.getElem?_eq_none (by rw [List.length_set, wipe_length]; omega), if_neg (fun z => hl z.2), List.getElem?_eq_none (by omega)]
    · rw [List.getElem?_set_ne hv, ih]
      by_cases hm : j ∈ vs ∧ j < σ.length
      · rw [if_pos hm, if_pos ⟨List.mem_cons_of_mem _ hm.1, hm.2⟩]
      · rw [if_neg hm, if_neg]
        rintro ⟨z1, z2⟩
        rcases List.mem_cons.mp z1 with e | e
        · exact hv e.symm
        · exact hm ⟨e, z2⟩
theorem wipe_set {σ : L2.St} {vs : List Nat} {i : Nat} {x : Option V} (h : i ∈ vs) : wipe (σ.set i x) vs = wipe σ vs := by
  apply List.ext_getElem?
  intro j
  rw [wipe_get, wipe_get, List.length_set]
  by_cases hj : j ∈ vs ∧ j < σ.length
  · rw [if_pos hj, if_pos hj]
  · rw [if_neg hj, if_neg hj]
    by_cases e : i = j
    · subst e
      have hl : ¬ i < σ.length := fun z => hj ⟨h, z⟩
      rw [List.getElem?_eq_none (by rw [List.length_set]; omega), List.getElem?_eq_none (by omega)]
    · rw [List.getElem?_set_ne e]
theorem wipe_wipe (σ : L2.St) (vs : List Nat) : wipe (wipe σ vs) vs = wipe σ vs := by
  apply List.ext_getElem?
  intro j
  rw [wipe_get, wipe_length, wipe_get]
  by_cases hj : j ∈ vs ∧ j < σ.length
  · rw [if_pos hj]
    rw [if_pos hj]
  · rw [if_neg hj]
/-- it stores to these slots alone -/
def OnlyG (vs : List Nat) (g : TG) : Prop := ∀ u σ H (Q Q' : L2.St → Hp → Prop), g u σ H Q → (∀ σ2 H2, wipe σ2 vs = wipe σ vs → Q σ2 H2 → Q' σ2 H2) → g u σ H Q'
def OnlyGs (vs : List Nat) (g : TGs) : Prop := ∀ u σ H (Q Q' : L2.St → Hp → Prop), g u σ H Q → (∀ σ2 H2, wipe σ2 vs = wipe σ vs → Q σ2 H2 → Q' σ2 H2) → g u σ H Q'
theorem only_name {vs : List Nat} {i : Nat} (h : i ∈ vs) : OnlyG vs (gName i) := fun u σ H Q Q' q k => k _ _ (wipe_set h) q
theorem only_nil {vs : List Nat} : OnlyGs vs gNil := fun u σ H Q Q' q k => ⟨q.1, k _ _ rfl q.2⟩
theorem only_cons {vs : List Nat} {i : Nat} {gs : TGs} (h : i ∈ vs) (h2 : OnlyGs vs gs) : OnlyGs vs (gCons (gName i) gs) := by
  rintro u σ H Q Q' ⟨v, r, rfl, q⟩ k
  exact ⟨v, r, rfl, h2 r (σ.set i (some v)) H Q Q' q fun σ2 H2 e => k σ2 H2 (e.trans (wipe_set h))⟩
theorem only_tup {K : PySem.W.Frag} {vs : List Nat} {n : Nat} {gs : TGs} (h : OnlyGs vs gs) : OnlyG vs (gTup K n gs) := by
  rintro u σ H Q Q' ⟨a, xs, e, q1, q2, q⟩ k
  exact ⟨a, xs, e, q1, q2, h _ _ _ _ _ q k⟩
/-- the turns: the new list stands at a -/
def compL (Kp : Mem → Prop) (a : Addr) (g : DG) (env : EnvD) (ft : DFt) (fe : DF) (Q : QD) : List D → Mem → Prop
  | [], M => Kp M ∧ Q (.ref a) M
  | d :: ds, M => Kp M ∧ g d env M fun env1 M1 => ft env1 M1 (fun b M2 => bsel b (fe env1 M2 (fun y M3 => lstAt M3 a fun acc => acc.length < 1000000 ∧ compL Kp a g env ft fe Q ds (mput M3 a (.lst (acc ++ [y])))) noX) (compL Kp a g env ft fe Q ds M2)) noX
def dLc (fi : DFi) (g : DG) (vs : List Nat) (ft : DFt) (fe : DF) : DF := fun env M Q E => fi env M (fun ds Kp M1 => ∀ a, M1 a = none → compL Kp a g (wipeD env vs) ft fe Q ds (mput M1 a (.lst []))) E
theorem Yld.put {K : PySem.W.Frag} {J : It} {ds : List D} {Kp : Mem → Prop} {M1 : Mem} {H1 : Hp} (y : Yld K J ds Kp M1 H1) {a : Addr} {o : HO} {u : MO} (h : H1 a = none) : Yld K J ds Kp (mput M1 a u) (upd H1 a o) := by
  obtain ⟨G, Y, wk, hG, hY⟩ := y
  exact ⟨G, Y, wk, fun M2 H2 s => hG M2 H2 ((stp_put h).trans s), fun i d M2 H2 x H3 e s => hY i d M2 H2 x H3 e ((stp_put h).trans s)⟩
theorem sim_lc {K : PySem.W.Frag} {W : WX} {wi : TI} {fi : DFi} {tg : TG} {g : DG} {vs : List Nat} {tt : TT} {ft : DFt} {te : TE} {fe : DF} (h1 : SimI K W wi fi) (h2 : SimG K tg g) (ho : OnlyG vs tg) (h3 : SimT K (fun _ _ _ _ => False) tt ft) (h4 : SimE K (fun _ _ _ _ => False) te fe) :
    SimE K W (tLc wi tg tt te vs) (dLc fi g vs ft fe) := by
  intro σ H env M Q P E r h k x
  refine h1 σ H env M _ _ E r h (fun ds Kp M1 H1 J p s1 m1 y => ?_) x
  intro a ha
  have y2 : Yld K J ds Kp (mput M1 a (.lst [])) (upd H1 a (.lst [])) := y.put ha
  obtain ⟨G, Y, wk, hG, hY⟩ := y2
  have p0 := p a (m1.none ha)
  have s0 : Stp M1 H1 (mput M1 a (.lst [])) (upd H1 a (.lst [])) := stp_put ha
  have m0 : MemOk K (mput M1 a (.lst [])) (upd H1 a (.lst [])) := mem_put m1 ha rfl
  refine lc_it wk (Qd := fun H => Q (.ref a) H) (fun i H2 => ∃ M2, Stp (mput M1 a (.lst [])) (upd H1 a (.lst [])) M2 H2 ∧ MemOk K M2 H2 ∧ compL Kp a g (wipeD env vs) ft fe P (ds.drop i) M2) ⟨_, Stp.refl _ _, m0, by rw [List.drop_zero]; exact p0⟩ ?_ ?_ ?_
  · rintro i H2 hi ⟨M2, s2, m2, q⟩
    refine hG M2 H2 s2 m2 ?_
    cases e : ds.drop i with
    | nil =>
      rw [e] at q
      exact q.1
    | cons d t =>
      rw [e] at q
      exact q.1
  · rintro i v H2 H3 hi ⟨M2, s2, m2, q⟩ hy
    have hd : ds[i]? = some ds[i] := by simp [hi]
    rw [List.drop_eq_getElem_cons hi] at q
    obtain ⟨kp, q⟩ := q
    obtain ⟨s3, m3, rp⟩ := hY i _ M2 H2 v H3 hd s2 m2 kp hy
    have s03 := (s0.trans s2).trans s3
    have rw1 : Rel K (wipeD env vs) M2 (wipe σ vs) H3 := (r.to (s1.trans s03) m3).wipe vs
    refine ho v _ H3 _ _ (h2 _ v _ H3 _ M2 (fun σ4 H4 => ∃ env4 M4, _ ∧ Stp M2 H3 M4 H4 ∧ Rel K env4 M4 σ4 H4) _ rw1 rp q fun env4 M4 σ4 H4 p4 s4 r4 => ⟨env4, M4, p4, s4, r4⟩) ?_
    rintro σ4 H4 hw ⟨env4, M4, p4, s4, r4⟩
    refine ⟨hw.trans (wipe_wipe _ _), ?_⟩
    have s24 := (s2.trans s3).trans s4
    refine h3 σ4 H4 env4 M4 _ _ noX r4 p4 (fun b M5 H5 p5 s5 m5 => ?_) noX_ok
    have s25 := s24.trans s5
    cases b with
    | false => exact iteF ⟨M5, s25, m5, p5.2 rfl⟩
    | true =>
      refine iteT (h4 σ4 H5 env4 M5 _ _ noX (r4.to s5 m5) (p5.1 rfl) (fun d6 M6 u6 H6 p6 s6 m6 r6 => ?_) noX_ok)
      obtain ⟨acc, e6, hz, q6⟩ := of_lstAt p6
      obtain ⟨us, e7, e8⟩ := m6 a _ e6
      have hne : M6 a ≠ none := by rw [e6]; simp
      refine ⟨us, e7, line6 (by rw [reps_length e8]; exact hz), _, (s25.trans s6).trans (stp_upd hne), mem_upd m6 hne (reps_append (m := [d6]) e8 ⟨u6, [], rfl, r6, rfl⟩), q6⟩
  · rintro H2 ⟨M2, s2, m2, q⟩
    rw [List.drop_length] at q
    exact k _ M2 _ H2 q.2 ((s1.trans s0).trans s2) m2 rfl
/-- [elt for x in iter if ..] -/
def dYes : DFt := fun _ M Q _ => Q true M
theorem sim_yes {K : PySem.W.Frag} {W : WX} : SimT K W tYes dYes := fun σ H env M Q P E r h k _ => k true M H h (Stp.refl _ _) r.mem
section
variable {X : Cx} {W : WX} {elt iter cond : Expr} {tg : Expr} {scope : Scope} {own : List (Str × Nat)} {pos : Pos} {fi : DFi} {fe : DF} {ft : DFt} {g : TG} {gd : DG}
theorem d_lc (own : List (Str × Nat)) (g : TG) (hc : X.calm = true) (hN : X.N.Nodup) (hi : DI X W tg iter fi) (ok : blkC X.N X.env.scope scope own = true)
    (hg : ∀ (s : Shared) (H : Hp) (C : Addr) (cl : List (Str × Addr)) (fp : List Addr), PG (X.blk s H scope (compEnvC scope cl C X.env) fp) tg g) (sg : SimG X.K g gd) (og : OnlyG (own.map (·.2)) g)
    (he : ∀ (s : Shared) (H : Hp) (C : Addr) (cl : List (Str × Addr)) (fp : List Addr), DE (X.blk s H scope (compEnvC scope cl C X.env) fp) (fun _ _ _ _ => False) elt fe) (hs : ∀ x, foldedSetIterable iter X.env x = pure x := by intro _; rfl) :
    DE X W (.ListComp elt [⟨tg, iter, [], 0⟩] scope pos) (dLc fi gd (own.map (·.2)) dYes fe) := by
  obtain ⟨wi, p1, s1⟩ := hi
  exact ⟨_, pe_lc (own := own) (g := g) (tt := tYes) (te := tF X.K (fun _ _ _ _ => False) fe) hc hN p1 (blkOk_by ok) hg (fun _ _ _ _ _ => pts_nil) (fun s H C cl fp => (he s H C cl fp).pe) hs,
    sim_lc s1 sg og sim_yes (fun σ H env M Q P E r h k x => ⟨env, M, P, E, r, h, k, x⟩)⟩
theorem d_lcIf (own : List (Str × Nat)) (g : TG) (hc : X.calm = true) (hN : X.N.Nodup) (hi : DI X W tg iter fi) (ok : blkC X.N X.env.scope scope own = true)
    (hg : ∀ (s : Shared) (H : Hp) (C : Addr) (cl : List (Str × Addr)) (fp : List Addr), PG (X.blk s H scope (compEnvC scope cl C X.env) fp) tg g) (sg : SimG X.K g gd) (og : OnlyG (own.map (·.2)) g)
    (ht : ∀ (s : Shared) (H : Hp) (C : Addr) (cl : List (Str × Addr)) (fp : List Addr), DT (X.blk s H scope (compEnvC scope cl C X.env) fp) (fun _ _ _ _ => False) cond ft)
    (he : ∀ (s : Shared) (H : Hp) (C : Addr) (cl : List (Str × Addr)) (fp : List Addr), DE (X.blk s H scope (compEnvC scope cl C X.env) fp) (fun _ _ _ _ => False) elt fe) (hs : ∀ x, foldedSetIterable iter X.env x = pure x := by intro _; rfl) :
    DE X W (.ListComp elt [⟨tg, iter, [cond], 0⟩] scope pos) (dLc fi gd (own.map (·.2)) ft fe) := by
  obtain ⟨wi, p1, s1⟩ := hi
  exact ⟨_, pe_lc (own := own) (g := g) (tt := tFt X.K (fun _ _ _ _ => False) ft) (te := tF X.K (fun _ _ _ _ => False) fe) hc hN p1 (blkOk_by ok) hg (fun s H C cl fp => pts_one (ht s H C cl fp).pt) (fun s H C cl fp => (he s H C cl fp).pe) hs,
    sim_lc s1 sg og (fun σ H env M Q P E r h k x => ⟨env, M, P, E, r, h, k, x⟩) (fun σ H env M Q P E r h k x => ⟨env, M, P, E, r, h, k, x⟩)⟩
/-- name = [..] on one line -/
theorem s_setLc (i : Nat) {y : Str} {py spos : Pos} (own : List (Str × Nat)) (g : TG) (hc : X.calm = true) (hN : X.N.Nodup) (hi : DI X W tg iter fi) (ok : blkC X.N X.env.scope scope own = true)
    (hg : ∀ (s : Shared) (H : Hp) (C : Addr) (cl : List (Str × Addr)) (fp : List Addr), PG (X.blk s H scope (compEnvC scope cl C X.env) fp) tg g) (sg : SimG X.K g gd) (og : OnlyG (own.map (·.2)) g)
    (he : ∀ (s : Shared) (H : Hp) (C : Addr) (cl : List (Str × Addr)) (fp : List Addr), DE (X.blk s H scope (compEnvC scope cl C X.env) fp) (fun _ _ _ _ => False) elt fe)
    (hsw : swapsWith (.ListComp elt [⟨tg, iter, [], 0⟩] scope pos) (some (.Name y py)) spos.line X.env = pure true) (hy : X.N[i]? = some y := by rfl) (hyl : X.env.scope.names.lookup y = some .local := by rfl) (hs : ∀ x, foldedSetIterable iter X.env x = pure x := by intro _; rfl) :
    DS X W (.Assign [.Name y py] (.ListComp elt [⟨tg, iter, [], 0⟩] scope pos) spos) (sAsg (dLc fi gd (own.map (·.2)) dYes fe) (gNm i)) := by
  obtain ⟨wi, p1, s1⟩ := hi
  exact ⟨_, ps_setLc (own := own) (g := g) (tt := tYes) (te := tF X.K (fun _ _ _ _ => False) fe) hc hN hy hyl hsw p1 (blkOk_by ok) hg (fun _ _ _ _ _ => pts_nil) (fun s H C cl fp => (he s H C cl fp).pe) hs,
    sims_asg (sim_lc s1 sg og sim_yes (fun σ H env M Q P E r h k x => ⟨env, M, P, E, r, h, k, x⟩)) simg_nm⟩
theorem s_setLcF (i : Nat) {y : Str} {py spos : Pos} (own : List (Str × Nat)) (g : TG) (hc : X.calm = true) (hN : X.N.Nodup) (hi : DI X W tg iter fi) (ok : blkC X.N X.env.scope scope own = true)
    (hg : ∀ (s : Shared) (H : Hp) (C : Addr) (cl : List (Str × Addr)) (fp : List Addr), PG (X.blk s H scope (compEnvC scope cl C X.env) fp) tg g) (sg : SimG X.K g gd) (og : OnlyG (own.map (·.2)) g)
    (he : ∀ (s : Shared) (H : Hp) (C : Addr) (cl : List (Str × Addr)) (fp : List Addr), DE (X.blk s H scope (compEnvC scope cl C X.env) fp) (fun _ _ _ _ => False) elt fe)
    (hsw : swapsWith (.ListComp elt [⟨tg, iter, [], 0⟩] scope pos) (some (.Name y py)) spos.line X.env = pure true) (hy : X.N[i]? = some y := by rfl) (hyl : X.env.scope.names.lookup y = some .local := by rfl) (hs : ∀ x, foldedSetIterable iter X.env x = pure x := by intro _; rfl) :
    DS X W (.Assign [.Name y py] (.ListComp elt [⟨tg, iter, [], 0⟩] scope pos) spos) (sAsg (dFrz (dLc fi gd (own.map (·.2)) dYes fe)) (gNm i)) := by
  obtain ⟨wi, p1, s1⟩ := hi
  exact ⟨_, ps_setLc (own := own) (g := g) (tt := tYes) (te := tF X.K (fun _ _ _ _ => False) fe) hc hN hy hyl hsw p1 (blkOk_by ok) hg (fun _ _ _ _ _ => pts_nil) (fun s H C cl fp => (he s H C cl fp).pe) hs,
    sims_asg (sim_frz (sim_lc s1 sg og sim_yes (fun σ H env M Q P E r h k x => ⟨env, M, P, E, r, h, k, x⟩))) simg_nm⟩
end
end DL
set_option maxHeartbeats 4000001
namespace DL
open PySem PySem.Spec
open PyProof.Rows L2

/-! ### a def by its body -/
def startD (N : List Str) (ds : List D) : EnvD := ds.map some ++ List.replicate (N.length - ds.length) none
theorem start_rel {K : PySem.W.Frag} {M : Mem} {H : Hp} {N : List Str} {ds : List D} {vs : List V} (m : MemOk K M H) (r : reps K (off M H) ds vs) : Rel K (startD N ds) M (L2.start N vs) H := by
  refine ⟨?_, fun i d e => ?_, m⟩
  · unfold startD L2.start
    simp [reps_length r]
  · have hi : i < ds.length := by
      unfold startD at e
      by_cases hi : i < ds.length
      · exact hi
      · rw [List.getElem?_append_right (by simpa using hi), List.getElem?_replicate] at e
        split at e <;> cases e
    unfold startD at e
    rw [List.getElem?_append_left (by simpa using hi), List.getElem?_map] at e
    cases q : ds[i]? with
    | none =>
      rw [q] at e
      cases e
    | some d' =>
      rw [q] at e
      cases e
      obtain ⟨u, h1, h2⟩ := reps_get r q
      refine ⟨u, ?_, h2⟩
      unfold L2.start
      rw [List.getElem?_append_left (by rw [List.length_map, reps_length r]; exact hi), List.getElem?_map, h1]
      rfl
def bodyF (N : List Str) (f : SF) : FD := fun ds M P Z => f { nx := fun _ M' => P .non M', rt := P, bk := fun _ _ => False, ct := fun _ _ => False, ex := fun xn _ M' => Z xn M' } (startD N ds) M
/-- where a body stands -/
structure Go (X : Cx) (k : Nat) : Prop where
  room : Room k X.A
  gd : X.A.guards = some []
theorem dfn_of {P : Program} {w : World} {K : PySem.W.Frag} {mg : Str → Option Value} {base : Heap} {k : Nat} {x qual : Str} {params : Arguments} {body : List Stmt} {scope : Scope} {dvs : List V} {kws : List (Str × V)} {f : Addr} {fd : FuncData} {N ps : List Str} {fb : SF}
    (F : FunD K x qual params body scope dvs kws f fd) (S : FnScope N ps scope)
    (hb : ∀ (cdv : Value) (A : Around) (outer : List Env) (s : Shared) (H : Hp) (E : XK), Go (cxOf (L2.CX P w) P w K mg base N qual scope f cdv A outer s H E) k →
      DSs (cxOf (L2.CX P w) P w K mg base N qual scope f cdv A outer s H E) (fun cls d _ H' => E cls d H') body fb) :
    Dfn P w K mg base (k + 1) f fd ps (bodyF N fb) := by
  refine gn_of F S (fun vs H Q E h => h.1) fun cdv A outer s H vs Q E hr hG hsp => ?_
  obtain ⟨hl, ds, M, Pd, Z, m, r, hF, h1, h2⟩ := hsp
  obtain ⟨t, ht, st⟩ := hb cdv A outer s H E ⟨hr, hG⟩
  refine ⟨t, ht, st _ H _ M _ _ (start_rel m r) hF ⟨fun env' M' σ' H' q s' r' => ?_, fun d M' u H' q s' m' r' => h1 d M' u H' q s' m' r', fun _ _ _ _ z => z.elim, fun _ _ _ _ z => z.elim, fun xn env' M' dd σ' H' q s' r' x => h2 xn M' dd H' q s' r'.mem x⟩⟩
  exact h1 .non M' .non H' q s' r'.mem rfl
theorem takes_cx {P : Program} {w : World} {K : PySem.W.Frag} {mg : Str → Option Value} {base : Heap} {N : List Str} {qual : Str} {scope : Scope} {f : Addr} {cdv : Value} {A : Around} {outer : List Env} {s : Shared} {H : Hp} {E : XK} :
    Takes (cxOf (L2.CX P w) P w K mg base N qual scope f cdv A outer s H E) (fun cls d _ H' => E cls d H') := takes_of rfl rfl rfl rfl

/-! ### try .. except X as e: .. except Y: .. -/
/-- the clauses: no further one; further ones that are not reached; a clause with a name's slot or none -/
inductive Cl where
  | out
  | bad
  | one (c : Value) (i : Option Nat) (ts : Addr → Value → Option Addr → TS) (r : Cl)
def unI : Option Nat → L2.St → L2.St
  | none, σ => σ
  | some i, σ => σ.set i none
def inI : Option Nat → Addr → L2.St → L2.St
  | none, _, σ => σ
  | some i, a, σ => σ.set i (some (.ref a))
def unE (i : Option Nat) (D : Ends) : Ends := { nx := fun σ' H' => D.nx (unI i σ') H', rt := D.rt, bk := fun σ' H' => D.bk (unI i σ') H', ct := fun σ' H' => D.ct (unI i σ') H' }
def wCl (K : PySem.W.Frag) (Wout : WX) (D : Ends) : Cl → WX
  | .out => Wout
  | .bad => fun _ _ _ _ => False
  | .one c i ts r => fun cls d σ H => ∃ b, PySem.W.exmOne K cls c = some b ∧ (b = true → ∀ a, H a = none → ts a cls d (unE i D) (inI i a σ) H) ∧ (b = false → wCl K Wout D r cls d σ H)
inductive HdsA (X : Cx) : List ExceptHandler → Cl → Prop
  | out : HdsA X [] .out
  | bad {hds : List ExceptHandler} : HdsA X hds .bad
  | just {x : Str} {c : Value} {ts : Addr → Value → Option Addr → TS} {b₀ : Stmt} {suite : List Stmt} {np pos' : Pos} {hds : List ExceptHandler} {l : Cl} (hc : Names X x c)
      (hsu : ∀ (a : Addr) (oe : Obj) (cls : Value) (d : Option Addr) (pn : List (Addr × Obj)), Zc cls d oe → (∃ vs, oe.data = .fields vs) → PSs (X.suite a ((a, oe) :: pn)) (b₀ :: suite) (ts a cls d)) (r : HdsA X hds l) :
      HdsA X (.ExceptHandler (some (.Name x np)) none (b₀ :: suite) pos' :: hds) (.one c none ts l)
  | as {x n : Str} {c : Value} {i : Nat} {ts : Addr → Value → Option Addr → TS} {b₀ : Stmt} {suite : List Stmt} {np pos' : Pos} {hds : List ExceptHandler} {l : Cl} (hi : X.N[i]? = some n) (hln : X.env.kindOf n = some .local) (hc : Names X x c)
      (hsu : ∀ (a : Addr) (oe : Obj) (cls : Value) (d : Option Addr) (pn : List (Addr × Obj)), Zc cls d oe → (∃ vs, oe.data = .fields vs) → PSs (X.suite a ((a, oe) :: pn)) (b₀ :: suite) (ts a cls d)) (r : HdsA X hds l) :
      HdsA X (.ExceptHandler (some (.Name x np)) (some n) (b₀ :: suite) pos' :: hds) (.one c (some i) ts l)
section
variable {X : Cx} {body : List Stmt} {h₀ : ExceptHandler} {hds : List ExceptHandler} {l : Cl} {pos : Pos} {tb : WX → TS} {Wout : WX}
theorem ps_tryA (stk : X.stack = X.env :: X.outer) (hf : X.env.frame = some X.env.locals) (nod : X.N.Nodup) (tk : Takes X Wout)
    (hb : ∀ (W : WX) (pq : List (Addr × Obj)) (xe : Value → Shared → Prop), Takes (X.tr pq xe) W → PassesOwn (model X.prog X.w) X.A X.env xe → PSs (X.tr pq xe) body (tb W))
    (hh : HdsA X (h₀ :: hds) l) : PS X (.Try body (h₀ :: hds) [] [] pos) (fun D σ H => tb (wCl X.K Wout D l) D σ H) := by
  refine ⟨fun pins s σ H D I asked => ?_⟩
  have ok := I.ok
  have frames : X.A.frames = some (X.env :: X.outer) := by rw [ok.frames, stk]
  refine wpAny_Try_except ?_
  refine wpAny_mono ((hb (wCl X.K Wout D l) (X.pn ++ pins) (fun e s₁ => wpAny (model X.prog X.w) X.A (noteFrame e X.env) (fun _ s₂ => wpAny (model X.prog X.w) X.A (setFlight e none) (fun _ s₃ =>
    wpAny (model X.prog X.w) X.A (handleBy e X.env (h₀ :: hds)) (SP X pins D) X.xe s₃) X.xe s₂) X.xe s₁) (fun u sx air => ?_) PassesOwn.looking).run [] s σ H D (I.toTry _) asked) (fun f s1 done => ?_) (fun e s1 he => he)
  · -- caught
    obtain ⟨a, B, sI, pins', σx, Hx, cls, d, rfl, Jt, nb, up, sky, na, os, ag, wish⟩ := air
    have J : Inv X pins σx Hx sI := Jt.ofTry ok
    have skyX : Sky B (X.env :: X.outer) a (Zc cls d) X.env.locals sx.heap := by rw [← stk]; exact sky
    show wpAny (model X.prog X.w) X.A (noteFrame (Value.ref a) X.env) _ _ _
    refine Sky.land Zc.steady frames hf skyX fun g3 fly up3 => ?_
    have J3 : Inv X pins σx Hx { sx with heap := g3 } := J.landed nb fly.1 (up.trans up3) os ag
    obtain ⟨ox, xs, at3, z3, dat3⟩ := fly.there
    have noFrame : a ∉ frs (X.env :: X.outer) := fun hm => by
      obtain ⟨_, o', e', hnf⟩ := fly.2.2.1.mem hm
      rw [at3] at e'
      cases e'
      exact hnf _ dat3
    have nL : a ≠ X.env.locals := fun z => noFrame (List.mem_filterMap.mpr ⟨X.env, List.mem_cons_self, by rw [hf, z]⟩)
    have nF :
        a ∉ X.fs := fun hm => by
      rcases List.mem_filterMap.mp hm with ⟨e, he, q⟩
      exact noFrame (List.mem_filterMap.mpr ⟨e, List.mem_cons_of_mem _ he, q⟩)
    have S3 := J3.suite at3 dat3 na nL nF
    have look : PySem.W.Looks (model X.prog X.w) g3 (typeOf (.ref a)) cls := fun A Q E s k q => wpAny_typeOf_ref (k _ _ at3) (by rw [z3.1]; exact q)
    have named : ∀ {x : Str} {c : Value} {np : Pos}, Names X x c → ∀ {Q : Value → Shared → Prop} {E : Value → Shared → Prop}, Q c { sx with heap := g3 } → wpAny (model X.prog X.w) (X.A.mark (some (.ref a))) (eval (.Name x np) X.env) Q E { sx with heap := g3 } := fun {x c np} hc {Q E} q => by
      rcases hc with ⟨hg, hdbg, hm | ⟨hm, hv, hnn⟩⟩
      · exact ld_glob (X := X.suite a ((a, ox) :: (X.pn ++ pins))) S3 hg hm q hdbg
      · exact ld_blt (X := X.suite a ((a, ox) :: (X.pn ++ pins))) S3 hg hm hv q hnn hdbg
    have go : ∀ {rest : List ExceptHandler} {cl : Cl}, HdsA X rest cl → wCl X.K Wout D cl cls d σx Hx → wpAny (model X.prog X.w) X.A (handleBy (.ref a) X.env rest) (SP X pins D) X.xe { sx with heap := g3 } := by
      intro rest cl hk
      induction hk with
      | bad =>
        intro w
        exact False.elim w
      | out =>
        intro w
        refine wpAny_handleBy_nil ?_
        obtain ⟨_, _, _, oe, vs, T, oT, ts', at_, _, dat, one, _⟩ := id fly
        unfold PySem.passOn
        refine wpAny_bind (wpAny_field at_ dat one ?_)
        rw [(if_neg (show ¬ ((Value.ref T == Value.none) = true) from by simp))]
        have fin : wpAny (model X.prog X.w) X.A (setFlight (.ref a) X.env.frame) (fun _ s4 => wpAny (model X.prog X.w) X.A (throw (.ref a) : Sem Flow) (SP X pins D) X.xe s4) X.xe { sx with heap := g3 } := by
          rw [hf]
          refine HandSPX.setFlight_upZ fly fun g4 held up4 => wpAny_throw (tk _ _ ?_)
          exact ⟨a, B, sI, pins, σx, Hx, cls, d, rfl, J, nb, (up.trans up3).trans up4, .inr (.inr (by rw [stk]; exact held)), na, os, ag, w⟩
        first
          | exact (wpAny_bind (wpAny_pure (wpAny_bind fin)))
          | exact wpAny_bind fin
      | @just x c ts b₀ suite np pos' rest2 cl2 hc hsu r ih =>
        intro w
        rcases w with ⟨b, hb1, hyes, hno⟩
        refine (wpAny_handleBy_cons (codeAny_handlers_test ?_) (by intro q; cases q))
        refine named hc ((PySem.W.exm_one (M := model X.prog X.w) (J3.kIn) look hb1).here ?_)
        cases b with
        | true =>
          refine (codeAny_handlers_suite ?_)
          refine HandSPX.lands_againZ fly fun g4 fly4 up4 => ?_
          have J4 : Inv X pins σx Hx { sx with heap := g4 } := J.landed nb fly4.1 ((up.trans up3).trans up4) os ag
          obtain ⟨o4, v4, at4, z4, dat4⟩ := fly4.there
          refine wpAny_mono ((hsu a o4 cls d (X.pn ++ pins) z4 ⟨_, dat4⟩).run [] _ _ Hx _ (J4.suite at4 dat4 na nL nF) (hyes rfl a na)) (fun f s6 hsp => ?_) (fun _ _ z => False.elim z)
          cases f with
          | next =>
            rcases hsp with ⟨σ6, H6, S6, q6⟩
            exact ⟨σ6, H6, S6.unsuite ok, q6⟩
          | brk =>
            rcases hsp with ⟨σ6, H6, S6, q6⟩
            exact ⟨σ6, H6, S6.unsuite ok, q6⟩
          | cont =>
            rcases hsp with ⟨σ6, H6, S6, q6⟩
            exact ⟨σ6, H6, S6.unsuite ok, q6⟩
          | ret u =>
            rcases hsp with ⟨v6, σ6, H6, S6, r6, q6⟩
            exact ⟨v6, σ6, H6, S6.unsuite ok, r6, q6⟩
        | false =>
          show wpAny _ X.A (handleBy (.ref a) X.env rest2) _ _ _
          exact ih (hno rfl)
      | @as x n c i ts b₀ suite np pos' rest2 cl2 hi hln hc hsu r ih =>
        intro w
        rcases w with ⟨b, hb1, hyes, hno⟩
        refine (wpAny_handleBy_cons (codeAny_handlers_test ?_) (by intro q; cases q))
        refine named hc ((PySem.W.exm_one (M := model X.prog X.w) (J3.kIn) look hb1).here ?_)
        cases b with
        | true =>
          refine (codeAny_handlers_suite_as ?_)
          refine HandSPX.lands_againZ fly fun g4 fly4 up4 => ?_
          have J4 : Inv X pins σx Hx { sx with heap := g4 } := J.landed nb fly4.1 ((up.trans up3).trans up4) os ag
          obtain ⟨o4, v4, at4, z4, dat4⟩ := fly4.there
          refine store_ok (X := X.suite a ((a, o4) :: (X.pn ++ pins))) (v := .ref a) (J4.suite at4 dat4 na nL nF) nod hi (.inl hln) rfl (fun s5 S5 => ?_) (.inr hln)
          refine wpAny_mono ((hsu a o4 cls d (X.pn ++ pins) z4 ⟨_, dat4⟩).run [] s5 _ Hx _ S5 (hyes rfl a na)) (fun f s6 hsp => ?_) (fun _ _ z => False.elim z)
          have gone : ∀ {σ6 : L2.St} {H6 : Hp} {Q : Shared → Prop}, Inv (X.suite a ((a, o4) :: (X.pn ++ pins))) [] σ6 H6 s6 → (∀ s7, Inv X pins (σ6.set i none) H6 s7 → Q s7) →
              wpAny (model X.prog X.w) X.A (do bindName X.env n .none; unbindBehindTheSuite X.env n pos') (fun _ s7 => Q s7) X.xe s6 := fun {σ6 H6 Q} S6 hq => gone_ok (S6.unsuite ok) nod hi hln hq
          cases f with
          | next =>
            rcases hsp with ⟨σ6, H6, S6, q6⟩
            exact gone S6 fun s7 J7 => ⟨_, H6, J7, q6⟩
          | brk =>
            rcases hsp with ⟨σ6, H6, S6, q6⟩
            exact gone S6 fun s7 J7 => ⟨_, H6, J7, q6⟩
          | cont =>
            rcases hsp with ⟨σ6, H6, S6, q6⟩
            exact gone S6 fun s7 J7 => ⟨_, H6, J7, q6⟩
          | ret u =>
            rcases hsp with ⟨v6, σ6, H6, S6, r6, q6⟩
            exact gone S6 fun s7 J7 => ⟨v6, _, H6, J7, r6, q6⟩
        | false =>
          show wpAny _ X.A (handleBy (.ref a) X.env rest2) _ _ _
          exact ih (hno rfl)
    exact go hh wish
  · cases f with
    | next =>
      obtain ⟨σx, Hx, Jx, q⟩ := done
      exact wpAny_execs_nil ⟨σx, Hx, Jx.ofTry ok, q⟩
    | brk =>
      obtain ⟨σx, Hx, Jx, q⟩ := done
      exact ⟨σx, Hx, Jx.ofTry ok, q⟩
    | cont =>
      obtain ⟨σx, Hx, Jx, q⟩ := done
      exact ⟨σx, Hx, Jx.ofTry ok, q⟩
    | ret u =>
      obtain ⟨v, σx, Hx, Jx, r, q⟩ := done
      exact ⟨v, σx, Hx, Jx.ofTry ok, r, q⟩
end

/-! by data -/
inductive ClD where
  | out
  | bad
  | one (c : Value) (i : Option Nat) (f : Addr → Value → Option Addr → SF) (r : ClD)
def unD : Option Nat → EnvD → EnvD
  | none, env => env
  | some i, env => env.set i none
def inD : Option Nat → Addr → Option Addr → List (Str × D) → EnvD → EnvD
  | none, _, _, _, env => env
  | some i, a, some dd, fs, env => env.set i (some (.exn a dd fs))
  | some i, a, none, _, env => env.set i (some (.ref a))
def unED (i : Option Nat) (E : EndsD) : EndsD := { E with nx := fun env M => E.nx (unD i env) M, bk := fun env M => E.bk (unD i env) M, ct := fun env M => E.ct (unD i env) M, ex := fun _ _ _ => False }
def xCl (K : PySem.W.Frag) (E : EndsD) : ClD → Xn → EnvD → Mem → Prop
  | .out => E.ex
  | .bad => fun _ _ _ => False
  | .one c i f r => fun xn env M => ∃ b, PySem.W.exmOne K xn.cls c = some b ∧ (b = true → ∀ a d, (d = none → xn.fs = []) → f a xn.cls d (unED i E) (inD i a d xn.fs env) M) ∧ (b = false → xCl K E r xn env M)
def sTry (K : PySem.W.Frag) (fb : SF) (l : ClD) : SF := fun E env M => fb { E with ex := xCl K E l } env M
def noS : WX := fun _ _ _ _ => False
inductive ClsOk (X : Cx) : List ExceptHandler → ClD → Prop
  | out : ClsOk X [] .out
  | bad {hds : List ExceptHandler} : ClsOk X hds .bad
  | just {x : Str} {c : Value} {f : Addr → Value → Option Addr → SF} {b₀ : Stmt} {suite : List Stmt} {np pos' : Pos} {hds : List ExceptHandler} {l : ClD} (hc : Names X x c)
      (hsu : ∀ (a : Addr) (oe : Obj) (cls : Value) (d : Option Addr) (pn : List (Addr × Obj)), Zc cls d oe → (∃ vs, oe.data = .fields vs) → DSs (X.suite a ((a, oe) :: pn)) noS (b₀ :: suite) (f a cls d)) (r : ClsOk X hds l) :
      ClsOk X (.ExceptHandler (some (.Name x np)) none (b₀ :: suite) pos' :: hds) (.one c none f l)
  | as {x n : Str} {c : Value} {i : Nat} {f : Addr → Value → Option Addr → SF} {b₀ : Stmt} {suite : List Stmt} {np pos' : Pos} {hds : List ExceptHandler} {l : ClD} (hi : X.N[i]? = some n) (hln : X.env.kindOf n = some .local) (hc : Names X x c)
      (hsu : ∀ (a : Addr) (oe : Obj) (cls : Value) (d : Option Addr) (pn : List (Addr × Obj)), Zc cls d oe → (∃ vs, oe.data = .fields vs) → DSs (X.suite a ((a, oe) :: pn)) noS (b₀ :: suite) (f a cls d)) (r : ClsOk X hds l) :
      ClsOk X (.ExceptHandler (some (.Name x np)) (some n) (b₀ :: suite) pos' :: hds) (.one c (some i) f l)
def clOf (K : PySem.W.Frag) : ClD → Cl
  | .out => .out
  | .bad => .bad
  | .one c i f r => .one c i (fun a cls d => tFs K noS (f a cls d)) (clOf K r)
theorem ClsOk.hds {X : Cx} {hds : List ExceptHandler} {l : ClD} (h : ClsOk X hds l) : HdsA X hds (clOf X.K l) := by
  induction h with
  | out => exact .out
  | bad => exact .bad
  | just hc hsu r ih => exact .just hc (fun a oe cls d pn h1 h2 => DSs.ps (hsu a oe cls d pn h1 h2)) ih
  | as hi hln hc hsu r ih => exact .as hi hln hc (fun a oe cls d pn h1 h2 => DSs.ps (hsu a oe cls d pn h1 h2)) ih
theorem xrep_exn {K : PySem.W.Frag} {M : Mem} {H : Hp} (m : MemOk K M H) {a d : Addr} {fs : List (Str × D)} (x : xrep K (off M H) H (some d) fs) : rep K (off M H) (.exn a d fs) (.ref a) := by
  obtain ⟨vs, h1, h2⟩ := x
  refine ⟨vs, rfl, ?_, h2⟩
  have e : M d = none := by
    cases q : M d with
    | none => rfl
    | some o =>
      have z := m d o q
      cases o with
      | lst l =>
        obtain ⟨us, e1, _⟩ := z
        rw [h1] at e1
        cases e1
      | dct l =>
        obtain ⟨us, e1, _⟩ := z
        rw [h1] at e1
        cases e1
  rw [off_none e]
  exact h1
theorem rel_in {K : PySem.W.Frag} {env : EnvD} {M : Mem} {σ : L2.St} {H : Hp} (r : Rel K env M σ H) {i : Option Nat} {a : Addr} {d : Option Addr} {fs : List (Str × D)} (x : xrep K (off M H) H d fs) : Rel K (inD i a d fs env) M (inI i a σ) H := by
  cases i with
  | none => exact r
  | some i =>
    cases d with
    | none => exact r.set i (d := .ref a) rfl
    | some d => exact r.set i (xrep_exn r.mem x)
theorem rel_un {K : PySem.W.Frag} {env : EnvD} {M : Mem} {σ : L2.St} {H : Hp} (r : Rel K env M σ H) {i : Option Nat} : Rel K (unD i env) M (unI i σ) H := by
  cases i with
  | none => exact r
  | some i => exact r.unset i
theorem fit_un {K : PySem.W.Frag} {W : WX} {M : Mem} {H : Hp} {D : Ends} {E : EndsD} (c : Fit K W M H D E) (i : Option Nat) : Fit K noS M H (unE i D) (unED i E) :=
  ⟨fun env M' σ' H' q s r => c.nx _ M' _ H' q s (rel_un r), c.rt, fun env M' σ' H' q s r => c.bk _ M' _ H' q s (rel_un r), fun env M' σ' H' q s r => c.ct _ M' _ H' q s (rel_un r), fun _ _ _ _ _ _ z => z.elim⟩
theorem xcl_ok {K : PySem.W.Frag} {Wout : WX} {M : Mem} {H : Hp} {D : Ends} {E : EndsD} (c : Fit K Wout M H D E) : ∀ (l : ClD) (xn : Xn) (env : EnvD) (M' : Mem) (dd : Option Addr) (σ' : L2.St) (H' : Hp), xCl K E l xn env M' → Stp M H M' H' → Rel K env M' σ' H' → xrep K (off M' H') H' dd xn.fs →
    wCl K Wout D (clOf K l) xn.cls dd σ' H'
  | .out, xn, env, M', dd, σ', H', h, s, r, x => c.ex xn env M' dd σ' H' h s r x
  | .bad, _, _, _, _, _, _, h, _, _, _ => h.elim
  | .one cl i f rest, xn, env, M', dd, σ', H', h, s, r, x => by
    obtain ⟨b, h1, h2, h3⟩ := h
    refine ⟨b, h1, fun hb a _ => ?_, fun hb => xcl_ok c rest xn env M' dd σ' H' (h3 hb) s r x⟩
    exact ⟨_, M', unED i E, rel_in r x, h2 hb a dd (fun z => by subst z; exact x), fit_un (c.to s) i⟩
section
variable {X : Cx} {body : List Stmt} {h₀ : ExceptHandler} {hds : List ExceptHandler} {l : ClD} {pos : Pos} {fb : SF} {Wout : WX}
theorem s_try (tk : Takes X Wout) (nod : X.N.Nodup) (hb : ∀ (W : WX) (pn : List (Addr × Obj)) (xe : Value → Shared → Prop), Takes (X.tr pn xe) W → PassesOwn (model X.prog X.w) X.A X.env xe → DSs (X.tr pn xe) W body fb)
    (hh : ClsOk X (h₀ :: hds) l) (stk : X.stack = X.env :: X.outer := by rfl) (hf : X.env.frame = some X.env.locals := by rfl) : DS X Wout (.Try body (h₀ :: hds) [] [] pos) (sTry X.K fb l) := by
  refine ⟨_, ps_tryA (tb := fun W => tFs X.K W fb) stk hf nod tk (fun W pn xe h1 h2 => DSs.ps (hb W pn xe h1 h2)) hh.hds, ?_⟩
  intro σ H env M D E r h c
  exact ⟨env, M, _, r, h, ⟨c.nx, c.rt, c.bk, c.ct, fun xn env' M' dd σ' H' q s r' x => xcl_ok c l xn env' M' dd σ' H' q s r' x⟩⟩
end

/-! ### an own exception is made and raised -/
def spInit (C : Addr) (fs : List Str) : Sp := fun vs H Q _ => ∃ (a : Addr) (ys : List V), vs = .ref a :: ys ∧ ys.length = fs.length ∧ H a = some (exo a C none) ∧ ∀ dx, H dx = none → dx ≠ a → Q .non (upd (upd H dx (exd dx (fs.zip ys).reverse)) a (exo a C (some dx)))
structure Xcl (X : Cx) (x : Str) (C : Addr) (k : Nat) (fs : List Str) : Prop where
  o : OexC X.K C
  m : X.mg x = some (.ref C)
  ex : ∃ (fI : Addr) (fd : FuncData) (ps : List Str), PySem.W.findIn X.K (.ref C) "__init__" = some (some (.ref fI)) ∧ PySem.W.typeIn X.K (.ref fI) = some (.type "function") ∧ Binds X.K fd ps [] ∧ FnOk X.prog X.w X.K X.mg X.base (L2.CX X.prog X.w) k fI fd ps (spInit C fs)
def sRaise (C : Addr) (fs : List Str) (f : DFs) : SF := fun E env M => f env M (fun ds M1 => E.ex ⟨.ref C, (fs.zip ds).reverse⟩ env M1) (fun xn M1 => E.ex xn env M1)
theorem repf_append {K : PySem.W.Frag} {G : Hp} : ∀ {l m : List (Str × D)} {us ws : List (Str × V)}, repf K G l us → repf K G m ws → repf K G (l ++ m) (us ++ ws)
  | [], m, us, ws, h, k => by
    cases h
    exact k
  | (n, d) :: ds, m, us, ws, h, k => by
    obtain ⟨u, r, rfl, h2, h3⟩ := h
    exact ⟨u, r ++ ws, rfl, h2, repf_append h3 k⟩
theorem repf_rev {K : PySem.W.Frag} {G : Hp} : ∀ {l : List (Str × D)} {us : List (Str × V)}, repf K G l us → repf K G l.reverse us.reverse
  | [], us, h => by
    cases h
    rfl
  | (n, d) :: ds, us, h => by
    obtain ⟨u, r, rfl, h2, h3⟩ := h
    rw [(List.reverse_cons), List.reverse_cons]
    exact repf_append (repf_rev h3) ⟨u, [], rfl, h2, rfl⟩
theorem repf_zip {K : PySem.W.Frag} {G : Hp} : ∀ (fs : List Str) {ds : List D} {us : List V}, reps K G ds us → repf K G (fs.zip ds) (fs.zip us)
  | [], ds, us, h => by
    simp [repf]
  | f :: fs, [], us, h => by
    cases h
    simp [repf]
  | f :: fs, d :: ds, us, h => by
    obtain ⟨u, r, rfl, h2, h3⟩ := h
    exact ⟨u, fs.zip r, rfl, h2, repf_zip fs h3⟩
theorem sim_raise {K : PySem.W.Frag} {W : WX} {C : Addr} {fs : List Str} {n : Nat} {ta : TA} {f : DFs} (hn : n = fs.length) (hl : fs.length ≤ 1000) (h1 : SimA K W n ta f) : SimS K W (fun _ σ H => tMkO C (spInit C fs) [] ta σ H fun cls d H' => W cls d σ H') (sRaise C fs f) := by
  intro σ H env M D E r h c
  refine h1 σ H env M _ _ _ r h (fun ds M1 vs H1 p1 l1 s1 m1 r1 => ?_) (c.xo r)
  have e1 : vs.length = fs.length := by rw [reps_length r1, l1, hn]
  refine ⟨by omega, fun a na => ⟨a, vs, by rw [List.append_nil], e1, upd_same, fun dx n1 n2 => ⟨rfl, dx, (fs.zip vs).reverse, upd_same, ?_, ?_, ?_⟩⟩⟩
  · rw [upd_ne n2, upd_same]
  · rw [upd_ne n2] at n1
    exact n1
  · rw [upd_ne n2] at n1
    have e : upd (del (upd (upd (upd H1 a (exo a C none)) dx (exd dx (fs.zip vs).reverse)) a (exo a C (some dx))) a) dx (.xd (fs.zip vs).reverse) = upd H1 dx (.xd (fs.zip vs).reverse) := by
      funext b
      by_cases hb : b = dx
      · rw [hb, upd_same, upd_same]
      · rw [upd_ne hb, upd_ne hb]
        by_cases hc : b = a
        · rw [hc, del_same, na]
        · rw [del_ne hc, upd_ne hc, upd_ne hb, upd_ne hc]
    rw [e]
    have s2 := stp_new (M := M1) (o := .xd (fs.zip vs).reverse) n1
    have m2 := mem_new m1 (o := .xd (fs.zip vs).reverse) n1
    exact c.ex _ env M1 (some dx) σ _ p1 (s1.trans s2) (r.to (s1.trans s2) m2) ⟨_, upd_same, repf_rev (repf_zip fs (s2.reps r1))⟩
theorem s_raise {X : Cx} {W : WX} {x : Str} {C : Addr} {k : Nat} {fs : List Str} {e : Expr} {es : List Expr} {f : DFs} {p pos pos' : Pos} (T : Xcl X x C k fs) (hc : X.calm = true) (hr : Room (k + 1) X.A) (tk : Takes X W) (ha : DA X W (e :: es) f) (hl : (e :: es).length = fs.length := by rfl) (hz : fs.length ≤ 1000 := by decide) (hg : Gl X x := by rfl)
    (hdb : (x == ("__debug__" : Str)) = false := by decide)
    (he : starEach (e :: es) X.env = (false, eval e X.env) :: starEach es X.env := by rfl)
    (hpl : (backTo pos (starEach es X.env)).any (·.1) = false := by rfl) : DS X W (.Raise (some (.Call (.Name x p) (e :: es) [] pos)) none pos') (sRaise C fs f) := by
  obtain ⟨fI, fd, ps, h1, h2, h3, h4⟩ := T.ex
  obtain ⟨ta, pa, sa⟩ := ha
  exact ⟨_, ps_raise hc tk (pmk_oex T.o h1 h2 h4 hr h3 .nil (fun pins σ H s e s' I z => passes_call tk (fun _ _ _ _ z => False.elim z) pins σ H s e s' I z) hg T.m pa hdb he hpl), sim_raise hl hz sa⟩

/-! ### err.f in an except suite -/
def dFld (a : Addr) (cls : Value) (d : Option Addr) (C : Addr) (n : Str) (f : DF) : DF := fun env M Q E => f env M (fun x M1 => match x with
  | .exn a' d' fs => a' = a ∧ cls = .ref C ∧ d = some d' ∧ ∃ v, fs.lookup n = some v ∧ Q v M1
  | _ => False) E
theorem sim_fld {K : PySem.W.Frag} {W : WX} {a C : Addr} {cls : Value} {d : Option Addr} {n : Str} {te : TE} {f : DF} (h1 : SimE K W te f) : SimE K W (tXf a cls d C n te) (dFld a cls d C n f) := by
  intro σ H env M Q P E r h k x
  refine h1 σ H env M _ _ E r h (fun y M1 u H1 p1 s1 m1 r1 => ?_) x
  split at p1
  · rename_i a' d' fs
    obtain ⟨rfl, e2, e3, v, e4, q⟩ := p1
    obtain ⟨vs, e5, e6, e7⟩ := r1
    obtain ⟨w, e8, e9⟩ := repf_look e7 e4
    exact ⟨e5, e2, d', vs, w, e3, (of_off e6).1, e8, k v M1 w H1 q s1 m1 e9⟩
  · exact p1.elim
theorem d_fld {X : Cx} {W : WX} {a C : Addr} {oe : Obj} {cls : Value} {d : Option Addr} {pn : List (Addr × Obj)} {e : Expr} {f : DF} {pos : Pos} {n : Str} (T : XfC X.K C) (hno : PySem.W.findIn X.K (.ref C) n = some none) (hz : Zc cls d oe) (hf : ∃ vs, oe.data = .fields vs)
    (he : DE (X.suite a ((a, oe) :: pn)) W e f) (hb : attributeBase e n X.env (eval e X.env) = eval e X.env := by rfl) : DE (X.suite a ((a, oe) :: pn)) W (.Attribute e n pos) (dFld a cls d C n f) := by
  obtain ⟨t, p, s⟩ := he
  exact ⟨_, pe_xf T hno hz hf p hb, sim_fld s⟩
end DL
set_option maxHeartbeats 4000001
namespace DL
open PySem PySem.Spec
open PyProof.Rows L2

/-! ### more builtins, by data -/
theorem reps_bls {K : PySem.W.Frag} {G : Hp} {bs : List Bool} {us : List V} (h : reps K G (bs.map D.bl) us) : us = bs.map V.bl := by
  have e : bs.map D.bl = (bs.map V.bl).map D.v := by rw [List.map_map]; rfl
  rw [e] at h
  exact reps_vals h
theorem reps_ints {K : PySem.W.Frag} {G : Hp} {bs : List Int} {us : List V} (h : reps K G (bs.map D.int) us) : us = bs.map V.int := by
  have e : bs.map D.int = (bs.map V.int).map D.v := by rw [List.map_map]; rfl
  rw [e] at h
  exact reps_vals h
theorem one_rep {K : PySem.W.Frag} {G : Hp} {d : D} {us : List V} (h : reps K G [d] us) : ∃ u, us = [u] ∧ rep K G d u := by
  obtain ⟨u, w, rfl, r1, r2⟩ := h
  cases r2
  exact ⟨u, rfl, r1⟩
def gAll : GC := fun xs M Q => ∃ d l bs, xs = [d] ∧ seqD M d = some (true, l) ∧ l = List.map D.bl bs ∧ Q (.bl (bs.all id)) M
theorem sim_all {K : PySem.W.Frag} : SimC K (rAll K) gAll := by
  intro xs us M H Q P m r h k
  obtain ⟨d, l, bs, rfl, e, rfl, q⟩ := h
  obtain ⟨u, rfl, r1⟩ := one_rep r
  obtain ⟨a, vs, rfl, hs, hr⟩ := seq_rep m e r1
  rw [reps_bls hr] at hs
  exact ⟨a, bs, rfl, hs, k _ M _ H q (Stp.refl _ _) m rfl⟩
def gAny : GC := fun xs M Q => ∃ d l bs, xs = [d] ∧ seqD M d = some (true, l) ∧ l = List.map D.bl bs ∧ Q (.bl (bs.any id)) M
theorem sim_any {K : PySem.W.Frag} : SimC K (rAny K) gAny := by
  intro xs us M H Q P m r h k
  obtain ⟨d, l, bs, rfl, e, rfl, q⟩ := h
  obtain ⟨u, rfl, r1⟩ := one_rep r
  obtain ⟨a, vs, rfl, hs, hr⟩ := seq_rep m e r1
  rw [reps_bls hr] at hs
  exact ⟨a, bs, rfl, hs, k _ M _ H q (Stp.refl _ _) m rfl⟩
def gSum : GC := fun xs M Q => ∃ d l ns, xs = [d] ∧ seqD M d = some (true, l) ∧ l = List.map D.int ns ∧ Q (.int ns.sum) M
theorem sim_sum {K : PySem.W.Frag} : SimC K (rSum K) gSum := by
  intro xs us M H Q P m r h k
  obtain ⟨d, l, ns, rfl, e, rfl, q⟩ := h
  obtain ⟨u, rfl, r1⟩ := one_rep r
  obtain ⟨a, vs, rfl, hs, hr⟩ := seq_rep m e r1
  rw [reps_ints hr] at hs
  exact ⟨a, ns, rfl, hs, k _ M _ H q (Stp.refl _ _) m rfl⟩
def gMax2 : GC := fun xs M Q => ∃ i j, xs = [.int i, .int j] ∧ Q (.int (if j > i then j else i)) M
def gMin2 : GC := fun xs M Q => ∃ i j, xs = [.int i, .int j] ∧ Q (.int (if j < i then j else i)) M
theorem two_int {K : PySem.W.Frag} {G : Hp} {i j : Int} {us : List V} (h : reps K G [.int i, .int j] us) : us = [.int i, .int j] := by
  obtain ⟨u, w, rfl, r1, u2, w2, rfl, r2, r3⟩ := h
  cases r3
  cases r1
  cases r2
  rfl
theorem sim_max2 {K : PySem.W.Frag} : SimC K (fun xs H Q => ∃ i j, xs = [.int i, .int j] ∧ Q (.int (if j > i then j else i)) H) gMax2 := by
  intro xs us M H Q P m r h k
  obtain ⟨i, j, rfl, q⟩ := h
  exact ⟨i, j, two_int r, k _ M _ H q (Stp.refl _ _) m rfl⟩
theorem sim_min2 {K : PySem.W.Frag} : SimC K (fun xs H Q => ∃ i j, xs = [.int i, .int j] ∧ Q (.int (if j < i then j else i)) H) gMin2 := by
  intro xs us M H Q P m r h k
  obtain ⟨i, j, rfl, q⟩ := h
  exact ⟨i, j, two_int r, k _ M _ H q (Stp.refl _ _) m rfl⟩
def gTupOf : GC := fun xs M Q => match xs with
  | [d] => match seqD M d with
    | some (_, l) => Q (.tup l) M
    | none => False
  | _ => False
theorem sim_tupOf {K : PySem.W.Frag} : SimC K (fun xs H Q => ∃ p ys, xs = [.ref p] ∧ ((SqL K H p ys ∧ ∀ l, H l = none → Q (.ref l) (upd H l (.tup ys))) ∨ (SqT K H p ys ∧ Q (.ref p) H))) gTupOf := by
  intro xs us M H Q P m r h k
  unfold gTupOf at h
  split at h
  · rename_i d
    obtain ⟨u, rfl, r1⟩ := one_rep r
    split at h
    · rename_i b l e
      obtain ⟨a, vs, rfl, hs, hr⟩ := seq_rep m e r1
      cases b with
      | true =>
        refine ⟨a, vs, rfl, .inl ⟨hs, fun p hp => ?_⟩⟩
        have s := stp_new (M := M) (o := .tup vs) hp
        have m' := mem_new m (o := .tup vs) hp
        refine k _ M _ _ h s m' ⟨p, vs, rfl, .inl (.inl ?_), s.reps hr⟩
        have e : M p = none := m.none hp
        rw [off_none e]
        exact upd_same
      | false =>
        refine ⟨a, vs, rfl, .inr ⟨hs, k _ M _ _ h (Stp.refl _ _) m ?_⟩⟩
        cases d with
        | tup l2 =>
          cases e
          exact r1
        | lst _ => cases e
        | dct _ => cases e
        | exn _ _ _ => cases e
        | v x =>
          cases x with
          | ref p =>
            simp only [seqD] at e
            split at e <;> cases e
          | _ => cases e
    · exact h.elim
  · exact h.elim
/-- x in xs -/
def gIn (neg : Bool) : G2 := fun x y M Q => ∃ (a : V) (l : List V) (b : Bool), x = .v a ∧ seqD M y = some (b, l.map D.v) ∧ flatV a = true ∧ l.all flatV = true ∧ Q (.bl (if neg then !inV a l else inV a l)) M
theorem sim_in {K : PySem.W.Frag} {neg : Bool} : Sim2 K (rIn K neg) (gIn neg) := by
  intro x y u w M H Q P m r1 r2 h k
  obtain ⟨a, l, b, rfl, e, h1, h2, q⟩ := h
  obtain ⟨p, vs, rfl, hs, hr⟩ := seq_rep m e r2
  rw [reps_vals hr] at hs
  cases r1
  exact ⟨p, l, rfl, hs.or, h1, h2, k _ M _ H q (Stp.refl _ _) m rfl⟩
def dNeg (f : DF) : DF := fun env M Q E => f env M (fun d M1 => asI d fun i => Q (.int (-i)) M1) E
theorem sim_neg {K : PySem.W.Frag} {W : WX} {te : TE} {f : DF} (h1 : SimE K W te f) : SimE K W (tUn (rU fun i => .int (-i)) te) (dNeg f) := by
  intro σ H env M Q P E r h k x
  refine h1 σ H env M _ _ E r h (fun d M1 u H1 p1 s1 m1 r1 => ?_) x
  obtain ⟨i, rfl, q⟩ := of_asI p1
  cases r1
  exact ⟨i, rfl, k _ M1 _ H1 q s1 m1 rfl⟩
def dDct0 : DF := fun _ M Q _ => Q (.dct []) M
section
variable {X : Cx} {W : WX} {a b : Expr} {f g : DF} {pos p : Pos} {e : Expr} {es : List Expr} {fs : DFs}
theorem d_neg (h : DE X W a f) : DE X W (.UnaryOp .USub a pos) (dNeg f) := let ⟨_, p1, s1⟩ := h; ⟨_, pe_un un_neg p1, sim_neg s1⟩
theorem d_in (h1 : DE X W a f) (h2 : DE X W b g) (hm : behindInMarks .In b = false := by first | exact nomark _ | rfl) : DE X W (.Compare a [.In] [b] pos) (dOp (gIn false) f g) := d_cmp op_in_seq sim_in h1 h2 hm
theorem d_nin (h1 : DE X W a f) (h2 : DE X W b g) (hm : behindInMarks .NotIn b = false := by first | exact nomark _ | rfl) : DE X W (.Compare a [.NotIn] [b] pos) (dOp (gIn true) f g) := d_cmp op_notIn_seq sim_in h1 h2 hm
theorem d_dct0 : DE X W (.Dict [] [] pos) dDct0 := by
  refine ⟨_, pe_dnewK, fun σ H env M Q P E r h k x => ?_⟩
  intro p hp
  have s := stp_new (M := M) (o := .dK []) hp
  have m' := mem_new r.mem (o := .dK []) hp
  refine k _ M _ _ h s m' ⟨p, [], rfl, ?_, rfl⟩
  rw [off_none (r.mem.none hp)]
  exact upd_same
end
end DL
set_option maxHeartbeats 4000001
namespace DL
open PySem PySem.Spec
open PyProof.Rows L2

/-! ### the law's def is called -/
theorem law_callG {P : Program} {w : World} {K : PySem.W.Frag} {mg mb : Str → Option Value} {k : Nat} {fa a : Addr} {fd : FuncData} {x : Str} {sp : Sp} {s₁ : Shared} {vs : List Value} {ns : List Int}
    (KX : K.In s₁.heap) (gs : s₁.heap.Ns mainGlobals mg) (bt : s₁.heap.Ns builtinsNs mb) (btv : ∀ x : Str, x ≠ "__name__" → mb x = bootBuiltins x) (lim : s₁.heap.NoLimit) (gens : s₁.gens = #[]) (sys : Sys s₁.heap)
    (there : s₁.heap.get? a = some { cls := .type "list", data := .seq vs.toArray }) (are : IntsAre vs ns) (few : ns.length ≤ sizeLine) (room : Room k callerA)
    (F : ∀ base : Heap, K.In base → base.Ns mainGlobals mg → Sys base → GnOk P w K mg base k fa fd [x] sp) (bind : ∀ (s : Shared) (u : Value), BindsTo s fd ⟨[u], []⟩ [(x, u)])
    (keeps : ∀ H : Hp, Only H → SqL K H a (ns.map V.int) → sp [.ref a] H (fun v _ => v = .bl true) fun _ _ _ => False) :
    codeAny (model P w) callerA (.call (.ref fa) ⟨[.ref a], []⟩) (fun r s2 => r = .ok (.ret (.bool true)) ∧ OldK s₁.heap s2.heap ∧ s2.os = s₁.os ∧ AllBare s2.gens) s₁ := by
  have rv := vals_ints are
  have many := are.length
  have go : ∀ H : Hp, Only H → SqL K H a (ns.map V.int) → HOk P w H s₁.heap → (∀ b, H b ≠ none → b = a) → (H a ≠ none → K.lookup a = none) →
      codeAny (model P w) callerA (.call (.ref fa) ⟨[.ref a], []⟩) (fun r s2 => r = .ok (.ret (.bool true)) ∧ OldK s₁.heap s2.heap ∧ s2.os = s₁.os ∧ AllBare s2.gens) s₁ := by
    intro H only sq hok one noK
    have dic : ∀ {b : Addr} {o : Obj} {es : Array DictEntry} {ep : Nat}, s₁.heap.get? b = some o → o.data = .dict es ep → H b = none := fun {b o es ep} e d => by
      cases q : H b with
      | none => rfl
      | some u =>
        obtain rfl : b = a := one b (by rw [q]; simp)
        rw [there] at e
        cases e
        cases (show Data.seq vs.toArray _ = Data.dict es ep from d)
    have ns' : ∀ {b : Addr} {m : Str → Option Value}, s₁.heap.Ns b m → (hidT s₁.heap H).Ns b m := fun {b m} ⟨o, es, ep, e, d, r⟩ => ⟨o, es, ep, hidT_get e (dic e d), d, r⟩
    have KB : K.In (hidT s₁.heap H) := fun b o e => hidT_get (KX b o e) (by
      cases q : H b with
      | none => rfl
      | some u =>
        obtain rfl : b = a := one b (by rw [q]; simp)
        rw [noK (by rw [q]; simp)] at e
        cases e)
    have md : Mod K mg (hidT s₁.heap H) := ⟨KB, ns' gs, ⟨mb, ns' bt, btv⟩, let ⟨mc, h1, h2⟩ := lim; ⟨mc, ns' h1, h2⟩⟩
    have sy : Sys (hidT s₁.heap H) := let ⟨mm, h⟩ := sys; ⟨mm, ns' h⟩
    have e0 : Env0 P w K mg (hidT s₁.heap H) callerA [] s₁ H := ⟨rfl, md, fun b o e => of_hidT e, Nat.le_of_eq (hidT_size _ _), trivial, fun b hb => (List.not_mem_nil hb).elim, hok, .of_eq gens⟩
    refine codeAny_mono ((F _ KB (ns' gs) sy).run callerA [] s₁ H ⟨[.ref a], []⟩ [.ref a] [.ref a] _ _ room rfl e0 (bind s₁ (.ref a)) (.cons rfl .nil) (keeps H only sq)) fun r s' out => ?_
    match r, out with
    | .error e, out =>
      obtain ⟨_, _, _, _, _, _, _, _, _, _, _, _, z⟩ := out
      exact z.elim
    | .ok .next, out => exact out.elim
    | .ok .brk, out => exact out.elim
    | .ok .cont, out => exact out.elim
    | .ok (.ret u), out =>
      obtain ⟨v, H', os, bare, un, hok', rel, q⟩ := out
      obtain rfl : v = .bl true := q
      obtain rfl : u = Value.bool true := rel
      refine (⟨rfl, OldK.of_keep fun b o e => ?_, os, bare⟩)
      cases q : H b with
      | none => exact un.keep b o e q (fun z => (List.not_mem_nil z).elim) (by simp)
      | some u =>
        rcases only b with z | ⟨ob, xs, z⟩
        · rw [q] at z
          cases z
        · obtain ⟨e1, _⟩ := hok b _ z
          obtain ⟨e2, _⟩ := hok' b _ (un.frzs b ob _ z)
          rw [e] at e1
          cases e1
          exact e2
  cases inK : K.lookup a with
  | some o =>
    have e := KX a o inK
    rw [there] at e
    cases e
    exact go (fun _ => none) (fun _ => .inl rfl) (.inr ⟨_, vs.toArray, _, inK, rfl, rfl, rfl, by rw [List.size_toArray, many]; exact few, by simpa using rv⟩) (fun b u z => by cases (show (none : Option HO) = some u from z)) (fun b z => absurd rfl z) fun z => absurd rfl z
  | none =>
    refine go (fun b => if b = a then some (.frz { cls := .type "list", data := .seq vs.toArray } (.lst (ns.map V.int))) else none) (fun b => ?_) (.inl (.inr ⟨{ cls := .type "list", data := .seq vs.toArray }, if_pos rfl⟩)) (fun b u z => ?_) (fun b z => ?_) fun _ => inK
    · by_cases hb : b = a
      · exact (.inr ⟨_, _, if_pos hb⟩)
      · exact .inl (if_neg hb)
    · by_cases hb : b = a
      · cases (if_pos hb).symm.trans z
        subst hb
        exact ⟨there, by rw [List.length_map]; exact few, vs, _, rv, there⟩
      · cases (if_neg hb).symm.trans z
    · by_cases hb : b = a
      · exact hb
      · exact absurd (if_neg hb) z
/-- a law, by data -/
theorem walk_D {l : PySem.W.OpenLaw} {n k : Nat} {q : Program} {loose : List Str} {XP : (Str → Option Value) → Heap → Prop} {YP : World → Heap → Prop} {d : DefRec} {x : Str}
    (hn : l.most = some n) (hn2 : n ≤ sizeLine)
    (hdf : d.params.defaults = []) (hr : Room k callerA)
    (F : ∀ (w : World) (mg : Str → Option Value) (fa : Addr) (h : Heap),
      YP w h → h.Ns mainGlobals mg → mg d.name = some (.ref fa) →
      ∃ (K : PySem.W.Frag) (fd : FuncData) (FL : FD), K.In h ∧ PySem.W.nsOkIn K sysModules = true ∧ (∀ ns : List Int, ns.length ≤ n → FL [.lst (ns.map D.int)] (fun _ => none) (fun d _ => d = .bl true) noX) ∧ (∀ (s : Shared) (u : Value), BindsTo s fd ⟨[u], []⟩ [(x, u)]) ∧ ∀ base : Heap, K.In base → base.Ns mainGlobals mg → Sys base → Dfn l.prog w K mg base k fa fd [x] FL) :
    PySem.W.WalkO q loose XP YP l.row.toRowW d []
      (fun f vs => PySem.call f vs) := by
  refine (Att.attach_call hn hdf fun w s₀ s₁ mg mb fa o pm cd doc a vs ns G Y ho hd hcd hmg hobj hints hlen hg => ?_)
  obtain ⟨K, fd, FL, KX, sy, law, hb, hF⟩ := F w mg fa _ Y G.T.g hmg
  refine law_callG KX G.T.g G.T.b G.T.builtins G.T.nolimit hg ⟨_, .of_isNs (PySem.W.isNs_of_in KX sy)⟩ hobj hints (Nat.le_trans hlen hn2) hr hF hb fun H _ hS => ?_
  have nothing : off (fun _ => none) H = H := funext fun b => off_none rfl
  have items : reps K (off (fun _ => none) H) (ns.map D.int) (ns.map V.int) := by
    have e : ns.map D.int = (ns.map V.int).map D.v := by rw [List.map_map]; rfl
    rw [e]
    exact reps_map _
  have script : reps K (off (fun _ => none) H) [.lst (ns.map D.int)] [.ref a] := ⟨.ref a, [], rfl, ⟨a, ns.map V.int, rfl, by rw [nothing]; exact hS, items⟩, rfl⟩
  refine ⟨rfl, _, _, _, _, fun b o z => (by cases z), script, law ns hlen, fun d M' u H' p s m r => ?_, fun _ _ _ _ z => z.elim⟩
  have p' : d = .bl true := p
  subst p'
  exact r

/-! ### own exception classes -/
def oexB (K : PySem.W.Frag) (C : Addr) : Bool := match K.lookup C with
  | some ⟨.type "type", _, .cls ce, sl⟩ => (match ce.mro, sl.toList with
    | .ref C' :: bm, [_, _, _, _, some (.builtin n), _] => C' == C && (n == "ValueError.__new__" && (!ce.hasDel && (PySem.HandSPX.refsVE bm && ce.hasDict)))
    | _, _ => false)
  | _ => false
theorem oexB_ok {K : PySem.W.Frag} {C : Addr} (q : oexB K C = true) : ∃ nm q N bs bm sn sub ab col dd k0 k1 k2 k3 k5, K.lookup C = some (excClassObj nm q C N bs bm true sn sub ab col dd k0 k1 k2 k3 k5 "ValueError.__new__") ∧ PySem.HandSPX.refsVE bm = true := by
  unfold oexB at q
  split at q
  · rename_i dd cd sl ho
    split at q
    · rename_i C' bm k0 k1
        k2 k3 n k5 hm hs
      simp only [beq_iff_eq, Bool.and_eq_true, Bool.not_eq_true'] at q
      obtain ⟨rfl, rfl, nd, rv, hd⟩ := q
      obtain ⟨nm, bs, mro, nsp, qn, hdc, sn, sub, ab, col, dl⟩ := cd
      dsimp only at hm nd hd
      subst hm nd hd
      have es : sl = #[k0, k1, k2, k3, some (.builtin "ValueError.__new__"), k5] := by
        obtain ⟨l⟩ := sl
        simp only at hs
        rw [hs]
      subst es
      exact ⟨nm, qn, nsp, bs, bm, sn, sub, ab, col, dd, k0, k1, k2, k3, k5, ho, rv⟩
    · cases q
  · cases q
/-- what is asked of an own exception class: its name, its fields -/
def xclB (x : Str) (fs : List Str) (K : PySem.W.Frag) : Bool :=
  He.eqO (PySem.W.nsIn K mainGlobals x) (some (some (.ref (He.ga K x)))) && (oexB K (He.ga K x) && (He.eqO (PySem.W.findIn K (.ref (He.ga K x)) "__setattr__") (some (some (.builtin "object.__setattr__"))) &&
  (decide (PySem.W.subIn K (.ref (He.ga K x)) (.type "BaseException") = some true) && (decide (PySem.W.typeIn K (.ref (He.ga K x)) = some (.type "type")) && (PySem.W.keepIn K (.ref (He.ga K x)) &&
  (He.eqO (PySem.W.findIn K (.ref (He.ga K x)) "__init__") (some (some (.ref (He.ma K (He.ga K x) "__init__")))) && (decide (PySem.W.typeIn K (.ref (He.ma K (He.ga K x) "__init__")) = some (.type "function")) &&
  (xfB K (He.ga K x) && fs.all fun f => He.eqO (PySem.W.findIn K (.ref (He.ga K x)) f) (some none)))))))))
structure XclOk (K : PySem.W.Frag) (x : Str) (fs : List Str) : Prop where
  glo : PySem.W.nsIn K mainGlobals x = some (some (.ref (He.ga K x)))
  o : OexC K (He.ga K x)
  init : PySem.W.findIn K (.ref (He.ga K x)) "__init__" = some (some (.ref (He.fAd K (x, some "__init__"))))
  fn : PySem.W.typeIn K (.ref (He.fAd K (x, some "__init__"))) = some (.type "function")
  xf : XfC K (He.ga K x)
  no : ∀ f ∈ fs, PySem.W.findIn K (.ref (He.ga K x)) f = some none
theorem xclB_ok {K : PySem.W.Frag} {x : Str} {fs : List Str} (h : xclB x fs K = true) : XclOk K x fs := by
  unfold xclB at h
  obtain ⟨h1, h⟩ := He.ba h
  obtain ⟨h2, h⟩ := He.ba h
  obtain ⟨h3, h⟩ := He.ba h
  obtain ⟨h4, h⟩ := He.ba h
  obtain ⟨h5, h⟩ := He.ba h
  obtain ⟨h6, h⟩ := He.ba h
  obtain ⟨h7, h⟩ := He.ba h
  obtain ⟨h8, h⟩ := He.ba h
  obtain ⟨h9, h10⟩ := He.ba h
  exact ⟨He.eqO_ok h1, ⟨oexB_ok h2, He.eqO_ok h3, of_decide_eq_true h4, of_decide_eq_true h5, h6⟩, He.eqO_ok h7, of_decide_eq_true h8, xfB_ok h9, fun f hf => He.eqO_ok (List.all_eq_true.mp h10 f hf)⟩
/-- __init__(self, f): self.f = f -/
theorem init1_ok {P : Program} {w : World} {K : PySem.W.Frag} {mg : Str → Option Value} {base : Heap} {qual f : Str} {params : Arguments} {scope : Scope} {fI C : Addr} {fd : FuncData} {p1 p2 p3 p4 : Pos}
    (F : FunD K "__init__" qual params [.Assign [.Attribute (.Name "self" p1) f p2] (.Name f p3) p4] scope [] [] fI fd) (S : FnScope ["self", f] ["self", f] scope) (T : OexC K C) (no : PySem.W.findIn K (.ref C) f = some none) (hd : (f == ("__debug__" : Str)) = false) (hc : (f == ("__classdict__" : Str)) = false) :
    FnOk P w K mg base (L2.CX P w) 1 fI fd ["self", f] (spInit C [f]) := by
  refine F.ok S (fun vs H Q E h => ?_) fun cdv A outer s H vs Q E room h => ⟨tOst K f (tVar 0) (tVar 1), pss_one (ps_ost (pe_var (x := "self") ?_ ?_ ?_) (pe_var (x := f) ?_ ?_ ?_ ?_)), ?_⟩
  · obtain ⟨a, ys, rfl, e, _⟩ := h
    show ys.length + 1 = 2
    rw [e] <;> rfl
  · rfl
  · exact (S.par "self" (by simp)).elim Or.inl fun z => Or.inr (Or.inl z)
  · decide
  · rfl
  · exact (S.par f (by simp)).elim Or.inl fun z => Or.inr (Or.inl z)
  · exact hd
  · exact hc
  · obtain ⟨a, ys, rfl, e, h0, h1⟩ := h
    match ys, e with
    | [y], _ => exact ⟨y, rfl, .ref a, rfl, a, C, rfl, T, no, .inl ⟨h0, fun dx n1 n2 => h1 dx n1 n2⟩⟩

/-! ### the head's facts -/
abbrev FB := PySem.W.Frag → Bool
def obsB (fs : List FB) (fn : List He.DefD) (K : PySem.W.Frag) : He.AlD := ((fs.all fun f => f K) && fn.all fun d => d.ok K, fn.map fun d => He.fnW K d.at_)
def SaysB (fs : List FB) (fn : List He.DefD) (K : PySem.W.Frag) : Prop := obsB fs fn K = He.valD fn
def obsBG (n : Nat) (fs : List FB) (fn : List He.DefD) (g : Addr → Option Obj) : He.AlD := obsB fs fn (He.frG g (sysModules :: He.asD g n))
def hookB (n : Nat) (fs : List FB) (fn : List He.DefD) : PySem.W.Hook where
  α := He.AlD
  obs := fun s => obsBG n fs fn s.heap.get?
  val := fun _ => He.valD fn
  says := fun _ h => ∃ K : PySem.W.Frag, K.In h ∧ SaysB fs fn K
  of := fun _ _ e => ⟨_, He.frG_in, e⟩
  keeps := fun _ _ _ ⟨K, inK, c⟩ k => ⟨K, PySem.W.Frag.In.keeps inK k, c⟩
theorem obsBG_eq {n : Nat} {fs : List FB} {fn : List He.DefD} {g : Addr → Option Obj} {s : Shared} (h : ∀ a, g a = s.heap.get? a) : obsBG n fs fn g = (hookB n fs fn).obs s := by
  have e : g = s.heap.get? := funext fun b => h b
  rw [e] <;> rfl
theorem SaysB.fact {fs : List FB} {fn : List He.DefD} {K : PySem.W.Frag} (c : SaysB fs fn K) (i : Nat) {f : FB} (h : fs[i]? = some f) : f K = true := by
  have c1 := (He.ba (show ((fs.all fun f => f K) && fn.all fun d => d.ok K) = true from congrArg (fun z : He.AlD => z.1) c)).1
  exact (List.all_eq_true.mp c1 f (List.mem_of_getElem? h))
theorem SaysB.defs {fs : List FB} {fn : List He.DefD} {K : PySem.W.Frag} (c : SaysB fs fn K) : He.SaysD [] fn K := by
  have e2 : fn.map (fun d => He.fnW K d.at_) = fn.map He.DefD.val := congrArg (fun z : He.AlD => z.2) c
  have c2 := (He.ba (show ((fs.all fun f => f K) && fn.all fun d => d.ok K) = true from congrArg (fun z : He.AlD => z.1) c)).2
  unfold He.SaysD He.obsD He.valD
  rw [e2, c2] <;> rfl
end DL
set_option maxHeartbeats 4000001
namespace DL
open PySem PySem.Spec
open PyProof.Rows L2

/-! ### calls with keywords -/
def permG {α : Type} (z : α) (p : List Nat) (us ws : List α) : List α := p.map fun i => (us ++ ws).getD i z
theorem vals_getD {vs : List V} {us : List Value} (r : Vals vs us) (i : Nat) : RelV (vs.getD i .non) (us.getD i .none) := by
  cases e : vs[i]? with
  | none =>
    have h := List.getElem?_eq_none_iff.mp e
    have h2 : us[i]? = none := List.getElem?_eq_none_iff.mpr (by rw [← r.length]; exact h)
    rw [List.getD_eq_getElem?_getD, List.getD_eq_getElem?_getD, e, h2]
    rfl
  | some v =>
    obtain ⟨u, h2, h3⟩ := r.get e
    rw [List.getD_eq_getElem?_getD, List.getD_eq_getElem?_getD, e, h2]
    exact h3
theorem vals_perm {vs zs : List V} {us ws : List Value} (r : Vals vs us) (z : Vals zs ws) : ∀ p : List Nat, Vals (permG .non p vs zs) (permG .none p us ws)
  | [] => .nil
  | i :: p => .cons (vals_getD (r.append z) i) (vals_perm r z p)
theorem reps_getD {K : PySem.W.Frag} {G : Hp} {ds : List D} {vs : List V} (r : reps K G ds vs) (i : Nat) : rep K G (ds.getD i .non) (vs.getD i .non) := by
  cases e : ds[i]? with
  | none =>
    have h := List.getElem?_eq_none_iff.mp e
    have h2 : vs[i]? = none := List.getElem?_eq_none_iff.mpr (by rw [reps_length r]; exact h)
    rw [List.getD_eq_getElem?_getD, List.getD_eq_getElem?_getD, e, h2]
    rfl
  | some v =>
    obtain ⟨u, h2, h3⟩ := reps_get r e
    rw [List.getD_eq_getElem?_getD, List.getD_eq_getElem?_getD, e, h2]
    exact h3
theorem reps_perm {K : PySem.W.Frag} {G : Hp} {ds es : List D} {vs zs : List V} (r : reps K G ds vs) (z : reps K G es zs) : ∀ p : List Nat, reps K G (permG .non p ds es) (permG .non p vs zs)
  | [] => rfl
  | i :: p => ⟨_, _, rfl, reps_getD (reps_append r z) i, reps_perm r z p⟩
/-- a def of the module, where it stands, what it does -/
structure DefG (P : Program) (w : World) (K : PySem.W.Frag) (mg : Str → Option Value) (base : Heap) (x : Str) (k : Nat) (st : Stmt) (ps : List Str) (F : FD) : Prop where
  ex : ∃ f fd, mg x = some (.ref f) ∧ FunD K x x (defArgs st) (defBody st) (defScope st) [] [] f fd ∧ Binds K fd ps [] ∧ Dfn P w K mg base k f fd ps F
theorem DefG.imp {P : Program} {w : World} {K : PySem.W.Frag} {mg : Str → Option Value} {base : Heap} {x : Str} {k : Nat} {st : Stmt} {ps : List Str} {F F' : FD} (h : DefG P w K mg base x k st ps F) (hi : ∀ ds M Q Z, ds.length = ps.length → F' ds M Q Z → F ds M Q Z) : DefG P w K mg base x k st ps F' := by
  obtain ⟨f, fd, h1, h2, h3, h4⟩ := h.ex
  exact ⟨f, fd, h1, h2, h3, h4.imp hi⟩
def DK (X : Cx) (W : WX) (kws : List Keyword) (f : DFs) : Prop := ∃ t, PK X kws t ∧ SimA X.K W kws.length t f
section
variable {X : Cx} {W : WX} {x : Str} {p pos kpos : Pos} {e : Expr} {es : List Expr} {kws : List Keyword} {f h : DFs} {fe : DF} {k : Nat} {st : Stmt} {ps : List Str} {F : FD} {nm : Option Str}
theorem dk_nil : DK X W [] dNil := ⟨_, pk_nil, sim_nil⟩
theorem dk_cons (h1 : DE X W e fe) (h2 : DK X W kws f) : DK X W (⟨nm, e, kpos⟩ :: kws) (dCons fe f) := let ⟨_, p1, s1⟩ := h1; let ⟨_, p2, s2⟩ := h2; ⟨_, pk_cons p1 p2, sim_cons s1 s2⟩
theorem d_callG (T : DefG X.prog X.w X.K X.mg X.base x k st ps F) (hr : Room k X.A) (hG : X.A.guards = some []) (tk : Takes X W) (ha : DA X W (e :: es) f) (hl : (e :: es).length = ps.length := by rfl) (hg : Gl X x := by rfl) (hdb : (x == ("__debug__" : Str)) = false := by decide)
    (he : starEach (e :: es) X.env = (false, eval e X.env) :: starEach es X.env := by rfl) (hpl : (backTo pos (starEach es X.env)).any (·.1) = false := by rfl) : DE X W (.Call (.Name x p) (e :: es) [] pos) (dCall F f) := by
  obtain ⟨fa, fd, h1, h2, h3, h4⟩ := T.ex
  exact d_call ⟨fa, fd, h1, h2.kp, h3, h4⟩ hr hG tk ha hl hg hdb he hpl
theorem kbn_perm {K : PySem.W.Frag} {fa : Addr} {fd : FuncData} {ks : List Str} {n : Nat} {perm : List Nat} (T : FunD K x x (defArgs st) (defBody st) (defScope st) [] [] fa fd)
    (hb : ∀ (kV doc pm : Value) (an : Option Addr) (cdv ct : Value) (us ws : List Value), us.length = n → ws.length = ks.length → bindArgs (PySem.W.fnOf x x (defArgs st) (defBody st) (defScope st) .none kV doc pm an cdv ct) ⟨us, ks.zip ws⟩ = pure (ps.zip (permG .none perm us ws))) :
    KBn K fd ps n ks (permG .none perm) (permG .non perm) := by
  obtain ⟨oc, od, dV, kV, doc, pm, an, cdv, ct, osl, rfl, lk, hcd, hD, hK⟩ := T.ex
  obtain ⟨_, rfl⟩ | ⟨e, _⟩ := hD
  · exact ⟨fun s us ws _ l1 l2 => .of_eq (hb kV doc pm an cdv ct us ws l1 l2), fun r1 r2 => vals_perm r1 r2 perm⟩
  · exact absurd rfl e
theorem d_callK0 (ks : List Str) (perm : List Nat) (T : DefG X.prog X.w X.K X.mg X.base x k st ps F) (hr : Room k X.A) (hG : X.A.guards = some []) (tk : Takes X W) (hkw : DK X W kws h)
    (hb : ∀ (kV doc pm : Value) (an : Option Addr) (cdv ct : Value) (us ws : List Value), us.length = 0 → ws.length = ks.length → bindArgs (PySem.W.fnOf x x (defArgs st) (defBody st) (defScope st) .none kV doc pm an cdv ct) ⟨us, ks.zip ws⟩ = pure (ps.zip (permG .none perm us ws)))
    (hk : kws.length = ks.length := by rfl) (hp : perm.length = ps.length := by rfl) (hg : Gl X x := by rfl) (hdb : (x == ("__debug__" : Str)) = false := by decide)
    (hall : (backToKw pos (keywordEach kws X.env)).all (·.1.isSome) = true := by rfl) (hks : (backToKw pos (keywordEach kws X.env)).filterMap (·.1) = ks := by rfl)
    (hpl : ((backTo pos (starEach [] X.env)).any (·.1) || (backToKw pos (keywordEach kws X.env)).any (·.1.isNone)) = false := by rfl) : DE X W (.Call (.Name x p) [] kws pos) (dCallK F (permG .non perm) dNil h) := by
  obtain ⟨fa, fd, h1, h2, h3, h4⟩ := T.ex
  obtain ⟨tk', pk, sk⟩ := hkw
  rw [hk] at sk
  exact ⟨_, pe_gnK0 h4 hr hG h1 h2.kp (kbn_perm h2 hb) tk pk hg hall hks hdb hpl, sim_G (fun G ds es vs zs _ _ r1 r2 => reps_perm r1 r2 perm) (fun vs zs _ _ => by unfold permG; rw [List.length_map]; exact hp) sim_nil sk⟩
theorem d_callK (ks : List Str) (perm : List Nat) (T : DefG X.prog X.w X.K X.mg X.base x k st ps F) (hr : Room k X.A) (hG : X.A.guards = some []) (tk : Takes X W) (ha : DA X W (e :: es) f) (hkw : DK X W kws h)
    (hb : ∀ (kV doc pm : Value) (an : Option Addr) (cdv ct : Value) (us ws : List Value), us.length = (e :: es).length → ws.length = ks.length → bindArgs (PySem.W.fnOf x x (defArgs st) (defBody st) (defScope st) .none kV doc pm an cdv ct) ⟨us, ks.zip ws⟩ = pure (ps.zip (permG .none perm us ws)))
    (hk : kws.length = ks.length := by rfl) (hp : perm.length = ps.length := by rfl) (hg : Gl X x := by rfl) (hdb : (x == ("__debug__" : Str)) = false := by decide)
    (hall : (backToKw pos (keywordEach kws X.env)).all (·.1.isSome) = true := by rfl) (hks : (backToKw pos (keywordEach kws X.env)).filterMap (·.1) = ks := by rfl) (he : starEach (e :: es) X.env = (false, eval e X.env) :: starEach es X.env := by rfl)
    (hpl : ((backTo pos (starEach (e :: es) X.env)).any (·.1) || (backToKw pos (keywordEach kws X.env)).any (·.1.isNone)) = false := by rfl) : DE X W (.Call (.Name x p) (e :: es) kws pos) (dCallK F (permG .non perm) f h) := by
  obtain ⟨fa, fd, h1, h2, h3, h4⟩ := T.ex
  obtain ⟨tk', pk, sk⟩ := hkw
  obtain ⟨ta, pa, sa⟩ := ha
  rw [hk] at sk
  exact ⟨_, pe_gnK h4 hr hG h1 h2.kp (kbn_perm h2 hb) tk pa pk hg hall hks hdb he hpl, sim_G (fun G ds es vs zs _ _ r1 r2 => reps_perm r1 r2 perm) (fun vs zs _ _ => by unfold permG; rw [List.length_map]; exact hp) sa sk⟩
end

/-! ### == and !=: of two numbers, two texts; of trees -/
def rE (K : PySem.W.Frag) (neg : Bool) : R2 := fun x y H Q => (scal x y = true ∧ Q (.bl (if neg then !decide (x = y) else decide (x = y))) H) ∨ rEqP K neg x y H Q
theorem op_E {X : Cx} (S : Sys X.base) (hu : X.A.units + 64 < cLine) : OpR X (compareOp .Eq) (rE X.K false) := fun pins s σ H x y v u Q I rx ry h => h.elim (fun q => op_eq pins s σ H x y v u Q I rx ry q) fun q => op_eqP S hu pins s σ H x y v u Q I rx ry q
theorem op_N {X : Cx} (S : Sys X.base) (hu : X.A.units + 64 < cLine) : OpR X (compareOp .NotEq) (rE X.K true) := fun pins s σ H x y v u Q I rx ry h => h.elim (fun q => op_ne pins s σ H x y v u Q I rx ry q) fun q => op_neP S hu pins s σ H x y v u Q I rx ry q
def gE (neg : Bool) : G2 := fun x y M Q => (∃ a b, x = .v a ∧ y = .v b ∧ scal a b = true ∧ Q (.bl (if neg then !decide (a = b) else decide (a = b))) M) ∨ gEq neg x y M Q
theorem sim_E {K : PySem.W.Frag} {neg : Bool} : Sim2 K (rE K neg) (gE neg) := by
  intro x y u w M H Q P m r1 r2 h k
  rcases h with ⟨a, b, rfl, rfl, e, q⟩ | h
  · cases r1
    cases r2
    exact .inl ⟨e, k _ M _ H q (Stp.refl _ _) m rfl⟩
  · exact .inr (sim_eq x y u w M H Q P m r1 r2 h k)

/-! ### short forms -/
section
variable {X : Cx} {W : WX} {x : Str} {p p2 pos : Pos} {a b c e : Expr} {f g h : DF} {k : Nat} {i : Int} {z : Str}
theorem d_gint (hm : ∃ t, X.mg x = some (.int i t)) (hg : Gl X x := by rfl) (hd : (x == ("__debug__" : Str)) = false := by decide) : DE X W (.Name x pos) (dC (.int i)) := let ⟨t, e⟩ := hm; d_glob (v := .int i) e ⟨t, rfl⟩ (fun _ => rfl) hg hd
theorem d_gstr (hm : ∃ t, X.mg x = some (.str z t)) (hg : Gl X x := by rfl) (hd : (x == ("__debug__" : Str)) = false := by decide) : DE X W (.Name x pos) (dC (.str z)) := let ⟨t, e⟩ := hm; d_glob (v := .str z) e ⟨t, rfl⟩ (fun _ => rfl) hg hd
theorem room64 (hr : Room k X.A) : X.A.units + 64 < cLine := by have := hr.un; omega
theorem room128 (hr : Room k X.A) : X.A.units + 128 < cLine := by have := hr.un; omega
theorem d_eq (S : Sys X.base) (hr : Room k X.A) (h1 : DE X W a f) (h2 : DE X W b g) (hm : behindInMarks .Eq b = false := by first | exact nomark _ | rfl) : DE X W (.Compare a [.Eq] [b] pos) (dOp (gE false) f g) := d_cmp (op_E S (room64 hr)) sim_E h1 h2 hm
theorem d_ne (S : Sys X.base) (hr : Room k X.A) (h1 : DE X W a f) (h2 : DE X W b g) (hm : behindInMarks .NotEq b = false := by first | exact nomark _ | rfl) : DE X W (.Compare a [.NotEq] [b] pos) (dOp (gE true) f g) := d_cmp (op_N S (room64 hr)) sim_E h1 h2 hm
theorem dt_eq (S : Sys X.base) (hr : Room k X.A) (h1 : DE X W a f) (h2 : DE X W b g) (hm : behindInMarks .Eq b = false := by first | exact nomark _ | rfl) : DT X W (.Compare a [.Eq] [b] pos) (dVal (dOp (gE false) f g)) := dt_cmp (op_E S (room64 hr)) sim_E h1 h2 hm
theorem dt_ne (S : Sys X.base) (hr : Room k X.A) (h1 : DE X W a f) (h2 : DE X W b g) (hm : behindInMarks .NotEq b = false := by first | exact nomark _ | rfl) : DT X W (.Compare a [.NotEq] [b] pos) (dVal (dOp (gE true) f g)) := dt_cmp (op_N S (room64 hr)) sim_E h1 h2 hm
theorem dt_lt (h1 : DE X W a f) (h2 : DE X W b g) : DT X W (.Compare a [.Lt] [b] pos) (dVal (dOp (gI0 fun i j => .bl (decide (i < j))) f g)) := dt_cmp op_lt sim_I0 h1 h2
theorem dt_le (h1 : DE X W a f) (h2 : DE X W b g) : DT X W (.Compare a [.LtE] [b] pos) (dVal (dOp (gI0 fun i j => .bl (decide (i ≤ j))) f g)) := dt_cmp op_le sim_I0 h1 h2
theorem dt_gt (h1 : DE X W a f) (h2 : DE X W b g) : DT X W (.Compare a [.Gt] [b] pos) (dVal (dOp (gI0 fun i j => .bl (decide (j < i))) f g)) := dt_cmp op_gt sim_I0 h1 h2
theorem dt_ge (h1 : DE X W a f) (h2 : DE X W b g) : DT X W (.Compare a [.GtE] [b] pos) (dVal (dOp (gI0 fun i j => .bl (decide (j ≤ i))) f g)) := dt_cmp op_ge sim_I0 h1 h2
theorem dt_leLe (h1 : DE X W a f) (h2 : DE X W b g) (h3 : DE X W c h) (hm : lastMarks [.LtE, .LtE] [b, c] = false := by rfl) : DT X W (.Compare a [.LtE, .LtE] [b, c] pos) (dVal (dChain (gI0 fun i j => .bl (decide (i ≤ j))) (gI0 fun i j => .bl (decide (i ≤ j))) f g h)) := dt_chain op_le op_le sim_I0 sim_I0 h1 h2 h3 hm
theorem dt_in (h1 : DE X W a f) (h2 : DE X W b g) (hm : behindInMarks .In b = false := by first | exact nomark _ | rfl) : DT X W (.Compare a [.In] [b] pos) (dVal (dOp (gIn false) f g)) := dt_cmp op_in_seq sim_in h1 h2 hm
theorem dt_nin (h1 : DE X W a f) (h2 : DE X W b g) (hm : behindInMarks .NotIn b = false := by first | exact nomark _ | rfl) : DT X W (.Compare a [.NotIn] [b] pos) (dVal (dOp (gIn true) f g)) := dt_cmp op_notIn_seq sim_in h1 h2 hm
abbrev dOne (f : DF) : DFs := dCons f dNil
theorem da_1 (h1 : DE X W a f) (hs : starEach [a] X.env = (false, eval a X.env) :: starEach [] X.env := by rfl) : DA X W [a] (dOne f) := da_cons h1 da_nil hs
theorem d_len (hm : X.mg "len" = none) (h1 : DE X W a f) (hg : Gl X "len" := by rfl) (hs : starEach [a] X.env = (false, eval a X.env) :: starEach [] X.env := by rfl) : DE X W (.Call (.Name "len" p) [a] [] pos) (dCB gLen (dOne f)) := d_callB call_len sim_len hm rfl (da_1 h1 hs) hg (he := hs)
theorem d_repr (S : Sys X.base) (hG : X.A.guards = some []) (hr : Room k X.A) (hm : X.mg "repr" = none) (h1 : DE X W a f) (hg : Gl X "repr" := by rfl) (hs : starEach [a] X.env = (false, eval a X.env) :: starEach [] X.env := by rfl) : DE X W (.Call (.Name "repr" p) [a] [] pos) (dCB gRepr (dOne f)) := d_callB (call_repr S hG (room128 hr)) sim_repr hm rfl (da_1 h1 hs) hg (he := hs)
theorem d_all (hc : X.calm = true) (hm : X.mg "all" = none) (h1 : DE X W a f) (hg : Gl X "all" := by rfl) (hs : starEach [a] X.env = (false, eval a X.env) :: starEach [] X.env := by rfl) : DE X W (.Call (.Name "all" p) [a] [] pos) (dCB gAll (dOne f)) := d_callB (cr_all hc) sim_all hm rfl (da_1 h1 hs) hg (he := hs)
theorem d_any (hc : X.calm = true) (hm : X.mg "any" = none) (h1 : DE X W a f) (hg : Gl X "any" := by rfl) (hs : starEach [a] X.env = (false, eval a X.env) :: starEach [] X.env := by rfl) : DE X W (.Call (.Name "any" p) [a] [] pos) (dCB gAny (dOne f)) := d_callB (cr_any hc) sim_any hm rfl (da_1 h1 hs) hg (he := hs)
theorem d_sum (hc : X.calm = true) (hm : X.mg "sum" = none) (h1 : DE X W a f) (hg : Gl X "sum" := by rfl) (hs : starEach [a] X.env = (false, eval a X.env) :: starEach [] X.env := by rfl) : DE X W (.Call (.Name "sum" p) [a] [] pos) (dCB gSum (dOne f)) := d_callB (cr_sum hc) sim_sum hm rfl (da_1 h1 hs) hg (he := hs)
theorem d_tupOf (hm : X.mg "tuple" = none) (h1 : DE X W a f) (hg : Gl X "tuple" := by rfl) (hs : starEach [a] X.env = (false, eval a X.env) :: starEach [] X.env := by rfl) : DE X W (.Call (.Name "tuple" p) [a] [] pos) (dCB gTupOf (dOne f)) := d_callTy call_tuple_of sim_tupOf hm rfl (da_1 h1 hs) hg (he := hs)
theorem d_max2 (hc : X.calm = true) (hm : X.mg "max" = none) (h1 : DE X W a f) (h2 : DE X W b g) (hg : Gl X "max" := by rfl) (hs : starEach [a, b] X.env = (false, eval a X.env) :: starEach [b] X.env := by rfl) (hs2 : starEach [b] X.env = (false, eval b X.env) :: starEach [] X.env := by rfl) (hpl : (backTo pos (starEach [b] X.env)).any (·.1) = false := by rfl) :
    DE X W (.Call (.Name "max" p) [a, b] [] pos) (dCB gMax2 (dCons f (dOne g))) := d_callB (call_max2 hc) sim_max2 hm rfl (da_cons h1 (da_1 h2 hs2) hs) hg (by decide) (by decide) hs hpl
theorem d_min2 (hc : X.calm = true) (hm : X.mg "min" = none) (h1 : DE X W a f) (h2 : DE X W b g) (hg : Gl X "min" := by rfl) (hs : starEach [a, b] X.env = (false, eval a X.env) :: starEach [b] X.env := by rfl) (hs2 : starEach [b] X.env = (false, eval b X.env) :: starEach [] X.env := by rfl) (hpl : (backTo pos (starEach [b] X.env)).any (·.1) = false := by rfl) :
    DE X W (.Call (.Name "min" p) [a, b] [] pos) (dCB gMin2 (dCons f (dOne g))) := d_callB (call_min2 hc) sim_min2 hm rfl (da_cons h1 (da_1 h2 hs2) hs) hg (by decide) (by decide) hs hpl
theorem d_isi {y : Str} {n : String} (hm : X.mg "isinstance" = none) (my : X.mg y = none) (vy : bootBuiltins y = some (.type n)) (h1 : DE X W a f) (gy : Gl X y := by rfl) (ny : y ≠ "__name__" := by decide) (dy : (y == ("__debug__" : Str)) = false := by decide) (hg : Gl X "isinstance" := by rfl)
    (hs : starEach [a, .Name y p2] X.env = (false, eval a X.env) :: starEach [.Name y p2] X.env := by rfl) (hs2 : starEach [.Name y p2] X.env = (false, eval (.Name y p2) X.env) :: starEach [] X.env := by rfl) (hpl : (backTo pos (starEach [.Name y p2] X.env)).any (·.1) = false := by rfl) :
    DE X W (.Call (.Name "isinstance" p) [a, .Name y p2] [] pos) (dCB gIsi (dCons f (dOne (dC (.v (.ty n)))))) := d_callB call_isi sim_isi hm rfl (da_cons h1 (da_1 (d_ty my vy gy ny dy) hs2) hs) hg (by decide) (by decide) hs hpl
end
end DL
set_option maxHeartbeats 4000001
namespace DL
open PySem PySem.Spec
open PyProof.Rows L2

/-! ### plain laws of the data layer: loops by an invariant -/
theorem forL_inv {Kp : Mem → Prop} {g : DG} {b : SF} {E : EndsD} (J : Nat → EnvD → Mem → Prop) {ds : List D} (hK : ∀ i env M, J i env M → Kp M)
    (hs : ∀ i d env M (R : EnvD → Mem → Prop), ds[i]? = some d → J i env M → (∀ env' M', J (i + 1) env' M' → R env' M') → g d env M fun env1 M1 => b { E with nx := R, ct := R, bk := E.nx } env1 M1)
    {env : EnvD} {M : Mem} (h0 : J 0 env M) (hq : ∀ env M, J ds.length env M → E.nx env M) : forL Kp g b E ds env M := by
  have key : ∀ (n i : Nat) (env : EnvD) (M : Mem), n = ds.length - i → i ≤ ds.length → J i env M → forL Kp g b E (ds.drop i) env M := by
    intro n
    induction n with
    | zero =>
      intro i env M hn hi hj
      have e : i = ds.length := by omega
      subst e
      rw [List.drop_length]
      exact ⟨hK _ _ _ hj, hq env M hj⟩
    | succ n ih =>
      intro i env M hn hi hj
      have hlt : i < ds.length := by omega
      rw [(List.drop_eq_getElem_cons hlt)]
      exact ⟨hK _ _ _ hj, hs i ds[i] env M _ (by simp [hlt]) hj fun env' M' hj' => ih (i + 1) env' M' (by omega) (by omega) hj'⟩
  exact key _ 0 env M rfl (Nat.zero_le _) h0
theorem compL_inv {Kp : Mem → Prop} {a : Addr} {g : DG} {env : EnvD} {fe : DF} {Q : QD} (J : Nat → List D → Mem → Prop) {ds : List D} (hK : ∀ i acc M, J i acc M → Kp M)
    (hs : ∀ i d acc M (R : D → Mem → Prop), ds[i]? = some d → J i acc M → (∀ v M', (∃ acc', M' a = some (.lst acc') ∧ acc'.length < 1000000 ∧ J (i + 1) (acc' ++ [v]) (mput M' a (.lst (acc' ++ [v])))) → R v M') → g d env M fun env1 M1 => fe env1 M1 R noX)
    {M : Mem} (h0 : J 0 [] M) (hq : ∀ acc M, J ds.length acc M → Q (.ref a) M) : compL Kp a g env dYes fe Q ds M := by
  have key : ∀ (n i : Nat) (acc : List D) (M : Mem), n = ds.length - i → i ≤ ds.length → J i acc M → compL Kp a g env dYes fe Q (ds.drop i) M := by
    intro n
    induction n with
    | zero =>
      intro i acc M hn hi hj
      have e : i = ds.length := by omega
      subst e
      rw [List.drop_length]
      exact ⟨hK _ _ _ hj, hq acc M hj⟩
    | succ n ih =>
      intro i acc M hn hi hj
      have hlt : i < ds.length := by omega
      rw [(List.drop_eq_getElem_cons hlt)]
      refine ⟨hK _ _ _ hj, ?_⟩
      have step := hs i ds[i] acc M (fun y M3 => lstAt M3 a fun acc => acc.length < 1000000 ∧ compL Kp a g env dYes fe Q (ds.drop (i + 1)) (mput M3 a (.lst (acc ++ [y])))) (by simp [hlt]) hj ?_
      · have mono : ∀ {P P' : EnvD → Mem → Prop}, P = P' → g ds[i] env M P → g ds[i] env M P' := fun e h => e ▸ h
        refine mono ?_ step
        funext env1 M1
        refine propext ⟨fun h => ⟨fun _ => h, fun z => by cases z⟩, fun h => h.1 rfl⟩
      · rintro v M' ⟨acc', e1, e2, e3⟩
        unfold lstAt
        rw [e1]
        exact ⟨e2, ih (i + 1) _ _ (by omega) (by omega) e3⟩
  exact key _ 0 [] M rfl (Nat.zero_le _) h0
theorem take_one {α : Type} {ds : List α} {i : Nat} (h : i < ds.length) : ds.take (i + 1) = ds.take i ++ [ds[i]] := by
  first
    | exact List.take_succ_eq_append_getElem h
    | simp [List.take_succ, h]
theorem mput_self {M : Mem} {a : Addr} {o : MO} (h : M a = some o) : mput M a o = M := by
  funext b
  unfold mput
  split
  · rename_i e
    rw [e, h]
  · rfl
/-- [v(x) for x in ..], where an element changes nothing; the new list is not changed any more -/
theorem comp_frz {Kp : Mem → Prop} {g : DG} {env : EnvD} {fe : DF} {Q : QD} {ds : List D} {M : Mem} (v : D → D) (hK : ∀ a l, M a = none → Kp (mput M a (.lst l))) (hz : ds.length < 1000000)
    (he : ∀ (d : D) (a : Addr) (l : List D) (R : D → Mem → Prop), d ∈ ds → M a = none → R (v d) (mput M a (.lst l)) → g d env (mput M a (.lst l)) fun env1 M1 => fe env1 M1 R noX)
    (q : Q (.lst (ds.map v)) M) (a : Addr) (ha : M a = none) : compL Kp a g env dYes fe (fun d M1 => atRef d fun a => lstAt M1 a fun l => Q (.lst l) (mdel M1 a)) ds (mput M a (.lst [])) := by
  refine compL_inv (fun i acc M' => i ≤ ds.length ∧ acc = (ds.take i).map v ∧ M' = mput M a (.lst acc)) ?_ ?_ ⟨Nat.zero_le _, by simp, rfl⟩ ?_
  · rintro i acc M' ⟨_, rfl, rfl⟩
    exact hK a _ ha
  · rintro i d acc M' R hd ⟨hi, rfl, rfl⟩ k
    have hlt : i < ds.length := by
      rcases Nat.lt_or_ge i ds.length with h | h
      · exact h
      · rw [List.getElem?_eq_none h] at hd
        cases hd
    have e : ds[i] = d := by
      rw [List.getElem?_eq_getElem hlt] at hd
      exact Option.some.inj hd
    refine he d a _ R (by rw [← e]; exact List.getElem_mem hlt) ha (k _ _ ⟨_, mput_same, by rw [List.length_map, List.length_take]; omega, by omega, ?_, ?_⟩)
    · rw [take_one hlt, List.map_append, e]
      rfl
    · rw [mput_mput]
  · rintro acc M' ⟨_, rfl, rfl⟩
    show lstAt _ a _
    unfold lstAt
    rw [mput_same, mdel_mput ha, List.take_length]
    exact q
/-- the same, the new list may be changed later -/
theorem comp_mem {Kp : Mem → Prop} {g : DG} {env : EnvD} {fe : DF} {Q : QD} {ds : List D} {M : Mem} (v : D → D) (hK : ∀ a l, M a = none → Kp (mput M a (.lst l))) (hz : ds.length < 1000000)
    (he : ∀ (d : D) (a : Addr) (l : List D) (R : D → Mem → Prop), d ∈ ds → M a = none → R (v d) (mput M a (.lst l)) → g d env (mput M a (.lst l)) fun env1 M1 => fe env1 M1 R noX)
    (q : ∀ a, M a = none → Q (.ref a) (mput M a (.lst (ds.map v)))) (a : Addr) (ha : M a = none) : compL Kp a g env dYes fe Q ds (mput M a (.lst [])) := by
  refine compL_inv (fun i acc M' => i ≤ ds.length ∧ acc = (ds.take i).map v ∧ M' = mput M a (.lst acc)) ?_ ?_ ⟨Nat.zero_le _, by simp, rfl⟩ ?_
  · rintro i acc M' ⟨_, rfl, rfl⟩
    exact hK a _ ha
  · rintro i d acc M' R hd ⟨hi, rfl, rfl⟩ k
    have hlt : i < ds.length := by
      rcases Nat.lt_or_ge i ds.length with h | h
      · exact h
      · rw [List.getElem?_eq_none h] at hd
        cases hd
    have e : ds[i] = d := by
      rw [List.getElem?_eq_getElem hlt] at hd
      exact Option.some.inj hd
    refine he d a _ R (by rw [← e]; exact List.getElem_mem hlt) ha (k _ _ ⟨_, mput_same, by rw [List.length_map, List.length_take]; omega, by omega, ?_, ?_⟩)
    · rw [take_one hlt, List.map_append, e]
      rfl
    · rw [mput_mput]
  · rintro acc M' ⟨_, rfl, rfl⟩
    rw [List.take_length]
    exact q a ha
theorem forL_append {Kp : Mem → Prop} {g : DG} {b : SF} {E : EndsD} : True := trivial

/-! ### what things are -/
theorem tyD_int {M : Mem} {d : D} (h : tyD M d = some "int") : ∃ i, d = .int i := by
  cases d with
  | v x =>
    cases x with
    | int i => exact ⟨i, rfl⟩
    | ref a =>
      simp only [tyD] at h
      split at h <;> simp at h
    | non => simp [tyD] at h
    | bl _ => simp [tyD] at h
    | str _ => simp [tyD] at h
    | byt _ => cases h
    | flt _ => cases h
    | ty _ => cases h
  | lst _ => simp [tyD] at h
  | tup _ => simp [tyD] at h
  | dct _ => simp [tyD] at h
  | exn _ _ _ => cases h
theorem tyD_bool {M : Mem} {d : D} (h : tyD M d = some "bool") : ∃ i, d = .bl i := by
  cases d with
  | v x =>
    cases x with
    | bl i => exact ⟨i, rfl⟩
    | ref a =>
      simp only [tyD] at h
      split at h <;> simp at h
    | non => simp [tyD] at h
    | int _ => simp [tyD] at h
    | str _ => simp [tyD] at h
    | byt _ => cases h
    | flt _ => cases h
    | ty _ => cases h
  | lst _ => simp [tyD] at h
  | tup _ => simp [tyD] at h
  | dct _ => simp [tyD] at h
  | exn _ _ _ => cases h
theorem tyD_seq {M : Mem} {d : D} {t : String} (h : tyD M d = some t) : (seqD M d).isSome = (t == "list" || t == "tuple") := by
  cases d with
  | v x =>
    cases x with
    | ref a =>
      simp only [tyD] at h
      simp only [seqD]
      split at h
      · rename_i e
        obtain rfl := Option.some.inj h
        rw [e]
        simp
      · rename_i e
        obtain rfl := Option.some.inj h
        rw [e]
        simp
      · cases h
    | byt _ => cases h
    | flt _ => cases h
    | ty _ => cases h
    | _ =>
      simp only [tyD, Option.some.injEq] at h
      subst h
      simp [seqD]
  | exn _ _ _ => cases h
  | _ =>
    simp only [tyD, Option.some.injEq] at h
    subst h
    simp [seqD]
theorem seq_tyD {M : Mem} {d : D} {b : Bool} {l : List D} (h : seqD M d = some (b, l)) : tyD M d = some (if b then "list" else "tuple") := by
  cases d with
  | v x =>
    cases x with
    | ref a =>
      simp only [seqD] at h
      split at h
      · rename_i e
        cases h
        simp only [tyD, e]
        rfl
      · cases h
    | _ => cases h
  | lst _ => cases h; rfl
  | tup _ => cases h; rfl
  | dct _ => cases h
  | exn _ _ _ => cases h

/-! ### short steps -/
theorem by2 {b : Bool} {A B : Prop} (h : b = true → A) (k : b = false → B) : bsel b A B := ⟨h, k⟩
theorem byT {b : Bool} {A B : Prop} (e : b = true) (h : A) : bsel b A B := ⟨fun _ => h, fun z => (by rw [e] at z; cases z)⟩
theorem byF {b : Bool} {A B : Prop} (e : b = false) (h : B) : bsel b A B := ⟨fun z => (by rw [e] at z; cases z), fun _ => h⟩
theorem selT {A B : Prop} : bsel true A B = A := propext ⟨fun h => h.1 rfl, fun h => ⟨fun _ => h, fun z => (by cases z)⟩⟩
theorem selF {A B : Prop} : bsel false A B = B := propext ⟨fun h => h.2 rfl, fun h => ⟨fun z => (by cases z), fun _ => h⟩⟩
section
variable {x y z u : D}
theorem at10 : atI [x] 0 = some x := rfl
theorem at20 : atI [x, y] 0 = some x := rfl
theorem at21 : atI [x, y] 1 = some y := rfl
theorem at30 : atI [x, y, z] 0 = some x := rfl
theorem at31 : atI [x, y, z] 1 = some y := rfl
theorem at32 : atI [x, y, z] 2 = some z := rfl
theorem at40 : atI [x, y, z, u] 0 = some x := rfl
theorem at41 : atI [x, y, z, u] 1 = some y := rfl
theorem at42 : atI [x, y, z, u] 2 = some z := rfl
theorem at43 : atI [x, y, z, u] 3 = some u := rfl
theorem ix30 : ixN 3 0 = some 0 := rfl
theorem ix31 : ixN 3 1 = some 1 := rfl
theorem ix32 : ixN 3 2 = some 2 := rfl
end
theorem max2_is {i j : Int} {M : Mem} {Q : QD} : gMax2 [.int i, .int j] M Q = Q (.int (if j > i then j else i)) M := propext ⟨fun h => by
  obtain ⟨a, b, e, q⟩ := h
  cases e
  exact q, fun q => ⟨i, j, rfl, q⟩⟩
theorem min2_is {i j : Int} {M : Mem} {Q : QD} : gMin2 [.int i, .int j] M Q = Q (.int (if j < i then j else i)) M := propext ⟨fun h => by
  obtain ⟨a, b, e, q⟩ := h
  cases e
  exact q, fun q => ⟨i, j, rfl, q⟩⟩
theorem at_nat {l : List D} {n : Nat} (h : n < l.length) : atI l (n : Int) = l[n]? := by
  unfold atI ixN
  rw [(if_pos (by omega)), if_pos (by omega)]
  simp
theorem at_int {l : List D} {i : Int} (h0 : 0 ≤ i) (h : i < l.length) : ∃ d, atI l i = some d ∧ l[i.toNat]? = some d := by
  obtain ⟨n, rfl⟩ : ∃ n : Nat, i = n := ⟨i.toNat, by omega⟩
  have h2 : n < l.length := by omega
  refine ⟨l[n], ?_, by simp [h2]⟩
  rw [at_nat h2]
  simp [h2]

/-! ### a purse -/
/-- at a: a purse of which at most n draws were made behind its digits -/
def Pu (M : Mem) (a : Addr) (n : Int) : Prop := ∃ x y z : Int, M a = some (.lst [.int x, .int y, .int z]) ∧ 0 ≤ x ∧ 0 ≤ y ∧ y < 2147483629 ∧ 0 ≤ z ∧ z ≤ n
theorem Pu.le {M : Mem} {a : Addr} {m n : Int} (h : Pu M a m) (hl : m ≤ n) : Pu M a n := let ⟨x, y, z, e, h1, h2, h3, h4, h5⟩ := h; ⟨x, y, z, e, h1, h2, h3, h4, by omega⟩
theorem Pu.at {M M' : Mem} {a : Addr} {n : Int} (h : Pu M a n) (e : M' a = M a) : Pu M' a n := let ⟨x, y, z, q, r⟩ := h; ⟨x, y, z, e.trans q, r⟩
theorem Pu.ne {M : Mem} {a : Addr} {n : Int} (h : Pu M a n) : M a ≠ none := by
  obtain ⟨_, _, _, e, _⟩ := h
  rw [e]
  simp
/-- nothing but a's has changed -/
def But (a : Addr) (M M' : Mem) : Prop := ∀ b, b ≠ a → M' b = M b
theorem But.refl (a : Addr) (M : Mem) : But a M M := fun _ _ => rfl
theorem But.trans {a : Addr} {M M1 M2 : Mem} (h : But a M M1) (k : But a M1 M2) : But a M M2 := fun b hb => (k b hb).trans (h b hb)
theorem But.put {a : Addr} {M : Mem} {o : MO} : But a M (mput M a o) := fun _ hb => mput_ne hb
theorem But.mput {a b : Addr} {M M' : Mem} {o : MO} (h : But a M M') (hb : b ≠ a) : But a (mput M b o) (DL.mput M' b o) := fun c hc => by
  by_cases e : c = b
  · rw [e, mput_same, mput_same]
  · rw [mput_ne e, mput_ne e, h c hc]
end DL
set_option maxHeartbeats 4000001
namespace DL
open PySem PySem.Spec
open PyProof.Rows L2

/-! ### texts of things: never too long -/
structure Tame (b k : Nat) (p : PyData) : Prop where
  sh : p.showable = true
  lv : p.leavesShort 40 = true
  bk : p.bulk ≤ b
  dp : p.depth ≤ k
theorem Tame.mono {b k c l : Nat} {p : PyData} (h : Tame b k p) (h1 : b ≤ c) (h2 : k ≤ l) : Tame c l p := ⟨h.sh, h.lv, Nat.le_trans h.bk h1, Nat.le_trans h.dp h2⟩
theorem Tame.len {b k : Nat} {p : PyData} (h : Tame b k p) (hb : b ≤ 100000) : p.shown.length ≤ sizeLine := by
  have h1 := PyData.shown_le_bulk 40 (by decide) p h.lv
  have h2 := h.bk
  rw [sizeLine_eq]
  omega
theorem Tame.all {b k : Nat} : ∀ {xs : List PyData}, (∀ x ∈ xs, Tame b k x) → PyData.showableAll xs = true ∧ PyData.leavesShortAll 40 xs = true ∧ PyData.bulkAll xs ≤ xs.length * (b + 1) ∧ PyData.depthAll xs ≤ k
  | [], _ => ⟨rfl, rfl, Nat.zero_le _, Nat.zero_le _⟩
  | x :: xs, h => by
    obtain ⟨h1, h2, h3, h4⟩ := Tame.all (xs := xs) fun y hy => h y (List.mem_cons_of_mem _ hy)
    have t := h x List.mem_cons_self
    have t3 := t.bk
    have t4 := t.dp
    refine ⟨by simp only [PyData.showableAll, t.sh, h1, Bool.and_self], by simp only [PyData.leavesShortAll, t.lv, h2, Bool.and_self], ?_, ?_⟩
    · simp only [PyData.bulkAll, List.length_cons]
      rw [Nat.add_mul]
      omega
    · simp only [PyData.depthAll]
      omega
theorem Tame.list {b k : Nat} {xs : List PyData} (h : ∀ x ∈ xs, Tame b k x) : Tame (xs.length * (b + 1)) (k + 1) (.list xs) := by
  obtain ⟨h1, h2, h3, h4⟩ := Tame.all h
  exact ⟨by simpa only [PyData.showable] using h1, by simpa only [PyData.leavesShort] using h2, by simpa only [PyData.bulk] using h3, by simpa only [PyData.depth] using Nat.succ_le_succ h4⟩
theorem Tame.tuple {b k : Nat} {xs : List PyData} (h : ∀ x ∈ xs, Tame b k x) : Tame (xs.length * (b + 1)) (k + 1) (.tuple xs) := by
  obtain ⟨h1, h2, h3, h4⟩ := Tame.all h
  exact ⟨by simpa only [PyData.showable] using h1, by simpa only [PyData.leavesShort] using h2, by simpa only [PyData.bulk] using h3, by simpa only [PyData.depth] using Nat.succ_le_succ h4⟩
theorem Tame.int {i : Int} (h1 : -999999999999 ≤ i) (h2 : i ≤ 999999999999) : Tame 0 0 (.int i) := by
  refine ⟨?_, ?_, Nat.le_refl _, Nat.le_refl _⟩
  · simp only [PyData.showable, decide_eq_true_eq]
    by_cases h0 : i.natAbs = 0
    · rw [h0]
      decide
    · refine (Nat.log2_lt h0).mpr (Nat.lt_trans (show i.natAbs < 2 ^ 40 by omega) (Nat.pow_lt_pow_right (by decide) (by decide)))
  · have h := PyData.shown_int_le2 h1 h2
    simp only [PyData.leavesShort, decide_eq_true_eq]
    omega
theorem Tame.non : Tame 0 0 .none := ⟨rfl, rfl, Nat.le_refl _, Nat.le_refl _⟩
theorem Tame.bool {b : Bool} : Tame 0 0 (.bool b) := ⟨rfl, rfl, Nat.le_refl _, Nat.le_refl _⟩
theorem Tame.dict0 : Tame 0 1 (.dict []) := ⟨by decide, by decide, by decide, by decide⟩
theorem repr_is {M : Mem} {d : D} {p : PyData} {b k : Nat} {Q : QD} (h : pdM M d = some p) (t : Tame b k p) (hb : b ≤ 100000) (hk : k ≤ 100) (q : Q (.str p.shown) M) : gRepr [d] M Q := ⟨p, h, t.sh, t.len hb, Nat.le_trans t.dp hk, q⟩
theorem eq_str {x y : Str} {M : Mem} {Q : QD} (q : Q (.bl (decide (x = y))) M) : gE false (.str x) (.str y) M Q := .inl ⟨_, _, rfl, rfl, rfl, by
  have e : decide (V.str x = V.str y) = decide (x = y) := by simp
  simpa [e] using q⟩
theorem ne_str {x y : Str} {M : Mem} {Q : QD} (q : Q (.bl (!decide (x = y))) M) : gE true (.str x) (.str y) M Q := .inl ⟨_, _, rfl, rfl, rfl, by
  have e : decide (V.str x = V.str y) = decide (x = y) := by simp
  simpa [e] using q⟩
theorem eq_int' {x y : Int} {M : Mem} {Q : QD} (q : Q (.bl (decide (x = y))) M) : gE false (.int x) (.int y) M Q := .inl ⟨_, _, rfl, rfl, rfl, by
  have e : decide (V.int x = V.int y) = decide (x = y) := by simp
  simpa [e] using q⟩
theorem ne_int' {x y : Int} {M : Mem} {Q : QD} (q : Q (.bl (!decide (x = y))) M) : gE true (.int x) (.int y) M Q := .inl ⟨_, _, rfl, rfl, rfl, by
  have e : decide (V.int x = V.int y) = decide (x = y) := by simp
  simpa [e] using q⟩
theorem ne_tree {x y : D} {p q : PyData} {M : Mem} {Q : QD} (h1 : pdM M x = some p) (h2 : pdM M y = some q) (s1 : SeqAt.shaped p = true) (s2 : SeqAt.shaped q = true) (h : Q (.bl (!PyData.eqv p q)) M) : gE true x y M Q := .inr ⟨p, q, h1, h2, s1, s2, h⟩
theorem eq_tree {x y : D} {p q : PyData} {M : Mem} {Q : QD} (h1 : pdM M x = some p) (h2 : pdM M y = some q) (s1 : SeqAt.shaped p = true) (s2 : SeqAt.shaped q = true) (h : Q (.bl (PyData.eqv p q)) M) : gE false x y M Q := .inr ⟨p, q, h1, h2, s1, s2, h⟩

/-! ### a thing: a tree that does not change, or a list of such that may change -/
inductive Val (M : Mem) : D → PyData → Prop
  | tree {p : PyData} (h : plainP p = true) : Val M (ofP p) p
  | mem {a : Addr} {ps : List PyData} (h : M a = some (.lst (ofPs ps))) (hp : plainPs ps = true) : Val M (.ref a) (.list ps)
def tyP : PyData → String
  | .none => "NoneType"
  | .bool _ => "bool"
  | .int _ => "int"
  | .str _ => "str"
  | .list _ => "list"
  | .tuple _ => "tuple"
  | .dict _ => "dict"
theorem Val.pd {M : Mem} {d : D} {p : PyData} (h : Val M d p) : pdM M d = some p := by
  cases h with
  | tree h => exact pdM_ofP h
  | mem h hp =>
    show resM M 3 _ = _
    unfold resM
    rw [h]
    show (match pdsW (resM M 2) (ofPs _) with | some ps => some (PyData.list ps) | none => none) = _
    rw [pdsW_ofPs _ _ hp]
theorem Val.pair {M : Mem} {d : D} {p : PyData} {s : Str} (h : Val M d p) : pdM M (.lst [.str s, d]) = some (.list [.str s, p]) := by
  have e := h.pd
  unfold pdM at e ⊢
  simp only [pdW, pdsW, e]
theorem Val.ty {M : Mem} {d : D} {p : PyData} (h : Val M d p) : tyD M d = some (tyP p) := by
  cases h with
  | tree h => cases p <;> rfl
  | mem h hp =>
    simp only [tyD, h]
    rfl
theorem Val.seq {M : Mem} {d : D} {p : PyData} {ps : List PyData} (h : Val M d p) (e : p = .list ps ∨ p = .tuple ps) : ∃ b, seqD M d = some (b, ofPs ps) ∧ plainPs ps = true := by
  cases h with
  | tree h =>
    rcases e with rfl | rfl
    · exact ⟨true, rfl, by simpa only [plainP] using h⟩
    · exact ⟨false, rfl, by simpa only [plainP] using h⟩
  | mem h hp =>
    rcases e with e | e
    · cases e
      refine ⟨true, ?_, hp⟩
      simp only [seqD, h]
    · cases e
theorem ofPs_mem {d : D} : ∀ {ps : List PyData}, plainPs ps = true → d ∈ ofPs ps → ∃ p, p ∈ ps ∧ d = ofP p ∧ plainP p = true
  | [], _, h => by cases h
  | p :: ps, hp, h => by
    simp only [plainPs, Bool.and_eq_true] at hp
    obtain rfl | h := List.mem_cons.mp h
    · exact ⟨p, List.mem_cons_self, rfl, hp.1⟩
    · obtain ⟨q, h1, h2, h3⟩ := ofPs_mem hp.2 h
      exact ⟨q, List.mem_cons_of_mem _ h1, h2, h3⟩
theorem ofPs_length : ∀ ps : List PyData, (ofPs ps).length = ps.length
  | [] => rfl
  | _ :: ps => congrArg Nat.succ (ofPs_length ps)
theorem ofPs_append : ∀ ps qs : List PyData, ofPs (ps ++ qs) = ofPs ps ++ ofPs qs
  | [], _ => rfl
  | p :: ps, qs => congrArg (ofP p :: ·) (ofPs_append ps qs)
theorem ofPs_ints : ∀ ns : List Int, ofPs (ns.map .int) = ns.map D.int
  | [] => rfl
  | n :: ns => congrArg (D.int n :: ·) (ofPs_ints ns)
theorem plain_ints : ∀ ns : List Int, plainPs (ns.map .int) = true
  | [] => rfl
  | n :: ns => plain_ints ns
theorem plain_append : ∀ {ps qs : List PyData}, plainPs ps = true → plainPs qs = true → plainPs (ps ++ qs) = true
  | [], _, _, h => h
  | p :: ps, qs, h, k => by
    simp only [plainPs, Bool.and_eq_true] at h
    simp only [List.cons_append, plainPs, h.1, plain_append h.2 k, Bool.and_self]
theorem layInts : ∀ ns : List Int, PyData.canLayAll0 (ns.map .int) = true
  | [] => rfl
  | n :: ns => by
    simp only [List.map_cons, PyData.canLayAll0, PyData.canLay0, layInts ns, Bool.and_self]
theorem depInts : ∀ ns : List Int, PyData.depthAll (ns.map .int) = 0
  | [] => rfl
  | n :: ns => by
    simp only [List.map_cons, PyData.depthAll, PyData.depth, depInts ns, Nat.max_self]
theorem shaped_ints (ns : List Int) : SeqAt.shaped (.list (ns.map .int)) = true := by
  unfold SeqAt.shaped
  simp only [PyData.canLay0, layInts, PyData.depth, depInts]
  decide
theorem shaped_eqv {p : PyData} (h : SeqAt.shaped p = true) : PyData.eqv p p = true := SeqAt.eqv_refl p (SeqAt.canLay_of_shaped h)
/-- a whole number from lo to hi, no truth -/
def wholeD (d : D) (lo hi : Int) : Bool := match d with
  | .v (.int i) => decide (lo ≤ i) && decide (i ≤ hi)
  | _ => false
end DL
set_option maxHeartbeats 4000001
namespace DL
open PySem PySem.Spec
open PyProof.Rows L2

/-! ### the steps as equations (by propext, so that the kernel need not unfold along) -/
/-- [..], not changed any more -/
def cFrz (Kp : Mem → Prop) (g : DG) (env : EnvD) (ft : DFt) (fe : DF) (Q : QD) (ds : List D) (M : Mem) : Prop := ∀ n, M n = none → compL Kp n g env ft fe (fun d M1 => atRef d fun a => lstAt M1 a fun l => Q (.lst l) (mdel M1 a)) ds (mput M n (.lst []))
theorem cFrz_inv {Kp : Mem → Prop} {g : DG} {env : EnvD} {fe : DF} {Q : QD} {ds : List D} {M : Mem} (J : Nat → List D → Mem → Prop) (hK : ∀ i acc M', J i acc M' → Kp M')
    (hs : ∀ n, M n = none → ∀ i d acc M' (R : D → Mem → Prop), ds[i]? = some d → M' n = some (.lst acc) → acc.length = i → J i acc M' → (∀ v M2, M2 n = some (.lst acc) → J (i + 1) (acc ++ [v]) (mput M2 n (.lst (acc ++ [v]))) → R v M2) → g d env M' fun env1 M1 => fe env1 M1 R noX)
    (hz : ds.length < 1000000) (h0 : ∀ n, M n = none → J 0 [] (mput M n (.lst []))) (hq : ∀ n acc M', M n = none → J ds.length acc M' → acc.length = ds.length → Q (.lst acc) (mdel M' n)) : cFrz Kp g env dYes fe Q ds M := by
  intro n hn
  refine compL_inv (fun i acc M' => M' n = some (.lst acc) ∧ acc.length = i ∧ J i acc M') (fun i acc M' h => hK i acc M' h.2.2) ?_ ⟨mput_same, rfl, h0 n hn⟩ ?_
  · rintro i d acc M' R hd ⟨e1, e2, e3⟩ k
    refine hs n hn i d acc M' R hd e1 e2 e3 fun v M2 h1 h2 => k v M2 ⟨acc, h1, ?_, mput_same, by simp [e2], h2⟩
    have hi : i < ds.length := by
      rcases Nat.lt_or_ge i ds.length with z | z
      · exact z
      · rw [List.getElem?_eq_none z] at hd
        cases hd
    omega
  · rintro acc M' ⟨e1, e2, e3⟩
    show lstAt M' n _
    unfold lstAt
    rw [e1]
    exact hq n acc M' hn e3 e2
theorem cFrz_of {Kp : Mem → Prop} {g : DG} {env : EnvD} {fe : DF} {Q : QD} {ds : List D} {M : Mem} (v : D → D) (hK : ∀ a l, M a = none → Kp (mput M a (.lst l))) (hz : ds.length < 1000000)
    (he : ∀ (d : D) (a : Addr) (l : List D) (R : D → Mem → Prop), d ∈ ds → M a = none → R (v d) (mput M a (.lst l)) → g d env (mput M a (.lst l)) fun env1 M1 => fe env1 M1 R noX)
    (q : Q (.lst (ds.map v)) M) : cFrz Kp g env dYes fe Q ds M := comp_frz v hK hz he q
section
variable {f g : SF} {a b c : DF} {fs hs : DFs} {p q : DFt} {o o2 : G2} {E : EndsD} {env : EnvD} {M : Mem} {Q : QD} {QA : List D → Mem → Prop} {QT : Bool → Mem → Prop} {X : XD} {i j : Nat} {d x y : D} {k l : Int} {dg : DG} {F : FD} {gc : GC} {fi : DFi}
theorem n_seq : sSeq f g E env M = f { E with nx := g E } env M := propext Iff.rfl
theorem n_next : sNext E env M = E.nx env M := propext Iff.rfl
theorem n_sif : sIf p f g E env M = p env M (fun b M1 => bsel b (f E env M1) (g E env M1)) (fun xn M1 => E.ex xn env M1) := propext Iff.rfl
theorem n_ret : sRet a E env M = a env M E.rt (fun xn M1 => E.ex xn env M1) := propext Iff.rfl
theorem n_retN : sRetN E env M = E.rt .non M := propext Iff.rfl
theorem n_asg : sAsg a dg E env M = a env M (fun d M1 => dg d env M1 E.nx) (fun xn M1 => E.ex xn env M1) := propext Iff.rfl
theorem n_drop : sDrop a E env M = a env M (fun _ M1 => E.nx env M1) (fun xn M1 => E.ex xn env M1) := propext Iff.rfl
theorem n_raise {C : Addr} {ns : List Str} : sRaise C ns fs E env M = fs env M (fun ds M1 => E.ex ⟨.ref C, (ns.zip ds).reverse⟩ env M1) (fun xn M1 => E.ex xn env M1) := propext Iff.rfl
theorem n_for : sFor fi dg f E env M = fi env M (fun ds Kp M1 => forL Kp dg f E ds env M1) (fun xn M1 => E.ex xn env M1) := propext Iff.rfl
theorem n_try {K : PySem.W.Frag} {cl : ClD} : sTry K f cl E env M = f { E with ex := xCl K E cl } env M := propext Iff.rfl
theorem n_nm {P : EnvD → Mem → Prop} : gNm i d env M P = P (env.set i (some d)) M := propext Iff.rfl
theorem n_var0 {e : EnvD} : dVar 0 (some d :: e) M Q X = Q d M := propext Iff.rfl
theorem n_varS {e : EnvD} {u : Option D} : dVar (i + 1) (u :: e) M Q X = dVar i e M Q X := by
  unfold dVar
  rw [List.getElem?_cons_succ]
theorem n_c : dC d env M Q X = Q d M := propext Iff.rfl
theorem n_op : dOp o a b env M Q X = a env M (fun x M1 => b env M1 (fun y M2 => o x y M2 Q) X) X := propext Iff.rfl
theorem n_cb : dCB gc fs env M Q X = fs env M (fun xs M1 => gc xs M1 Q) X := propext Iff.rfl
theorem n_nil : dNil env M QA X = QA [] M := propext Iff.rfl
theorem n_cons : dCons a fs env M QA X = a env M (fun d M1 => fs env M1 (fun ds M2 => QA (d :: ds) M2) X) X := propext Iff.rfl
theorem n_tup : dTup fs env M Q X = fs env M (fun ds M1 => ds.length ≤ 1000 ∧ Q (.tup ds) M1) X := propext Iff.rfl
theorem n_lstF : dLstF fs env M Q X = fs env M (fun ds M1 => ds.length ≤ 1000 ∧ Q (.lst ds) M1) X := propext Iff.rfl
theorem n_lst : dLst fs env M Q X = fs env M (fun ds M1 => ds.length ≤ 1000 ∧ ∀ a, M1 a = none → Q (.ref a) (mput M1 a (.lst ds))) X := propext Iff.rfl
theorem n_val : dVal a env M QT X = a env M (fun x M1 => asB x fun k => QT k M1) X := propext Iff.rfl
theorem n_notT : dNotT p env M QT X = p env M (fun k M1 => QT (!k) M1) X := propext Iff.rfl
theorem n_andT : dAndT p q env M QT X = p env M (fun k M1 => bsel k (q env M1 QT X) (QT false M1)) X := propext Iff.rfl
theorem n_orT : dOrT p q env M QT X = p env M (fun k M1 => bsel k (QT true M1) (q env M1 QT X)) X := propext Iff.rfl
theorem n_and : dAnd a b env M Q X = a env M (fun x M1 => asB x fun k => bsel k (b env M1 Q X) (Q (.bl false) M1)) X := propext Iff.rfl
theorem n_or : dOr a b env M Q X = a env M (fun x M1 => asB x fun k => bsel k (Q (.bl true) M1) (b env M1 Q X)) X := propext Iff.rfl
theorem n_not : dNot a env M Q X = a env M (fun x M1 => asB x fun k => Q (.bl (!k)) M1) X := propext Iff.rfl
theorem n_dif : dIf p a b env M Q X = p env M (fun k M1 => bsel k (a env M1 Q X) (b env M1 Q X)) X := propext Iff.rfl
theorem n_chain : dChain o o2 a b c env M Q X = a env M (fun x M1 => b env M1 (fun y M2 => o x y M2 (fun z M3 => asB z fun k => bsel k (c env M3 (fun w M4 => o2 y w M4 Q) X) (Q (.bl false) M3))) X) X := propext Iff.rfl
theorem n_neg : dNeg a env M Q X = a env M (fun d M1 => asI d fun i => Q (.int (-i)) M1) X := propext Iff.rfl
theorem n_dct0 : dDct0 env M Q X = Q (.dct []) M := propext Iff.rfl
theorem n_call : dCall F fs env M Q X = fs env M (fun ds M1 => F ds M1 Q X) X := propext Iff.rfl
theorem n_callK {gD : List D → List D → List D} : dCallK F gD fs hs env M Q X = fs env M (fun ds M1 => hs env M1 (fun es M2 => F (gD ds es) M2 Q X) X) X := propext Iff.rfl
theorem n_frz : dFrz a env M Q X = a env M (fun d M1 => atRef d fun a => lstAt M1 a fun l => Q (.lst l) (mdel M1 a)) X := propext Iff.rfl
theorem n_frzV : dFrz (dVar i) env M Q X = dVar i env M (fun d M1 => atRef d fun a => lstAt M1 a fun l => Q (.lst l) (mdel M1 a)) X := propext Iff.rfl
theorem n_frzC : dFrz (dCall F fs) env M Q X = dCall F fs env M (fun d M1 => atRef d fun a => lstAt M1 a fun l => Q (.lst l) (mdel M1 a)) X := propext Iff.rfl
theorem n_frzK {gD : List D → List D → List D} : dFrz (dCallK F gD fs hs) env M Q X = dCallK F gD fs hs env M (fun d M1 => atRef d fun a => lstAt M1 a fun l => Q (.lst l) (mdel M1 a)) X := propext Iff.rfl
theorem n_frzL {vs : List Nat} : dFrz (dLc fi dg vs p a) env M Q X = fi env M (fun ds Kp M1 => cFrz Kp dg (wipeD env vs) p a Q ds M1) X := propext Iff.rfl
theorem n_app : dApp a b env M Q X = a env M (fun o M1 => atRef o fun a => lstAt M1 a fun _ => b env M1 (fun d M2 => lstAt M2 a fun l => l.length < 1000000 ∧ Q .non (mput M2 a (.lst (l ++ [d])))) X) X := propext Iff.rfl
theorem n_pop : dPop a env M Q X = a env M (fun o M1 => atRef o fun a => lstAt M1 a fun l => ∃ d, l[l.length - 1]? = some d ∧ Q d (mput M1 a (.lst l.dropLast))) X := propext Iff.rfl
theorem n_sub {P : EnvD → Mem → Prop} : gSubD a b d env M P = a env M (fun o M1 => b env M1 (fun i M2 => atRef o fun a => asI i fun k => lstAt M2 a fun l => ∃ j, ixN l.length k = some j ∧ P env (mput M2 a (.lst (l.set j d)))) noX) noX := propext Iff.rfl
theorem n_lc {vs : List Nat} : dLc fi dg vs p a env M Q X = fi env M (fun ds Kp M1 => ∀ n, M1 n = none → compL Kp n dg (wipeD env vs) p a Q ds (mput M1 n (.lst []))) X := propext Iff.rfl
theorem n_iRg {R : List D → (Mem → Prop) → Mem → Prop} : iRg a env M R X = a env M (fun d M1 => asI d fun n => (-(2 ^ 62) ≤ n ∧ n < 2 ^ 62) ∧ R (rangeD n) (fun _ => True) M1) X := propext Iff.rfl
theorem n_iSq {R : List D → (Mem → Prop) → Mem → Prop} : iSq a env M R X = a env M (fun d M1 => match seqD M1 d with
  | some (_, l) => R l (keepOf M1 d) M1
  | none => False) X := propext Iff.rfl
theorem n_bl {k : Bool} {P : Bool → Prop} : asB (.v (.bl k)) P = P k := propext Iff.rfl
theorem n_int {P : Int → Prop} : asI (.v (.int k)) P = P k := propext Iff.rfl
theorem n_ref {n : Addr} {P : Addr → Prop} : atRef (.v (.ref n)) P = P n := propext Iff.rfl
theorem n_gI {C : Int → Int → Prop} {h : Int → Int → V} : gI C h (.v (.int k)) (.v (.int l)) M Q = (C k l ∧ Q (.v (h k l)) M) := propext Iff.rfl
theorem n_gI0 {h : Int → Int → V} : gI0 h (.v (.int k)) (.v (.int l)) M Q = Q (.v (h k l)) M := propext Iff.rfl
theorem n_ixL {u : List D} : gIx (.lst u) (.v (.int k)) M Q = ∃ d, atI u k = some d ∧ Q d M := propext Iff.rfl
theorem n_ixT {u : List D} : gIx (.tup u) (.v (.int k)) M Q = ∃ d, atI u k = some d ∧ Q d M := propext Iff.rfl
theorem n_ixR {n : Addr} {u : List D} (h : M n = some (.lst u)) : gIx (.v (.ref n)) (.v (.int k)) M Q = ∃ d, atI u k = some d ∧ Q d M := by
  unfold gIx
  simp only [seqD, h]
theorem n_ixP {n : Addr} {u : List D} : gIx (.v (.ref n)) (.v (.int k)) (mput M n (.lst u)) Q = ∃ d, atI u k = some d ∧ Q d (mput M n (.lst u)) := n_ixR mput_same
theorem n_lenL {u : List D} : gLen [.lst u] M Q = Q (.int u.length) M := propext Iff.rfl
theorem n_lenT {u : List D} : gLen [.tup u] M Q = Q (.int u.length) M := propext Iff.rfl
theorem n_lenR {n : Addr} {u : List D} (h : M n = some (.lst u)) : gLen [.v (.ref n)] M Q = Q (.int u.length) M := by
  unfold gLen
  simp only [seqD, h]
theorem n_lenS {b : Bool} {u : List D} (h : seqD M x = some (b, u)) : gLen [x] M Q = Q (.int u.length) M := by
  unfold gLen
  simp only [h]
theorem n_isi2 {c1 c2 : String} {t : String} (h : tyD M x = some t) : (match tyD M x with | some t => Q (.bl (isiB t c1 || isiB t c2)) M | none => False) = Q (.bl (isiB t c1 || isiB t c2)) M := by
  rw [h]
theorem n_dIsi2 {c1 c2 : String} : dIsi2 c1 c2 a env M Q X = a env M (fun x M1 => match tyD M1 x with
  | some t => Q (.bl (isiB t c1 || isiB t c2)) M1
  | none => False) X := propext Iff.rfl
theorem n_iEn {R : List D → (Mem → Prop) → Mem → Prop} : iEn a env M R X = a env M (fun d M1 => match seqD M1 d with
  | some (_, l) => R (enumD l) (keepOf M1 d) M1
  | none => False) X := propext Iff.rfl
theorem n_latP {n : Addr} {u : List D} {P : List D → Prop} : lstAt (mput M n (.lst u)) n P = P u := by
  unfold lstAt
  rw [mput_same]
theorem n_isi {t : String} : gIsi [x, .v (.ty t)] M Q = (match tyD M x with
  | some u => tyNs.contains t = true ∧ Q (.bl (isiB u t)) M
  | none => False) := propext Iff.rfl
theorem n_sqR {n : Addr} {u : List D} (h : M n = some (.lst u)) : seqD M (.v (.ref n)) = some (true, u) := by
  simp only [seqD, h]
theorem n_sqL {u : List D} : seqD M (.lst u) = some (true, u) := by
  unfold seqD
  rfl
theorem n_sqT {u : List D} : seqD M (.tup u) = some (false, u) := by
  unfold seqD
  rfl
theorem n_sqP {n : Addr} {u : List D} : seqD (mput M n (.lst u)) (.v (.ref n)) = some (true, u) := n_sqR mput_same
theorem n_lat {n : Addr} {u : List D} {P : List D → Prop} (h : M n = some (.lst u)) : lstAt M n P = P u := by
  unfold lstAt
  rw [h]
theorem n_wipe1 : wipeD env [i] = env.set i none := by
  unfold wipeD wipeD
  rfl
theorem n_wipe2 : wipeD env [i, j] = (env.set j none).set i none := by
  unfold wipeD wipeD wipeD
  rfl
theorem n_gtup2 {d1 d2 : DG} {P : EnvD → Mem → Prop} : gTupD 2 (gsCons d1 (gsCons d2 gsNil)) (.tup [x, y]) env M P = d1 x env M (fun e1 M1 => d2 y e1 M1 P) := propext ⟨fun h => by
  have e : ∀ {A B : EnvD → Mem → Prop}, (∀ e m, A e m = B e m) → A = B := fun h => funext fun e => funext fun m => h e m
  obtain ⟨_, h⟩ := h
  have z : (fun e1 M1 => gsCons d2 gsNil [y] e1 M1 P) = (fun e1 M1 => d2 y e1 M1 P) := e fun e1 M1 => by
    show d2 y e1 M1 (fun e2 M2 => gsNil [] e2 M2 P) = d2 y e1 M1 P
    congr 1
    exact e fun e2 M2 => propext ⟨fun h => h.2, fun h => ⟨rfl, h⟩⟩
  have h2 : d1 x env M (fun e1 M1 => gsCons d2 gsNil [y] e1 M1 P) := h
  rw [z] at h2
  exact h2, fun h => by
  have e : ∀ {A B : EnvD → Mem → Prop}, (∀ e m, A e m = B e m) → A = B := fun h => funext fun e => funext fun m => h e m
  refine ⟨rfl, ?_⟩
  have z : (fun e1 M1 => gsCons d2 gsNil [y] e1 M1 P) = (fun e1 M1 => d2 y e1 M1 P) := e fun e1 M1 => by
    show d2 y e1 M1 (fun e2 M2 => gsNil [] e2 M2 P) = d2 y e1 M1 P
    congr 1
    exact e fun e2 M2 => propext ⟨fun h => h.2, fun h => ⟨rfl, h⟩⟩
  show d1 x env M (fun e1 M1 => gsCons d2 gsNil [y] e1 M1 P)
  rw [z]
  exact h⟩
theorem keep_put {b : Bool} {u : List D} {n : Addr} {w : MO} (h : seqD M d = some (b, u)) (hn : M n = none) : keepOf M d (mput M n w) := by
  unfold keepOf
  split
  · rename_i m
    simp only [seqD] at h
    have e : m ≠ n := fun z => by
      rw [z, hn] at h
      cases h
    exact mput_ne e
  · exact True.intro
theorem all_is {u : List Bool} : gAll [.lst (u.map D.bl)] M Q = Q (.bl (u.all id)) M := propext ⟨fun h => by
  obtain ⟨d, l, bs, e1, e2, e3, q⟩ := h
  cases e1
  cases e2
  have e4 : u = bs := by
    have inj : ∀ {a b : List Bool}, a.map D.bl = b.map D.bl → a = b := by
      intro a
      induction a with
      | nil =>
        intro b h
        cases b with
        | nil => rfl
        | cons _ _ => cases h
      | cons x a ih =>
        intro b h
        cases b with
        | nil => cases h
        | cons y b =>
          injection h with h1 h2
          injection h1 with h1
          injection h1 with h1
          rw [h1, ih h2]
    exact inj e3
  rw [e4]
  exact q, fun q => ⟨_, _, u, rfl, rfl, rfl, q⟩⟩
theorem all_of {u : List Bool} (q : Q (.bl (u.all id)) M) : gAll [.lst (u.map D.bl)] M Q := ⟨_, _, u, rfl, rfl, rfl, q⟩
theorem sum_of {u : List Int} (q : Q (.int u.sum) M) : gSum [.lst (u.map D.int)] M Q := ⟨_, _, u, rfl, rfl, rfl, q⟩
theorem n_xone {K : PySem.W.Frag} {c : Value} {w : Option Nat} {h : Addr → Value → Option Addr → SF} {r : ClD} {xn : Xn} : xCl K E (.one c w h r) xn env M = ∃ b, PySem.W.exmOne K xn.cls c = some b ∧ (b = true → ∀ a d, (d = none → xn.fs = []) → h a xn.cls d (unED w E) (inD w a d xn.fs env) M) ∧ (b = false → xCl K E r xn env M) := propext Iff.rfl
theorem n_in {n : Addr} {dd : Addr} {xs : List (Str × D)} : inD (some i) n (some dd) xs env = env.set i (some (.exn n dd xs)) := (Eq.refl _).trans rfl
theorem n_unrt {w : Option Nat} : (unED w E).rt = E.rt := (Eq.refl _).trans rfl
theorem n_fld {n C : Addr} {cls : Value} {dd : Option Addr} {nm : Str} : dFld n cls dd C nm a env M Q X = a env M (fun x M1 => match x with
  | .exn a' d' fs => a' = n ∧ cls = .ref C ∧ dd = some d' ∧ ∃ v, fs.lookup nm = some v ∧ Q v M1
  | _ => False) X := propext Iff.rfl
theorem n_tupL {u : List D} : gTupOf [.lst u] M Q = Q (.tup u) M := propext Iff.rfl
theorem n_tupT {u : List D} : gTupOf [.tup u] M Q = Q (.tup u) M := propext Iff.rfl
theorem n_put {n : Addr} {u : MO} : mput M n u n = some u := mput_same
end
end DL
set_option maxHeartbeats 4000001
namespace DL
open PySem PySem.Spec
open PyProof.Rows L2

/-! ### slices of lists and tuples -/
abbrev DFo := EnvD → Mem → (Option Int → Mem → Prop) → XD → Prop
def SimO (K : PySem.W.Frag) (W : WX) (t : TO) (f : DFo) : Prop := ∀ (σ : L2.St) (H : Hp) (env : EnvD) (M : Mem) (Q : Option Int → Hp → Prop) (P : Option Int → Mem → Prop) (E : XD), Rel K env M σ H → f env M P E →
  (∀ o M' H', P o M' → Stp M H M' H' → MemOk K M' H' → Q o H') → XOk K W σ M H E → t σ H Q
def dNoP : DFo := fun _ M Q _ => Q none M
def dPt (f : DF) : DFo := fun env M Q E => f env M (fun d M1 => asI d fun i => Q (some i) M1) E
theorem simo_no {K : PySem.W.Frag} {W : WX} : SimO K W tNoPart dNoP := fun σ H env M Q P E r h k _ => k none M H h (Stp.refl _ _) r.mem
theorem simo_pt {K : PySem.W.Frag} {W : WX} {te : TE} {f : DF} (h1 : SimE K W te f) : SimO K W (tPart te) (dPt f) := by
  intro σ H env M Q P E r h k x
  refine h1 σ H env M _ _ E r h (fun d M1 u H1 p1 s1 m1 r1 => ?_) x
  obtain ⟨i, rfl, q⟩ := of_asI p1
  cases r1
  exact ⟨i, rfl, k _ M1 H1 q s1 m1⟩
def cutD (xs : List D) (lo hi : Option Int) : List D := (xs.drop (HT.sIx xs.length 0 lo)).take (HT.sIx xs.length xs.length hi - HT.sIx xs.length 0 lo)
theorem reps_cut {K : PySem.W.Frag} {G : Hp} {xs : List D} {vs : List V} (r : reps K G xs vs) (lo hi : Option Int) : reps K G (cutD xs lo hi) (cutV vs lo hi) := by
  unfold cutD cutV
  rw [reps_length r]
  exact reps_take _ (reps_drop _ r)
def gSl (d : D) (l u : Option Int) (M : Mem) (Q : QD) : Prop := match seqD M d with
  | some (true, xs) => Q (.lst (cutD xs l u)) M
  | some (false, xs) => Q (.tup (cutD xs l u)) M
  | none => False
def dSl (f : DF) (lo hi : DFo) : DF := fun env M Q E => f env M (fun d M1 => lo env M1 (fun l M2 => hi env M2 (fun u M3 => gSl d l u M3 Q) E) E) E
theorem sim_sl {K : PySem.W.Frag} {W : WX} {te : TE} {tl th : TO} {f : DF} {lo hi : DFo} (h1 : SimE K W te f) (h2 : SimO K W tl lo) (h3 : SimO K W th hi) : SimE K W (tSl (fun x l u H Q => rSlL K x l u H Q ∨ rSlA K x l u H Q) te tl th) (dSl f lo hi) := by
  intro σ H env M Q P E r h k x
  refine h1 σ H env M _ _ E r h (fun d M1 v H1 p1 s1 m1 r1 => ?_) x
  refine h2 σ H1 env M1 _ _ E (r.to s1 m1) p1 (fun l M2 H2 p2 s2 m2 => ?_) (x.to s1)
  refine h3 σ H2 env M2 _ _ E (r.to (s1.trans s2) m2) p2 (fun u M3 H3 p3 s3 m3 => ?_) (x.to (s1.trans s2))
  have r3 := (s2.trans s3).rep r1
  have s13 := (s1.trans s2).trans s3
  unfold gSl at p3
  split at p3
  · rename_i xs e
    obtain ⟨a, vs, rfl, hs, hr⟩ := seq_rep m3 e r3
    refine .inl ⟨a, vs, rfl, hs, fun p hp => ?_⟩
    have s := stp_new (M := M3) (o := .lst (cutV vs l u)) hp
    have m := mem_new m3 (o := .lst (cutV vs l u)) hp
    refine k _ M3 _ _ p3 (s13.trans s) m ⟨p, _, rfl, .inl (.inl ?_), s.reps (reps_cut hr l u)⟩
    rw [off_none (m3.none hp)]
    exact upd_same
  · rename_i xs e
    obtain ⟨a, vs, rfl, hs, hr⟩ := seq_rep m3 e r3
    refine .inr ⟨a, vs, rfl, hs, fun hw => ?_, fun hw p hp => ?_⟩
    · have same : cutD xs l u = xs := by
        rw [reps_length hr] at hw
        unfold cutD
        rw [hw.1, hw.2, List.drop_zero, Nat.sub_zero, List.take_length]
      rw [same] at p3
      refine k _ M3 _ _ p3 s13 m3 ?_
      cases d with
      | tup l2 =>
        cases e
        exact r3
      | lst _ => cases e
      | dct _ => cases e
      | exn _ _ _ => cases e
      | v x =>
        cases x with
        | ref p =>
          simp only [seqD] at e
          split at e <;> cases e
        | _ => cases e
    · have s := stp_new (M := M3) (o := .tup (cutV vs l u)) hp
      have m := mem_new m3 (o := .tup (cutV vs l u)) hp
      refine k _ M3 _ _ p3 (s13.trans s) m ⟨p, _, rfl, .inl (.inl ?_), s.reps (reps_cut hr l u)⟩
      rw [off_none (m3.none hp)]
      exact upd_same
  · exact p3.elim
def DO (X : Cx) (W : WX) (e : Option Expr) (f : DFo) : Prop := ∃ t, PO X e t ∧ SimO X.K W t f
section
variable {X : Cx} {W : WX} {a e : Expr} {f g : DF} {lo hi : Option Expr} {fl fh : DFo} {p2 pos : Pos}
theorem do_no : DO X W none dNoP := ⟨_, po_none, simo_no⟩
theorem do_at (h : DE X W e f) : DO X W (some e) (dPt f) := let ⟨_, p, s⟩ := h; ⟨_, po_some p, simo_pt s⟩
theorem d_sl (h : DE X W a f) (h1 : DO X W lo fl) (h2 : DO X W hi fh) : DE X W (.Subscript a (.Slice lo hi none p2) pos) (dSl f fl fh) :=
  let ⟨_, p, s⟩ := h
  let ⟨_, q, t⟩ := h1
  let ⟨_, q2, t2⟩ := h2
  ⟨_, pe_slice (sl_list.or sl_tupA) p q q2, sim_sl s t t2⟩
end

/-! ### t + u, lists + lists, list * int -/
def gCatT : G2 := fun x y M Q => ∃ xs ys, seqD M x = some (false, xs) ∧ seqD M y = some (false, ys) ∧ xs.length + ys.length ≤ 1000000 ∧ Q (.tup (xs ++ ys)) M
theorem tup_of {M : Mem} {d : D} {xs : List D} (h : seqD M d = some (false, xs)) : d = .tup xs := by
  cases d with
  | tup l2 =>
    cases h
    rfl
  | lst _ => cases h
  | dct _ => cases h
  | exn _ _ _ => cases h
  | v x =>
    cases x with
    | ref p =>
      simp only [seqD] at h
      split at h <;> cases h
    | _ => cases h
theorem sim_catT {K : PySem.W.Frag} : Sim2 K (rCatA K) gCatT := by
  intro x y u w M H Q P m r1 r2 h k
  obtain ⟨xs, ys, e1, e2, hz, q⟩ := h
  obtain rfl := tup_of e1
  obtain rfl := tup_of e2
  obtain ⟨a, vs, rfl, hs, hr⟩ := seq_rep m e1 r1
  obtain ⟨b, ws, rfl, hs2, hr2⟩ := seq_rep m e2 r2
  have l1 := reps_length hr
  have l2 := reps_length hr2
  refine ⟨a, b, vs, ws, rfl, rfl, hs, hs2, ?_, fun z => ?_, fun _ z => ?_, fun _ _ p hp => ?_⟩
  · rw [l1, l2, sizeLine_eq]
    omega
  · have : xs = [] := by
      cases xs with
      | nil => rfl
      | cons _ _ => rw [z] at l1; cases l1
    subst this
    exact k _ M _ H q (Stp.refl _ _) m r2
  · have : ys = [] := by
      cases ys with
      | nil => rfl
      | cons _ _ => rw [z] at l2; cases l2
    subst this
    rw [List.append_nil] at q
    exact k _ M _ H q (Stp.refl _ _) m r1
  · have s := stp_new (M := M) (o := .tup (vs ++ ws)) hp
    have m' := mem_new m (o := .tup (vs ++ ws)) hp
    refine k _ M _ _ q s m' ⟨p, _, rfl, .inl (.inl ?_), s.reps (reps_append hr hr2)⟩
    rw [off_none (m.none hp)]
    exact upd_same
/-- lists that may change; the sum may not (F), may (M) -/
def gCatF : G2 := fun x y M Q => atRef x fun a => atRef y fun b => lstAt M a fun xs => lstAt M b fun ys => xs.length + ys.length ≤ 1000000 ∧ Q (.lst (xs ++ ys)) M
def gCatM : G2 := fun x y M Q => atRef x fun a => atRef y fun b => lstAt M a fun xs => lstAt M b fun ys => xs.length + ys.length ≤ 1000000 ∧ ∀ n, M n = none → Q (.ref n) (mput M n (.lst (xs ++ ys)))
theorem cat_open {K : PySem.W.Frag} {M : Mem} {H : Hp} {x y : D} {u w : V} {P : List D → List D → Prop} (m : MemOk K M H) (r1 : rep K (off M H) x u) (r2 : rep K (off M H) y w) (h : atRef x fun a => atRef y fun b => lstAt M a fun xs => lstAt M b fun ys => P xs ys) :
    ∃ a b xs ys vs ws, u = .ref a ∧ w = .ref b ∧ H a = some (.lst vs) ∧ H b = some (.lst ws) ∧ reps K (off M H) xs vs ∧ reps K (off M H) ys ws ∧ P xs ys := by
  obtain ⟨a, ex, ha⟩ := of_atRef h
  obtain ⟨b, ey, hb⟩ := of_atRef ha
  obtain ⟨xs, e1, hc⟩ := of_lstAt hb
  obtain ⟨ys, e2, hd⟩ := of_lstAt hc
  subst ex ey
  obtain ⟨vs, h1, h2⟩ := m a _ e1
  obtain ⟨ws, h3, h4⟩ := m b _ e2
  cases r1
  cases r2
  exact ⟨a, b, xs, ys, vs, ws, rfl, rfl, h1, h3, h2, h4, hd⟩
theorem sim_catF {K : PySem.W.Frag} : Sim2 K rCat gCatF := by
  intro x y u w M H Q P m r1 r2 h k
  obtain ⟨a, b, xs, ys, vs, ws, rfl, rfl, h1, h2, h3, h4, hz, q⟩ := cat_open m r1 r2 h
  refine ⟨a, b, vs, ws, rfl, rfl, h1, h2, by rw [reps_length h3, reps_length h4, sizeLine_eq]; omega, fun p hp => ?_⟩
  have s := stp_new (M := M) (o := .lst (vs ++ ws)) hp
  have m' := mem_new m (o := .lst (vs ++ ws)) hp
  refine k _ M _ _ q s m' ⟨p, _, rfl, .inl (.inl ?_), s.reps (reps_append h3 h4)⟩
  rw [off_none (m.none hp)]
  exact upd_same
theorem sim_catM {K : PySem.W.Frag} : Sim2 K rCat gCatM := by
  intro x y u w M H Q P m r1 r2 h k
  obtain ⟨a, b, xs, ys, vs, ws, rfl, rfl, h1, h2, h3, h4, hz, q⟩ := cat_open m r1 r2 h
  refine ⟨a, b, vs, ws, rfl, rfl, h1, h2, by rw [reps_length h3, reps_length h4, sizeLine_eq]; omega, fun p hp => ?_⟩
  exact k _ _ _ _ (q p (m.none hp)) (stp_put hp) (mem_put m hp (reps_append h3 h4)) rfl
theorem reps_rep {K : PySem.W.Frag} {G : Hp} {xs : List D} {vs : List V} (r : reps K G xs vs) : ∀ n : Nat, reps K G (List.replicate n xs).flatten (List.replicate n vs).flatten
  | 0 => rfl
  | n + 1 => by
    rw [(List.replicate_succ), List.replicate_succ, List.flatten_cons, List.flatten_cons]
    exact reps_append r (reps_rep r n)
def gRepF : G2 := fun x y M Q => atRef x fun a => asI y fun n => lstAt M a fun xs => (0 ≤ n ∧ n ≤ 1000 ∧ xs.length ≤ 1000) ∧ Q (.lst (List.replicate n.toNat xs).flatten) M
def gRepM : G2 := fun x y M Q => atRef x fun a => asI y fun n => lstAt M a fun xs => (0 ≤ n ∧ n ≤ 1000 ∧ xs.length ≤ 1000) ∧ ∀ c, M c = none → Q (.ref c) (mput M c (.lst (List.replicate n.toNat xs).flatten))
theorem sim_repF {K : PySem.W.Frag} : Sim2 K rRep gRepF := by
  intro x y u w M H Q P m r1 r2 h k
  obtain ⟨a, ex, ha⟩ := of_atRef h
  obtain ⟨n, ey, hb⟩ := of_asI ha
  obtain ⟨xs, e1, ⟨c1, c2, c3⟩, q⟩ := of_lstAt hb
  subst ex ey
  obtain ⟨vs, h1, h2⟩ := m a _ e1
  cases r1
  cases r2
  refine ⟨a, n, vs, rfl, rfl, h1, by omega, by omega, ?_, fun p hp => ?_⟩
  · rw [reps_length h2, sizeLine_eq]
    exact Nat.le_trans (Nat.mul_le_mul c3 (show n.toNat ≤ 1000 by omega)) (by decide)
  have s := stp_new (M := M) (o := .lst (List.replicate n.toNat vs).flatten) hp
  have m' := mem_new m (o := .lst (List.replicate n.toNat vs).flatten) hp
  refine k _ M _ _ q s m' ⟨p, _, rfl, .inl (.inl ?_), s.reps (reps_rep h2 _)⟩
  rw [off_none (m.none hp)]
  exact upd_same
theorem sim_repM {K : PySem.W.Frag} : Sim2 K rRep gRepM := by
  intro x y u w M H Q P m r1 r2 h k
  obtain ⟨a, ex, ha⟩ := of_atRef h
  obtain ⟨n, ey, hb⟩ := of_asI ha
  obtain ⟨xs, e1, ⟨c1, c2, c3⟩, q⟩ := of_lstAt hb
  subst ex ey
  obtain ⟨vs, h1, h2⟩ := m a _ e1
  cases r1
  cases r2
  refine ⟨a, n, vs, rfl, rfl, h1, by omega, by omega, ?_, fun p hp => ?_⟩
  · rw [reps_length h2, sizeLine_eq]
    exact Nat.le_trans (Nat.mul_le_mul c3 (show n.toNat ≤ 1000 by omega)) (by decide)
  exact k _ _ _ _ (q p (m.none hp)) (stp_put hp) (mem_put m hp (reps_rep h2 _)) rfl

/-! ### int(x), list(x) -/
def gInt : GC := fun xs M Q => match xs with
  | [.v (.int i)] => Q (.int i) M
  | [.v (.bl b)] => Q (.int (if b then 1 else 0)) M
  | _ => False
theorem sim_int {K : PySem.W.Frag} : SimC K (fun xs H Q => (∃ i, xs = [.int i] ∧ Q (.int i) H) ∨ ∃ k, xs = [.bl k] ∧ Q (.int (if k then 1 else 0)) H) gInt := by
  intro xs us M H Q P m r h k
  unfold gInt at h
  split at h
  · obtain ⟨u, rfl, r1⟩ := one_rep r
    cases r1
    exact .inl ⟨_, rfl, k _ M _ H h (Stp.refl _ _) m rfl⟩
  · obtain ⟨u, rfl, r1⟩ := one_rep r
    cases r1
    exact .inr ⟨_, rfl, k _ M _ H h (Stp.refl _ _) m rfl⟩
  · exact h.elim
def gListF : GC := fun xs M Q => ∃ d b l, xs = [d] ∧ seqD M d = some (b, l) ∧ Q (.lst l) M
def gListM : GC := fun xs M Q => ∃ d b l, xs = [d] ∧ seqD M d = some (b, l) ∧ ∀ n, M n = none → Q (.ref n) (mput M n (.lst l))
theorem sim_listF {K : PySem.W.Frag} : SimC K (fun xs H Q => ∃ p ys, xs = [.ref p] ∧ (SqL K H p ys ∨ SqT K H p ys) ∧ ∀ l, H l = none → Q (.ref l) (upd H l (.lst ys))) gListF := by
  intro xs us M H Q P m r h k
  obtain ⟨d, b, l, rfl, e, q⟩ := h
  obtain ⟨u, rfl, r1⟩ := one_rep r
  obtain ⟨a, vs, rfl, hs, hr⟩ := seq_rep m e r1
  refine ⟨a, vs, rfl, hs.or, fun p hp => ?_⟩
  have s := stp_new (M := M) (o := .lst vs) hp
  have m' := mem_new m (o := .lst vs) hp
  refine k _ M _ _ q s m' ⟨p, _, rfl, .inl (.inl ?_), s.reps hr⟩
  rw [off_none (m.none hp)]
  exact upd_same
theorem sim_listM {K : PySem.W.Frag} : SimC K (fun xs H Q => ∃ p ys, xs = [.ref p] ∧ (SqL K H p ys ∨ SqT K H p ys) ∧ ∀ l, H l = none → Q (.ref l) (upd H l (.lst ys))) gListM := by
  intro xs us M H Q P m r h k
  obtain ⟨d, b, l, rfl, e, q⟩ := h
  obtain ⟨u, rfl, r1⟩ := one_rep r
  obtain ⟨a, vs, rfl, hs, hr⟩ := seq_rep m e r1
  exact ⟨a, vs, rfl, hs.or, fun p hp => k _ _ _ _ (q p (m.none hp)) (stp_put hp) (mem_put m hp hr) rfl⟩
end DL
set_option maxHeartbeats 4000001
namespace DL
open PySem PySem.Spec
open PyProof.Rows L2

/-! ### x < y of trees -/
def rLtP (K : PySem.W.Frag) : R2 := fun x y H Q => ∃ d e, Rp K H x d ∧ Rp K H y e ∧ PySem.W.alike d e = true ∧ d ≠ .none ∧ d.depth ≤ 60 ∧ Q (.bl (PySem.W.dataLt d e)) H
theorem op_ltP {X : Cx} (S : Sys X.base) (hu : X.A.units + 64 < cLine) : OpR X (compareOp .Lt) (rLtP X.K) := by
  intro pins s σ H x y v u Q I rx ry want
  obtain ⟨d, e, hd, he, al, nn, dp, q⟩ := want
  obtain ⟨as, r1, _⟩ := Rp.reads S I d x v hd rx
  obtain ⟨bs, r2, _⟩ := Rp.reads S I e y u he ry
  exact PySem.W.rcLt_alike d e X.A s v u as bs r1 r2 al nn (by have : min d.depth e.depth ≤ d.depth := Nat.min_le_left _ _; omega) X.prog X.w X.xe _ ⟨.bl _, H, I, rfl, q⟩
def gLtP : G2 := fun x y M Q => ∃ p q, pdM M x = some p ∧ pdM M y = some q ∧ PySem.W.alike p q = true ∧ p ≠ .none ∧ p.depth ≤ 60 ∧ Q (.bl (PySem.W.dataLt p q)) M
theorem sim_ltP {K : PySem.W.Frag} : Sim2 K (rLtP K) gLtP := by
  intro x y u w M H Q P m r1 r2 h k
  obtain ⟨p, q, h1, h2, h3, h4, h5, h6⟩ := h
  exact ⟨p, q, pdM_rp m h1 r1, pdM_rp m h2 r2, h3, h4, h5, k _ M _ H h6 (Stp.refl _ _) m rfl⟩
/-- xs[::-1] -/
def dRev (f : DF) : DF := fun env M Q E => f env M (fun d M1 => ∃ l, seqD M1 d = some (true, l) ∧ Q (.lst l.reverse) M1) E
theorem reps_rev {K : PySem.W.Frag} {G : Hp} : ∀ {xs : List D} {vs : List V}, reps K G xs vs → reps K G xs.reverse vs.reverse
  | [], vs, r => by
    cases r
    rfl
  | d :: ds, vs, r => by
    obtain ⟨u, us, rfl, h2, h3⟩ := r
    rw [(List.reverse_cons), List.reverse_cons]
    exact reps_append (reps_rev h3) ⟨u, [], rfl, h2, rfl⟩
theorem sim_rev {K : PySem.W.Frag} {W : WX} {te : TE} {f : DF} (h1 : SimE K W te f) : SimE K W (tRevL K te) (dRev f) := by
  intro σ H env M Q P E r h k x
  refine h1 σ H env M _ _ E r h (fun d M1 v H1 p1 s1 m1 r1 => ?_) x
  obtain ⟨l, e, q⟩ := p1
  obtain ⟨a, vs, rfl, hs, hr⟩ := seq_rep m1 e r1
  refine ⟨a, vs, rfl, hs, fun p hp => ?_⟩
  have s := stp_new (M := M1) (o := .lst vs.reverse) hp
  have m := mem_new m1 (o := .lst vs.reverse) hp
  refine k _ M1 _ _ q (s1.trans s) m ⟨p, _, rfl, .inl (.inl ?_), s.reps (reps_rev hr)⟩
  rw [off_none (m1.none hp)]
  exact upd_same

/-! ### zip of two lists, of two tuples -/
def zipD (xs ys : List D) : List D := (xs.zip ys).map fun p => .tup [p.1, p.2]
def iZp (f : DFs) : DFi := fun env M Q E => f env M (fun ds M1 => ∃ x y b l u, ds = [x, y] ∧ seqD M1 x = some (b, l) ∧ seqD M1 y = some (b, u) ∧ Q (zipD l u) (fun M2 => keepOf M1 x M2 ∧ keepOf M1 y M2) M1) E
theorem zipD_get {xs ys : List D} {i : Nat} {d : D} (h : (zipD xs ys)[i]? = some d) : ∃ x y, xs[i]? = some x ∧ ys[i]? = some y ∧ d = .tup [x, y] := by
  unfold zipD at h
  rw [List.getElem?_map] at h
  obtain ⟨p, h1, rfl⟩ := Option.map_eq_some_iff.mp h
  obtain ⟨h2, h3⟩ := List.getElem?_zip_eq_some.mp h1
  exact ⟨p.1, p.2, h2, h3, rfl⟩
theorem zipD_length (xs ys : List D) : (zipD xs ys).length = min xs.length ys.length := by
  unfold zipD
  rw [List.length_map, List.length_zip]
theorem pair_yld {K : PySem.W.Frag} {M2 : Mem} {H2 H3 : Hp} {x y : D} {u v z : V} (m2 : MemOk K M2 H2) (rx : rep K (off M2 H2) x u) (ry : rep K (off M2 H2) y v) (h : ∃ p, H2 p = none ∧ z = .ref p ∧ H3 = upd H2 p (.tup [u, v])) :
    Stp M2 H2 M2 H3 ∧ MemOk K M2 H3 ∧ rep K (off M2 H3) (.tup [x, y]) z := by
  obtain ⟨p, hp, rfl, rfl⟩ := h
  have s := stp_new (M := M2) (o := .tup [u, v]) hp
  refine ⟨s, mem_new m2 hp, p, [u, v], rfl, .inl (.inl ?_), u, [v], rfl, s.rep rx, v, [], rfl, s.rep ry, rfl⟩
  rw [off_none (m2.none hp)]
  exact upd_same
theorem simi_zp {K : PySem.W.Frag} {W : WX} {ta : TA} {f : DFs} (h1 : SimA K W 2 ta f) : SimI K W (RZ.iZipA K ta) (iZp f) := by
  intro σ H env M R P E rl h k x
  refine h1 σ H env M _ _ E rl h (fun ds M1 vs H1 p1 l1 s1 m1 r1 => ?_) x
  obtain ⟨dx, dy, b, l, u, rfl, e1, e2, q⟩ := p1
  obtain ⟨vx, w1, rfl, rx, vy, w2, rfl, ry, r3⟩ := r1
  cases r3
  obtain ⟨a, xs, rfl, qa, qx⟩ := seq_rep m1 e1 rx
  obtain ⟨c, ys, rfl, qc, qy⟩ := seq_rep m1 e2 ry
  have lx := reps_length qx
  have ly := reps_length qy
  have out : ∀ {i : Nat} {d' : D} {M2 : Mem} {H2 H3 : Hp} {z : V}, (zipD l u)[i]? = some d' → Stp M1 H1 M2 H2 → MemOk K M2 H2 → (keepOf M1 dx M2 ∧ keepOf M1 dy M2) →
      (∃ T p q, z = .ref T ∧ H2 T = none ∧ H3 = upd H2 T (.tup [p, q]) ∧ (∀ xs, Sq K H2 b a xs → xs[i]? = some p) ∧ ∀ ys, Sq K H2 b c ys → ys[i]? = some q) → Stp M2 H2 M2 H3 ∧ MemOk K M2 H3 ∧ rep K (off M2 H3) d' z := by
    intro i d' M2 H2 H3 z hi s2 m2 kp y
    obtain ⟨T, p, q, g1, g2, g3, g4, g5⟩ := y
    obtain ⟨x1, y1, i1, i2, rfl⟩ := zipD_get hi
    obtain ⟨ws, w1, w2⟩ := seq_keep m1 e1 rx qa qx s2 m2 kp.1
    obtain ⟨us, u1, u2⟩ := seq_keep m1 e2 ry qc qy s2 m2 kp.2
    obtain ⟨zx, j1, j2⟩ := reps_get w2 i1
    obtain ⟨zy, j3, j4⟩ := reps_get u2 i2
    have t1 := g4 ws w1
    have t2 := g5 us u1
    rw [j1] at t1
    rw [j3] at t2
    cases t1
    cases t2
    exact pair_yld m2 j2 j4 ⟨T, g2, g1, g3⟩
  cases b with
  | true =>
    refine ⟨a, c, xs, ys, rfl, .inl ⟨qa, qc, k _ _ M1 H1 _ q s1 m1 ⟨fun H => (∃ ws, SqL K H a ws ∧ ws.length = l.length) ∧ ∃ us, SqL K H c us ∧ us.length = u.length, _, ⟨?_, ?_, fun i H v H' _ _ y => y⟩, fun M2 H2 s2 m2 kp => ?_, fun i d' M2 H2 z H3 hi s2 m2 kp y => out hi s2 m2 kp y⟩⟩⟩
    · rintro i H hi ⟨⟨ws, w1, w2⟩, us, u1, u2⟩
      rw [zipD_length] at hi
      exact ⟨ws, us, ws[i]'(by omega), us[i]'(by omega), w1, u1, by simp [show i < ws.length by omega], by simp [show i < us.length by omega]⟩
    · rintro H ⟨⟨ws, w1, w2⟩, us, u1, u2⟩
      rw [zipD_length]
      exact ⟨ws, us, w1, u1, by omega⟩
    · obtain ⟨ws, w1, w2⟩ := seq_keep m1 e1 rx qa qx s2 m2 kp.1
      obtain ⟨us, u1, u2⟩ := seq_keep m1 e2 ry qc qy s2 m2 kp.2
      exact ⟨⟨ws, w1, reps_length w2⟩, us, u1, reps_length u2⟩
  | false =>
    refine ⟨a, c, xs, ys, rfl, .inr ⟨qa, qc, k _ _ M1 H1 _ q s1 m1 ⟨fun H => (∃ ws, SqT K H a ws ∧ ws.length = l.length) ∧ ∃ us, SqT K H c us ∧ us.length = u.length, _, ⟨?_, ?_, fun i H v H' _ _ y => y⟩, fun M2 H2 s2 m2 kp => ?_, fun i d' M2 H2 z H3 hi s2 m2 kp y => out hi s2 m2 kp y⟩⟩⟩
    · rintro i H hi ⟨⟨ws, w1, w2⟩, us, u1, u2⟩
      rw [zipD_length] at hi
      exact ⟨ws, us, ws[i]'(by omega), us[i]'(by omega), w1, u1, by simp [show i < ws.length by omega], by simp [show i < us.length by omega]⟩
    · rintro H ⟨⟨ws, w1, w2⟩, us, u1, u2⟩
      rw [zipD_length]
      exact ⟨ws, us, w1, u1, by omega⟩
    · obtain ⟨ws, w1, w2⟩ := seq_keep m1 e1 rx qa qx s2 m2 kp.1
      obtain ⟨us, u1, u2⟩ := seq_keep m1 e2 ry qc qy s2 m2 kp.2
      exact ⟨⟨ws, w1, reps_length w2⟩, us, u1, reps_length u2⟩

/-! ### by short names -/
section
variable {X : Cx} {W : WX} {a b e e2 : Expr} {f g : DF} {k : Nat} {x : Str} {p pos tpos : Pos} {elts : List Expr} {kk : Nat}
theorem dt_ltP (S : Sys X.base) (hr : Room k X.A) (h1 : DE X W a f) (h2 : DE X W b g) (hm : behindInMarks .Lt b = false := by first | exact nomark _ | rfl) : DT X W (.Compare a [.Lt] [b] pos) (dVal (dOp gLtP f g)) := dt_cmp (op_ltP S (room64 hr)) sim_ltP h1 h2 hm
theorem d_ltP (S : Sys X.base) (hr : Room k X.A) (h1 : DE X W a f) (h2 : DE X W b g) (hm : behindInMarks .Lt b = false := by first | exact nomark _ | rfl) : DE X W (.Compare a [.Lt] [b] pos) (dOp gLtP f g) := d_cmp (op_ltP S (room64 hr)) sim_ltP h1 h2 hm
theorem d_rev {n : Nat} {p1 p2 p3 : Pos} (h : DE X W a f) : DE X W (.Subscript a (.Slice none none (some (.UnaryOp .USub (.Constant (.int 1) n p1) p2)) p3) pos) (dRev f) := let ⟨_, q, s⟩ := h; ⟨_, pe_revL q, sim_rev s⟩
theorem d_catT (h1 : DE X W a f) (h2 : DE X W b g) : DE X W (.BinOp a .Add b pos) (dOp gCatT f g) := d_op op_catA sim_catT h1 h2
theorem d_catF (h1 : DE X W a f) (h2 : DE X W b g) : DE X W (.BinOp a .Add b pos) (dOp gCatF f g) := d_op op_cat sim_catF h1 h2
theorem d_catM (h1 : DE X W a f) (h2 : DE X W b g) : DE X W (.BinOp a .Add b pos) (dOp gCatM f g) := d_op op_cat sim_catM h1 h2
theorem d_repF (h1 : DE X W a f) (h2 : DE X W b g) : DE X W (.BinOp a .Mult b pos) (dOp gRepF f g) := d_op op_rep sim_repF h1 h2
theorem d_repM (h1 : DE X W a f) (h2 : DE X W b g) : DE X W (.BinOp a .Mult b pos) (dOp gRepM f g) := d_op op_rep sim_repM h1 h2
theorem d_intOf (hm : X.mg "int" = none) (h1 : DE X W a f) (hg : Gl X "int" := by rfl) (hs : starEach [a] X.env = (false, eval a X.env) :: starEach [] X.env := by rfl) : DE X W (.Call (.Name "int" p) [a] [] pos) (dCB gInt (dOne f)) := d_callTy call_int1 sim_int hm rfl (da_1 h1 hs) hg (he := hs)
theorem d_listF (hm : X.mg "list" = none) (h1 : DE X W a f) (hg : Gl X "list" := by rfl) (hs : starEach [a] X.env = (false, eval a X.env) :: starEach [] X.env := by rfl) : DE X W (.Call (.Name "list" p) [a] [] pos) (dCB gListF (dOne f)) := d_callTy call_list_of sim_listF hm rfl (da_1 h1 hs) hg (he := hs)
theorem d_listM (hm : X.mg "list" = none) (h1 : DE X W a f) (hg : Gl X "list" := by rfl) (hs : starEach [a] X.env = (false, eval a X.env) :: starEach [] X.env := by rfl) : DE X W (.Call (.Name "list" p) [a] [] pos) (dCB gListM (dOne f)) := d_callTy call_list_of sim_listM hm rfl (da_1 h1 hs) hg (he := hs)
theorem di_zip (hm : X.mg "zip" = none) (h1 : DE X W e f) (h2 : DE X W e2 g) (hg : Gl X "zip" := by rfl) (hs : starEach [e, e2] X.env = (false, eval e X.env) :: starEach [e2] X.env := by rfl) (hs2 : starEach [e2] X.env = (false, eval e2 X.env) :: starEach [] X.env := by rfl) (hpl : (backTo pos (starEach [e2] X.env)).any (·.1) = false := by rfl) :
    DI X W (.Tuple elts kk tpos) (.Call (.Name "zip" p) [e, e2] [] pos) (iZp (dCons f (dOne g))) := by
  obtain ⟨t, pt, st⟩ := da_cons h1 (da_1 h2 hs2) hs
  exact ⟨_, RZ.pi_zipA hg hm pt hs hpl, simi_zp st⟩
/-- a tuple of the module -/
theorem d_gtup {vs : List He.Dv} {ds : List D} (hm : X.mg x = some (.ref (He.ga X.K x))) (ht : He.tupB X.K x vs = true) (hd : ∀ G, reps X.K G ds (vs.map (He.Dv.v X.K))) (hg : Gl X x := by rfl) (hdb : (x == ("__debug__" : Str)) = false := by decide) : DE X W (.Name x pos) (dC (.tup ds)) :=
  d_glob (v := .ref (He.ga X.K x)) hm rfl (fun G => ⟨He.ga X.K x, _, rfl, He.tupB_ok ht G, hd G⟩) hg hdb
end
end DL
set_option maxHeartbeats 4000001
namespace DL
open PySem PySem.Spec
open PyProof.Rows L2

/-! ### keyword-only parameters with defaults -/
def pickG {α : Type} (p : List Nat) (ms us ws : List α) : List α := p.filterMap fun i => (us ++ ms ++ ws)[i]?
theorem vals_pick {vs : List V} {us : List Value} (r : Vals vs us) : ∀ p : List Nat, Vals (p.filterMap fun i => vs[i]?) (p.filterMap fun i => us[i]?)
  | [] => .nil
  | i :: p => by
    rw [List.filterMap_cons, List.filterMap_cons]
    cases e : vs[i]? with
    | none =>
      have z : us[i]? = none := List.getElem?_eq_none_iff.mpr (by rw [← r.length]; exact List.getElem?_eq_none_iff.mp e)
      rw [z]
      exact vals_pick r p
    | some v =>
      obtain ⟨u, h2, h3⟩ := r.get e
      rw [h2]
      exact .cons h3 (vals_pick r p)
theorem reps_pick {K : PySem.W.Frag} {G : Hp} {ds : List D} {vs : List V} (r : reps K G ds vs) : ∀ p : List Nat, reps K G (p.filterMap fun i => ds[i]?) (p.filterMap fun i => vs[i]?)
  | [] => rfl
  | i :: p => by
    rw [List.filterMap_cons, List.filterMap_cons]
    cases e : ds[i]? with
    | none =>
      have z : vs[i]? = none := List.getElem?_eq_none_iff.mpr (by rw [reps_length r]; exact List.getElem?_eq_none_iff.mp e)
      rw [z]
      exact reps_pick r p
    | some d =>
      obtain ⟨u, h2, h3⟩ := reps_get r e
      rw [h2]
      exact ⟨u, _, rfl, h3, reps_pick r p⟩
structure DefK (P : Program) (w : World) (K : PySem.W.Frag) (mg : Str → Option Value) (base : Heap) (x : Str) (k : Nat) (st : Stmt) (ps : List Str) (kws : List (Str × V)) (F : FD) : Prop where
  ex : ∃ f fd, mg x = some (.ref f) ∧ FunD K x x (defArgs st) (defBody st) (defScope st) [] kws f fd ∧ Dfn P w K mg base k f fd ps F
section
variable {X : Cx} {W : WX} {x : Str} {p pos : Pos} {e : Expr} {es : List Expr} {kws : List Keyword} {f h : DFs} {k : Nat} {st : Stmt} {ps : List Str} {F : FD} {kd : List (Str × V)}
theorem d_callD (ks : List Str) (perm : List Nat) (ms : List (Str × V)) (mds : List D) (T : DefK X.prog X.w X.K X.mg X.base x k st ps kd F) (hr : Room k X.A) (hG : X.A.guards = some []) (tk : Takes X W) (ha : DA X W (e :: es) f) (hkw : DK X W kws h) (hne : kd ≠ []) (hms : ∀ q ∈ ms, q ∈ kd)
    (hmd : ∀ G, reps X.K G mds (ms.map (·.2)))
    (hb : ∀ (D : Addr) (doc pm : Value) (an : Option Addr) (cdv ct : Value) (us mv ws : List Value), us.length = (e :: es).length → mv.length = ms.length → ws.length = ks.length →
      KwChain D ((ms.map (·.1)).zip mv) (bindArgs (PySem.W.fnOf x x (defArgs st) (defBody st) (defScope st) .none (.ref D) doc pm an cdv ct) ⟨us, ks.zip ws⟩) (ps.zip (pickG perm mv us ws)))
    (hlen : ∀ (vs zs : List V), vs.length = (e :: es).length → zs.length = ks.length → (pickG perm (ms.map (·.2)) vs zs).length = ps.length)
    (hk : kws.length = ks.length := by rfl) (hg : Gl X x := by rfl) (hdb : (x == ("__debug__" : Str)) = false := by decide)
    (hall : (backToKw pos (keywordEach kws X.env)).all (·.1.isSome) = true := by rfl) (hks : (backToKw pos (keywordEach kws X.env)).filterMap (·.1) = ks := by rfl)
    (he : starEach (e :: es) X.env = (false, eval e X.env) :: starEach es X.env := by rfl)
    (hpl : ((backTo pos (starEach (e :: es) X.env)).any (·.1) || (backToKw pos (keywordEach kws X.env)).any (·.1.isNone)) = false := by rfl) : DE X W (.Call (.Name x p) (e :: es) kws pos) (dCallK F (pickG perm mds) f h) := by
  obtain ⟨fa, fd, h1, h2, h4⟩ := T.ex
  obtain ⟨tk', pk, sk⟩ := hkw
  obtain ⟨ta, pa, sa⟩ := ha
  rw [hk] at sk
  obtain ⟨mv, kb⟩ := h2.kbinds0 (ps := ps) (e :: es).length ks ms (fun us mv ws => pickG perm mv us ws) hne hms (fun r1 r2 r3 => vals_pick ((r1.append r2).append r3) perm) hb
  exact ⟨_, pe_gnK h4 hr hG h1 h2.kp kb tk pa pk hg hall hks hdb he hpl, sim_G (fun G ds es' vs zs _ _ r1 r2 => reps_pick (reps_append (reps_append r1 (hmd G)) r2) perm) hlen sa sk⟩
end

/-! ### a, b = x, y -/
def sPar (i j : Nat) (f : DFs) : SF := fun E env M => f env M (fun ds M1 => match ds with
  | [x, y] => E.nx ((env.set i (some x)).set j (some y)) M1
  | _ => False) (fun xn M1 => E.ex xn env M1)
theorem sims_par {K : PySem.W.Frag} {W : WX} {ta : TA} {f : DFs} {i j : Nat} (h1 : SimA K W 2 ta f) : SimS K W (tPar i j ta) (sPar i j f) := by
  intro σ H env M D E r h c
  refine h1 σ H env M _ _ _ r h (fun ds M1 vs H1 p1 l1 s1 m1 r1 => ?_) (c.xo r)
  split at p1
  · obtain ⟨u, w1, rfl, a1, v, w2, rfl, a2, a3⟩ := r1
    cases a3
    exact ⟨u, v, rfl, c.nx _ M1 _ H1 p1 s1 (((r.to s1 m1).set i a1).set j a2)⟩
  · exact p1.elim
theorem s_par (i j : Nat) {X : Cx} {W : WX} {x y : Str} {a b : Expr} {f : DFs} {px py pt pos : Pos} {kt k2 pt2} (h : DA X W [a, b] f) (hc : X.calm = true) (hN : X.N.Nodup) (hij : i ≠ j := by decide) (hi : X.N[i]? = some x := by rfl) (hj : X.N[j]? = some y := by rfl)
    (hx : X.env.scope.names.lookup x = some .local := by rfl) (hy : X.env.scope.names.lookup y = some .local := by rfl)
    (hw : swappedStores [.Tuple [.Name x px, .Name y py] kt pt] (.Tuple [a, b] k2 pt2) X.env = pure (some [x, y]) := by rfl)
    (hs :
      swapsWithSole [.Tuple [.Name x px, .Name y py] kt pt] (.Tuple [a, b] k2 pt2) pos.line X.env = pure false := by rfl) :
    DS X W (.Assign [.Tuple [.Name x px, .Name y py] kt pt] (.Tuple [a, b] k2 pt2) pos) (sPar i j f) := by
  obtain ⟨t, p, s⟩ := h
  exact ⟨_, ps_par hc hN hi hj hij hx hy p hw hs, sims_par s⟩
end DL
set_option maxHeartbeats 4000001
namespace DL
open PySem PySem.Spec
open PyProof.Rows L2

/-! ### list + list, of any two lists -/
def rCatL (K : PySem.W.Frag) : R2 := fun x y H Q => ∃ l b xs ys, x = .ref l ∧ y = .ref b ∧ SqL K H l xs ∧ SqL K H b ys ∧ xs.length + ys.length ≤ sizeLine ∧ ∀ p, H p = none → Q (.ref p) (upd H p (.lst (xs ++ ys)))
theorem op_catL {X : Cx} : OpR X (binaryOp .Add) (rCatL X.K) := by
  intro pins s σ H x y v u Q I rx ry want
  obtain ⟨l, b, xs, ys, rfl, rfl, hl, hb, hz, q⟩ := want
  cases rx
  cases ry
  obtain ⟨vs, r1, p1, _⟩ := I.list hl
  rcases I.list hb with ⟨ws, r2, p2, _⟩
  obtain ⟨⟨cls, dd, data, sl⟩, ho, hc, n, hd⟩ := p1.isList
  obtain ⟨⟨cls2, dd2, data2, sl2⟩, ho2, hc2, n2, hd2⟩ := p2.isList
  simp only at hc hd hc2 hd2
  subst hc hd hc2 hd2
  have e : (vs.toArray ++ ws.toArray) = (vs ++ ws).toArray := by simp
  have len : vs.length + ws.length ≤ sizeLine := by
    rw [← r1.length, ← r2.length]
    exact hz
  refine concat_meets ⟨_, ho, rfl⟩ ⟨_, ho2, rfl⟩ noFill_list_add seq_list_add PySem.F.slot_list_add PySem.F.entry_list_add (PySem.F.args_list_add_2 _ _)
    (list_addW l b vs.toArray ws.toArray n n2 dd dd2 sl sl2 (by simpa using len)) ⟨ho, ho2, ?_⟩
  rw [e]
  exact ⟨.ref _, _, I.lnew (t' := s.toks) (r1.append r2) (by rw [List.length_append]; omega), rfl, q _ I.fresh⟩
def gCatL (fr : Bool) : G2 := fun x y M Q => ∃ xs ys, seqD M x = some (true, xs) ∧ seqD M y = some (true, ys) ∧ xs.length + ys.length ≤ 1000000 ∧
  (fr = true → Q (.lst (xs ++ ys)) M) ∧ (fr = false → ∀ n, M n = none → Q (.ref n) (mput M n (.lst (xs ++ ys))))
theorem sim_catL {K : PySem.W.Frag} {fr : Bool} : Sim2 K (rCatL K) (gCatL fr) := by
  intro x y u w M H Q P m r1 r2 h k
  obtain ⟨xs, ys, e1, e2, hz, q1, q2⟩ := h
  obtain ⟨a, vs, rfl, hs, hr⟩ := seq_rep m e1 r1
  obtain ⟨b, ws, rfl, hs2, hr2⟩ := seq_rep m e2 r2
  refine ⟨a, b, vs, ws, rfl, rfl, hs, hs2, by rw [reps_length hr, reps_length hr2, sizeLine_eq]; omega, fun p hp => ?_⟩
  cases fr with
  | true =>
    have s := stp_new (M := M) (o := .lst (vs ++ ws)) hp
    have m' := mem_new m (o := .lst (vs ++ ws)) hp
    refine k _ M _ _ (q1 rfl) s m' ⟨p, _, rfl, .inl (.inl ?_), s.reps (reps_append hr hr2)⟩
    rw [off_none (m.none hp)]
    exact upd_same
  | false => exact k _ _ _ _ (q2 rfl p (m.none hp)) (stp_put hp) (mem_put m hp (reps_append hr hr2)) rfl
/-- xs[lo:hi] of a list, to be changed -/
def dSlM (f : DF) (lo hi : DFo) : DF := fun env M Q E => f env M (fun d M1 => lo env M1 (fun l M2 => hi env M2 (fun u M3 => ∃ xs, seqD M3 d = some (true, xs) ∧ ∀ n, M3 n = none → Q (.ref n) (mput M3 n (.lst (cutD xs l u)))) E) E) E
theorem sim_slM {K : PySem.W.Frag} {W : WX} {te : TE} {tl th : TO} {f : DF} {lo hi : DFo} (h1 : SimE K W te f) (h2 : SimO K W tl lo) (h3 : SimO K W th hi) : SimE K W (tSl (fun x l u H Q => rSlL K x l u H Q ∨ rSlA K x l u H Q) te tl th) (dSlM f lo hi) := by
  intro σ H env M Q P E r h k x
  refine h1 σ H env M _ _ E r h (fun d M1 v H1 p1 s1 m1 r1 => ?_) x
  refine h2 σ H1 env M1 _ _ E (r.to s1 m1) p1 (fun l M2 H2 p2 s2 m2 => ?_) (x.to s1)
  refine h3 σ H2 env M2 _ _ E (r.to (s1.trans s2) m2) p2 (fun u M3 H3 p3 s3 m3 => ?_) (x.to (s1.trans s2))
  obtain ⟨xs, e, q⟩ := p3
  obtain ⟨a, vs, rfl, hs, hr⟩ := seq_rep m3 e ((s2.trans s3).rep r1)
  exact .inl ⟨a, vs, rfl, hs, fun p hp => k _ _ _ _ (q p (m3.none hp)) (((s1.trans s2).trans s3).trans (stp_put hp)) (mem_put m3 hp (reps_cut hr l u)) rfl⟩
section
variable {X : Cx} {W : WX} {a b : Expr} {f g : DF} {lo hi : Option Expr} {fl fh : DFo} {p2 pos : Pos}
theorem d_catL (fr : Bool) (h1 : DE X W a f) (h2 : DE X W b g) : DE X W (.BinOp a .Add b pos) (dOp (gCatL fr) f g) := d_op op_catL sim_catL h1 h2
theorem d_slM (h : DE X W a f) (h1 : DO X W lo fl) (h2 : DO X W hi fh) : DE X W (.Subscript a (.Slice lo hi none p2) pos) (dSlM f fl fh) :=
  let ⟨_, p, s⟩ := h
  let ⟨_, q, t⟩ := h1
  let ⟨_, q2, t2⟩ := h2
  ⟨_, pe_slice (sl_list.or sl_tupA) p q q2, sim_slM s t t2⟩
end
end DL
set_option maxHeartbeats 4000001
namespace DL
open PySem PySem.Spec
open PyProof.Rows L2

/-! ### bits, numbers, things: plain laws that many laws share -/
variable {M : Mem}
def bitsI (n : Nat) (m : Int) : List Int := (List.range n).map fun k => m / 2 ^ k % 2
theorem bitsI_length (n : Nat) (m : Int) : (bitsI n m).length = n := by simp [bitsI]
theorem bitsI_succ (n : Nat) (m : Int) : bitsI (n + 1) m = bitsI n m ++ [m / 2 ^ n % 2] := by simp [bitsI, List.range_succ]
theorem rangeD_length (n : Int) : (rangeD n).length = n.toNat := by simp [rangeD]
theorem rangeD_mem {n : Int} {d : D} (h : d ∈ rangeD n) : ∃ i : Nat, d = .int i ∧ (i : Int) < n := by
  unfold rangeD at h
  obtain ⟨i, h1, rfl⟩ := List.mem_map.mp h
  exact ⟨i, rfl, by have := List.mem_range.mp h1; omega⟩
theorem rangeD_get {n : Int} {i : Nat} {d : D} (h : (rangeD n)[i]? = some d) : d = .int i ∧ (i : Int) < n := by
  have hl : i < n.toNat := by
    rcases Nat.lt_or_ge i n.toNat with z | z
    · exact z
    · rw [List.getElem?_eq_none (by rw [rangeD_length]; exact z)] at h
      cases h
  unfold rangeD at h
  rw [List.getElem?_map, List.getElem?_range hl] at h
  cases h
  exact ⟨rfl, by omega⟩
def vBit (m : Int) (d : D) : D := match d with
  | .v (.int k) => .int (m / 2 ^ k.toNat % 2)
  | _ => .non
theorem ints_of : ∀ {ps : List PyData}, plainPs ps = true → (ps.all fun q => wholeD (ofP q) 0 1) = true → ∃ bs : List Int, ps = bs.map .int
  | [], _, _ => ⟨[], rfl⟩
  | x :: ps, hp, c => by
    simp only [List.all_cons, Bool.and_eq_true] at c
    simp only [plainPs, Bool.and_eq_true] at hp
    obtain ⟨bs, rfl⟩ := ints_of hp.2 c.2
    cases x with
    | int i => exact ⟨i :: bs, rfl⟩
    | _ => cases c.1
def sumI (bs : List Int) : Int := (bs.mapIdx fun i x => x * 2 ^ i).sum
def vShl (d : D) : D := match d with
  | .tup [.v (.int i), .v (.int x)] => .int (x * 2 ^ i.toNat)
  | _ => .non
/-- a thing that is no list, or a list that may change, not the purse at a -/
def Thing (a : Addr) (M : Mem) (x : D) (p : PyData) : Prop := Tame 200 5 p ∧ ((x = ofP p ∧ plainP p = true ∧ ∀ ps, p ≠ .list ps) ∨ ∃ r ps, x = .ref r ∧ p = .list ps ∧ M r = some (.lst (ofPs ps)) ∧ plainPs ps = true ∧ r ≠ a ∧ ps.length ≤ 9 ∧ ∀ y ∈ ps, Tame 40 2 y)
theorem Thing.val {a : Addr} {x : D} {p : PyData} (h : Thing a M x p) : Val M x p := by
  obtain ⟨_, ⟨rfl, h2, _⟩ | ⟨r, ps, rfl, rfl, h3, h4, _⟩⟩ := h
  · exact .tree h2
  · exact .mem h3 h4
theorem Thing.to {a : Addr} {M' : Mem} {x : D} {p : PyData} (h : Thing a M x p) (k : ∀ b, b ≠ a → M b ≠ none → M' b = M b) : Thing a M' x p := by
  obtain ⟨t, h | ⟨r, ps, h1, h2, h3, h4, h5, h6⟩⟩ := h
  · exact ⟨t, .inl h⟩
  · exact ⟨t, .inr ⟨r, ps, h1, h2, by rw [k r h5 (by rw [h3]; simp)]; exact h3, h4, h5, h6⟩⟩
theorem pair_tame {s : Str} {p : PyData} (hs : Tame 200 5 (.str s)) (hp : Tame 200 5 p) : Tame 1000 6 (.list [.str s, p]) := by
  refine (Tame.list (b := 200) (k := 5) (xs := [.str s, p]) fun x hx => ?_).mono (by simp) (by decide)
  obtain rfl | hx := List.mem_cons.mp hx
  · exact hs
  · rcases List.mem_cons.mp hx with rfl | hx
    · exact hp
    · cases hx
theorem pick {l : List D} {k : Int} {Q : D → Prop} (h0 : 0 ≤ k) (h : k < l.length) (q : ∀ d, d ∈ l → Q d) : ∃ d, atI l k = some d ∧ Q d := by
  obtain ⟨d, e1, e2⟩ := at_int h0 h
  exact ⟨d, e1, q d (List.mem_of_getElem? e2)⟩
theorem thing_of {a : Addr} {p : PyData} (t : Tame 200 5 p) (h : plainP p = true) (n : ∀ ps, p ≠ .list ps) : Thing a M (ofP p) p := ⟨t, .inl ⟨rfl, h, n⟩⟩
theorem keepB {a r : Addr} {o : MO} {M' : Mem} (hr : M r = none) (b : But a (mput M r o) M') : ∀ c, c ≠ a → M c ≠ none → M' c = M c := fun c h1 h2 => (b c h1).trans (mput_ne fun z => h2 (z ▸ hr))
def val : List Int → Int
  | [] => 0
  | x :: r => x + 2 * val r
theorem sum_val : ∀ (bs : List Int) (k : Nat), (bs.mapIdx fun i x => x * 2 ^ (i + k)).sum = 2 ^ k * val bs
  | [], k => by simp [val]
  | x :: bs, k => by
    rw [List.mapIdx_cons, List.sum_cons]
    have h := sum_val bs (k + 1)
    have e : (bs.mapIdx fun i x => x * 2 ^ (i + 1 + k)) = bs.mapIdx fun i x => x * 2 ^ (i + (k + 1)) := by
      congr 1
      funext i x
      rw [Nat.add_assoc, Nat.add_comm 1 k]
    rw [e, h, val, Nat.zero_add, Int.pow_succ, Int.mul_add, Int.mul_comm x, Int.mul_assoc]
theorem sumI_val (bs : List Int) : sumI bs = val bs := by
  have h := sum_val bs 0
  simp only [Nat.add_zero, Int.pow_zero, Int.one_mul] at h
  exact h
theorem bitsI_cons (n : Nat) (m : Int) : bitsI (n + 1) m = m % 2 :: bitsI n (m / 2) := by
  unfold bitsI
  rw [(List.range_succ_eq_map), List.map_cons, List.map_map]
  congr 1
  · simp
  · apply List.map_congr_left
    intro k _
    show m / 2 ^ (k + 1) % 2 = m / 2 / 2 ^ k % 2
    rw [Int.pow_succ, Int.mul_comm, Int.ediv_ediv_of_nonneg (by decide)]
theorem val_bits : ∀ (n : Nat) (m : Int), 0 ≤ m → m < 2 ^ n → val (bitsI n m) = m
  | 0, m, h0, h1 => by
    have : m = 0 := by simp at h1; omega
    rw [this]
    rfl
  | n + 1, m, h0, h1 => by
    rw [Int.pow_succ] at h1
    rw [bitsI_cons, val, val_bits n (m / 2) (by omega) (by omega)]
    omega
theorem bits_val : ∀ bs : List Int, (∀ x ∈ bs, x = 0 ∨ x = 1) → bitsI bs.length (val bs) = bs
  | [], _ => rfl
  | x :: bs, h => by
    have hx := h x List.mem_cons_self
    have ih := bits_val bs fun y hy => h y (List.mem_cons_of_mem _ hy)
    rw [List.length_cons, bitsI_cons, val]
    have e1 : (x + 2 * val bs) % 2 = x := by omega
    have e2 : (x + 2 * val bs) / 2 = val bs := by omega
    rw [e1, e2, ih]
theorem val_lt : ∀ bs : List Int, (∀ x ∈ bs, x = 0 ∨ x = 1) → 0 ≤ val bs ∧ val bs < 2 ^ bs.length
  | [], _ => by simp [val]
  | x :: bs, h => by
    have hx := h x List.mem_cons_self
    have ih := val_lt bs fun y hy => h y (List.mem_cons_of_mem _ hy)
    rw [List.length_cons, Int.pow_succ, val]
    omega
theorem bits01 (n : Nat) (m : Int) : ∀ x ∈ bitsI n m, x = 0 ∨ x = 1 := fun x hx => by
  unfold bitsI at hx
  obtain ⟨k, _, rfl⟩ := List.mem_map.mp hx
  omega
theorem val_list {N : Mem} (bs : List Int) : Val N (.lst (bs.map D.int)) (.list (bs.map .int)) := by
  have h := Val.tree (M := N) (p := .list (bs.map .int)) (by simpa only [plainP] using plain_ints bs)
  simpa only [ofP, ofPs_ints] using h
theorem val_tup {N : Mem} (bs : List Int) : Val N (.tup (bs.map D.int)) (.tuple (bs.map .int)) := by
  have h := Val.tree (M := N) (p := .tuple (bs.map .int)) (by simpa only [plainP] using plain_ints bs)
  simpa only [ofP, ofPs_ints] using h
theorem tame01 {bs : List Int} (h : ∀ x ∈ bs, x = 0 ∨ x = 1) (hl : bs.length ≤ 100) : Tame 1000 2 (.list (bs.map .int)) := by
  refine (Tame.list (b := 0) (k := 0) fun y hy => ?_).mono (by rw [List.length_map]; omega) (by decide)
  obtain ⟨x, hx, rfl⟩ := List.mem_map.mp hy
  have := h x hx
  exact Tame.int (by omega) (by omega)
theorem int_inj {a b : List Int} (h : a.map PyData.int = b.map PyData.int) : a = b := by
  induction a generalizing b with
  | nil =>
    cases b with
    | nil => rfl
    | cons _ _ => cases h
  | cons x a ih =>
    cases b with
    | nil => cases h
    | cons y b =>
      simp only [List.map_cons, List.cons.injEq, PyData.int.injEq] at h
      rw [h.1, ih h.2]
end DL
set_option maxHeartbeats 4000001
namespace DL
open PySem PySem.Spec
open PyProof.Rows L2

/-! ### what bits taken one by one come to -/
theorem bitsI_take (n k : Nat) (m : Int) (h : k ≤ n) : (bitsI n m).take k = bitsI k m := by
  unfold bitsI
  rw [← List.map_take, List.take_range, Nat.min_eq_left h]
theorem bitsI_get (n k : Nat) (m : Int) (h : k < n) : (bitsI n m)[k]? = some (m / 2 ^ k % 2) := by
  unfold bitsI
  rw [List.getElem?_map, List.getElem?_range h]
  rfl
theorem mod2 (m P : Int) (p : 0 < P) : m % (P * 2) = m % 2 + 2 * (m / 2 % P) := by
  have h1 : 0 ≤ m / 2 % P := Int.emod_nonneg _ (by omega)
  have h2 : m / 2 % P < P := Int.emod_lt_of_pos _ p
  have h3 : m / 2 % P + P * (m / 2 / P) = m / 2 := by
    first
      | exact Int.emod_add_mul_ediv (m / 2) P
      | exact Int.emod_add_ediv (m / 2) P
  have h4 : P * 2 * (m / 2 / P) = 2 * (P * (m / 2 / P)) := by rw [Int.mul_comm P 2, Int.mul_assoc]
  refine (PySem.W.kbt_unique (q := m / 2 / P) (by omega) ?_ (by omega) (by omega)).2
  rw [h4]
  generalize P * (m / 2 / P) = z at *
  omega
theorem val_mod : ∀ (n : Nat) (m : Int), val (bitsI n m) = m % 2 ^ n
  | 0, m => by
    simp [bitsI, val]
  | n + 1, m => by
    rw [bitsI_cons, val, val_mod n (m / 2), Int.pow_succ, mod2 m _ (Int.pow_pos (by decide))]
theorem bits_zero : ∀ k : Nat, bitsI k 0 = List.replicate k 0
  | 0 => rfl
  | k + 1 => by
    rw [bitsI_cons]
    have e : (0 : Int) / 2 = 0 := by decide
    rw [e, bits_zero k, List.replicate_succ]
    rfl
theorem bits_more : ∀ (n k : Nat) (m : Int), 0 ≤ m → m < 2 ^ n → bitsI (n + k) m = bitsI n m ++ List.replicate k 0
  | 0, k, m, h0, h1 => by
    have : m = 0 := by simp at h1; omega
    subst this
    rw [Nat.zero_add, bits_zero]
    rfl
  | n + 1, k, m, h0, h1 => by
    rw [Int.pow_succ] at h1
    rw [show n + 1 + k = (n + k) + 1 by omega, bitsI_cons, bitsI_cons, bits_more n k (m / 2) (by omega) (by omega)]
    rfl
theorem val_not : ∀ bs : List Int, val (bs.map fun b => 1 - b) = 2 ^ bs.length - 1 - val bs
  | [] => rfl
  | b :: bs => by
    rw [List.map_cons, val, val_not bs, val, List.length_cons, Int.pow_succ]
    omega
def carried : List Int → List Int → Int → List Int
  | x :: xs, y :: ys, c => (x + y + c) % 2 :: carried xs ys (if 1 < x + y + c then 1 else 0)
  | _, _, _ => []
theorem val_carried : ∀ (xs ys : List Int) (c : Int), xs.length = ys.length → (∀ x ∈ xs, x = 0 ∨ x = 1) → (∀ y ∈ ys, y = 0 ∨ y = 1) → (c = 0 ∨ c = 1) → val (carried xs ys c) = (val xs + val ys + c) % 2 ^ xs.length
  | [], [], c, _, _, _, hc => by
    simp [carried, val]
  | x :: xs, y :: ys, c, hl, hx, hy, hc => by
    have x01 := hx x List.mem_cons_self
    have y01 := hy y List.mem_cons_self
    have ih := val_carried xs ys (if 1 < x + y + c then 1 else 0) (by simpa using hl) (fun z h => hx z (List.mem_cons_of_mem _ h)) (fun z h => hy z (List.mem_cons_of_mem _ h)) (by split <;> simp)
    rw [carried, val, ih, val, val, List.length_cons, Int.pow_succ]
    have p : (0 : Int) < 2 ^ xs.length := Int.pow_pos (by decide)
    generalize hA : val xs = A
    generalize hB : val ys = B
    rw [mod2 _ _ p]
    have e1 : (x + 2 * A + (y + 2 * B) + c) % 2 = (x + y + c) % 2 := by omega
    have e2 : (x + 2 * A + (y + 2 * B) + c) / 2 = A + B + (if 1 < x + y + c then 1 else 0) := by split <;> omega
    rw [e1, e2]
/-- bit by bit -/
def zipB (f : Int → Int → Int) : List Int → List Int → List Int
  | x :: xs, y :: ys => f x y :: zipB f xs ys
  | _, _ => []
theorem val_and : ∀ (n : Nat) (a b : Int), 0 ≤ a → 0 ≤ b → a < 2 ^ n → b < 2 ^ n → val (zipB (fun x y => if y < x then y else x) (bitsI n a) (bitsI n b)) = Builtin.bitAnd a b
  | 0, a, b, a0, b0, a1, b1 => by
    have ea : a = 0 := by simp at a1; omega
    have eb : b = 0 := by simp at b1; omega
    subst ea eb
    rfl
  | n + 1, a, b, a0, b0, a1, b1 => by
    rw [Int.pow_succ] at a1 b1
    rw [bitsI_cons, bitsI_cons, zipB, val, val_and n (a / 2) (b / 2) (by omega) (by omega) (by omega) (by omega), PySem.W.kbt_halves a b]
    generalize Builtin.bitAnd (a / 2) (b / 2) = z
    have h1 : a % 2 = 0 ∨ a % 2 = 1 := by omega
    have h2 : b % 2 = 0 ∨ b % 2 = 1 := by omega
    rcases h1 with h1 | h1 <;> rcases h2 with h2 | h2 <;> simp [h1, h2] <;> omega
theorem val_sum : ∀ (xs ys : List Int), xs.length = ys.length → val (zipB (fun x y => if y < x then y else x) xs ys) + val (zipB (fun x y => if x < y then y else x) xs ys) = val xs + val ys
  | [], [], _ => rfl
  | x :: xs, y :: ys, h => by
    have ih := val_sum xs ys (by simpa using h)
    simp only [zipB, val]
    split <;> split <;> omega
theorem val_xor : ∀ (xs ys : List Int), xs.length = ys.length → (∀ x ∈ xs, x = 0 ∨ x = 1) → (∀ y ∈ ys, y = 0 ∨ y = 1) →
    val (zipB (fun x y => if x = y then 0 else 1) xs ys) + 2 * val (zipB (fun x y => if y < x then y else x) xs ys) = val xs + val ys
  | [], [], _, _, _ => rfl
  | x :: xs, y :: ys, h, hx, hy => by
    have ih := val_xor xs ys (by simpa using h) (fun z q => hx z (List.mem_cons_of_mem _ q)) (fun z q => hy z (List.mem_cons_of_mem _ q))
    have x01 := hx x List.mem_cons_self
    have y01 := hy y List.mem_cons_self
    simp only [zipB, val]
    rcases x01 with rfl | rfl <;> rcases y01 with rfl | rfl <;> simp <;> omega
theorem val_or (n : Nat) (a b : Int) (a0 : 0 ≤ a) (b0 : 0 ≤ b) (a1 : a < 2 ^ n) (b1 : b < 2 ^ n) : val (zipB (fun x y => if x < y then y else x) (bitsI n a) (bitsI n b)) = Builtin.bitOr a b := by
  have h := val_sum (bitsI n a) (bitsI n b) (by rw [bitsI_length, bitsI_length])
  rw [val_and n a b a0 b0 a1 b1, val_bits n a a0 a1, val_bits n b b0 b1] at h
  rw [bitOr_and]
  omega
theorem val_xr (n : Nat) (a b : Int) (a0 : 0 ≤ a) (b0 : 0 ≤ b) (a1 : a < 2 ^ n) (b1 : b < 2 ^ n) : val (zipB (fun x y => if x = y then 0 else 1) (bitsI n a) (bitsI n b)) = Builtin.bitXor a b := by
  have h := val_xor (bitsI n a) (bitsI n b) (by rw [bitsI_length, bitsI_length]) (bits01 n a) (bits01 n b)
  rw [val_and n a b a0 b0 a1 b1, val_bits n a a0 a1, val_bits n b b0 b1] at h
  rw [bitXor_and]
  omega
section
variable {M : Mem} {Q : QD} {k l : Int}
theorem n_eqS {u w : Str} : gE false (.v (.str u)) (.v (.str w)) M Q = Q (.bl (decide (u = w))) M := propext ⟨fun h => by
  rcases h with ⟨a, b, e1, e2, _, q⟩ | ⟨p, q, e1, e2, _, _, r⟩
  · cases e1
    cases e2
    simpa using q
  · cases e1
    cases e2
    have e : (u == w) = decide (u = w) := by rw [Bool.eq_iff_iff]; simp
    simpa [PyData.eqv, e] using r, eq_str⟩
theorem n_neS {u w : Str} : gE true (.v (.str u)) (.v (.str w)) M Q = Q (.bl (!decide (u = w))) M := propext ⟨fun h => by
  rcases h with ⟨a, b, e1, e2, _, q⟩ | ⟨p, q, e1, e2, _, _, r⟩
  · cases e1
    cases e2
    simpa using q
  · cases e1
    cases e2
    have e : (u == w) = decide (u = w) := by rw [Bool.eq_iff_iff]; simp
    simpa [PyData.eqv, e] using r, ne_str⟩
theorem n_eqI : gE false (.v (.int k)) (.v (.int l)) M Q = Q (.bl (decide (k = l))) M := propext ⟨fun h => by
  rcases h with ⟨a, b, e1, e2, _, q⟩ | ⟨p, q, e1, e2, _, _, r⟩
  · cases e1
    cases e2
    simpa using q
  · cases e1
    cases e2
    have e : (k == l) = decide (k = l) := by rw [Bool.eq_iff_iff]; simp
    simpa [PyData.eqv, e] using r, eq_int'⟩
theorem n_neI : gE true (.v (.int k)) (.v (.int l)) M Q = Q (.bl (!decide (k = l))) M := propext ⟨fun h => by
  rcases h with ⟨a, b, e1, e2, _, q⟩ | ⟨p, q, e1, e2, _, _, r⟩
  · cases e1
    cases e2
    simpa using q
  · cases e1
    cases e2
    have e : (k == l) = decide (k = l) := by rw [Bool.eq_iff_iff]; simp
    simpa [PyData.eqv, e] using r, ne_int'⟩
theorem n_iZp {f : DFs} {env : EnvD} {R : List D → (Mem → Prop) → Mem → Prop} {X : XD} : iZp f env M R X = f env M (fun ds M1 => ∃ x y b l u, ds = [x, y] ∧ seqD M1 x = some (b, l) ∧ seqD M1 y = some (b, u) ∧ R (zipD l u) (fun M2 => keepOf M1 x M2 ∧ keepOf M1 y M2) M1) X := propext Iff.rfl
theorem n_ixS {x : D} {b : Bool} {u : List D} (h : seqD M x = some (b, u)) : gIx x (.v (.int k)) M Q = ∃ d, atI u k = some d ∧ Q d M := by
  unfold gIx
  simp only [h]
end
end DL
set_option maxHeartbeats 4000001
namespace DL
open PySem PySem.Spec
open PyProof.Rows L2

/-! ### lists of numbers, the smaller one -/
theorem alike_ints : ∀ xs ys : List Int, PySem.W.alikeAll (xs.map PyData.int) (ys.map PyData.int) = true
  | [], ys => by
    simp [PySem.W.alikeAll]
  | x :: xs, [] => by
    simp [PySem.W.alikeAll]
  | x :: xs, y :: ys => by
    simp [PySem.W.alikeAll, PySem.W.alike, alike_ints xs ys]
theorem toks_lt : ∀ xs ys : List Int, xs.length = ys.length → PyProof.Rows.lexLt PyProof.Rows.itemOrd (PySem.W.keyToksAll (xs.map PyData.int)) (PySem.W.keyToksAll (ys.map PyData.int)) = HT.lexLt xs ys
  | [], [], _ => by
    simp [PySem.W.keyToksAll, HT.lexLt, PyProof.Rows.lexLt]
    decide
  | x :: xs, y :: ys, h => by
    rw [List.map_cons, List.map_cons, HT.lexLt_cons]
    by_cases e : x = y
    · subst e
      rw [PySem.W.dataLt_all_yes (by simp [PySem.W.alike]) (by simp [PyData.eqv]), if_pos rfl]
      exact toks_lt xs ys (by simpa using h)
    · rw [PySem.W.dataLt_all_no (by simp [PySem.W.alike]) (by simp [PyData.eqv, e]), if_neg e, PySem.W.dataLt_int]
theorem dataLt_ints (xs ys : List Int) (h : xs.length = ys.length) : PySem.W.dataLt (.list (xs.map PyData.int)) (.list (ys.map PyData.int)) = HT.lexLt xs ys := by
  rw [PySem.W.dataLt_list]
  exact toks_lt xs ys h
theorem lex_snoc : ∀ (a b : List Int) (x y : Int), a.length = b.length → HT.lexLt (a ++ [x]) (b ++ [y]) = if a = b then decide (x < y) else HT.lexLt a b
  | [], [], x, y, _ => by
    rw [if_pos rfl, List.nil_append, List.nil_append, HT.lexLt_cons]
    by_cases e : x = y
    · subst e
      rw [if_pos rfl, HT.lexLt_nil_nil]
      simp
    · rw [if_neg e]
  | p :: a, q :: b, x, y, h => by
    rw [List.cons_append, List.cons_append, HT.lexLt_cons, HT.lexLt_cons, lex_snoc a b x y (by simpa using h)]
    by_cases e : p = q
    · subst e
      by_cases f : a = b
      · subst f
        simp
      · simp [f]
    · simp [e]
theorem lex_bits : ∀ (xs ys : List Int), xs.length = ys.length → (∀ x ∈ xs, x = 0 ∨ x = 1) → (∀ y ∈ ys, y = 0 ∨ y = 1) → HT.lexLt xs.reverse ys.reverse = decide (val xs < val ys)
  | [], [], _, _, _ => rfl
  | x :: xs, y :: ys, h, hx, hy => by
    have hl : xs.length = ys.length := by simpa using h
    have x' := fun z q => hx z (List.mem_cons_of_mem _ q)
    have y' := fun z q => hy z (List.mem_cons_of_mem _ q)
    have x01 := hx x List.mem_cons_self
    have y01 := hy y List.mem_cons_self
    rw [List.reverse_cons, List.reverse_cons, lex_snoc _ _ _ _ (by simpa using hl), lex_bits xs ys hl x' y']
    have inj : xs.reverse = ys.reverse ↔ val xs = val ys := by
      constructor
      · intro e
        rw [List.reverse_inj.mp e]
      · intro e
        have e1 := bits_val xs x'
        have e2 := bits_val ys y'
        rw [hl, e, e2] at e1
        rw [e1]
    by_cases e : val xs = val ys
    · rw [if_pos (inj.mpr e)]
      simp only [val]
      congr 1
      apply propext
      omega
    · rw [if_neg (fun z => e (inj.mp z))]
      simp only [val]
      congr 1
      apply propext
      omega
section
variable {f : DFs} {a : DF} {lo hi : DFo} {E : EndsD} {env : EnvD} {M : Mem} {Q : QD} {QO : Option Int → Mem → Prop} {X : XD} {i j : Nat} {x y : D} {u v : List D} {l r : Option Int}
theorem n_par : sPar i j f E env M = f env M (fun ds M1 => match ds with
  | [x, y] => E.nx ((env.set i (some x)).set j (some y)) M1
  | _ => False) (fun xn M1 => E.ex xn env M1) := propext Iff.rfl
theorem n_noP : dNoP env M QO X = QO none M := propext Iff.rfl
theorem n_pt : dPt a env M QO X = a env M (fun d M1 => asI d fun i => QO (some i) M1) X := propext Iff.rfl
theorem n_sl : dSl a lo hi env M Q X = a env M (fun d M1 => lo env M1 (fun l M2 => hi env M2 (fun u M3 => gSl d l u M3 Q) X) X) X := propext Iff.rfl
theorem n_slM : dSlM a lo hi env M Q X = a env M (fun d M1 => lo env M1 (fun l M2 => hi env M2 (fun u M3 => ∃ xs, seqD M3 d = some (true, xs) ∧ ∀ n, M3 n = none → Q (.ref n) (mput M3 n (.lst (cutD xs l u)))) X) X) X := propext Iff.rfl
theorem n_gSlL : gSl (.lst u) l r M Q = Q (.lst (cutD u l r)) M := propext Iff.rfl
theorem n_gSlT : gSl (.tup u) l r M Q = Q (.tup (cutD u l r)) M := propext Iff.rfl
theorem n_rev : dRev a env M Q X = a env M (fun d M1 => ∃ l, seqD M1 d = some (true, l) ∧ Q (.lst l.reverse) M1) X := propext Iff.rfl
theorem cat_LL (h : u.length + v.length ≤ 1000000) (q : Q (.lst (u ++ v)) M) : gCatL true (.lst u) (.lst v) M Q := ⟨u, v, rfl, rfl, h, fun _ => q, fun z => by cases z⟩
theorem atm1 : atI [x] (-1) = some x := rfl
theorem atm2 : atI [x, y] (-1) = some y := rfl
end
end DL
set_option maxHeartbeats 4000001
/-! The functional layer: what a def does, as a function of data. A: trees of data, where a place of the memory is a number; AM: the memory; R: how it ends. -/
namespace FL
open PySem PySem.Spec
open PyProof.Rows L2 DL

inductive A where
  | non
  | bl (b : Bool)
  | int (i : Int)
  | str (s : Str)
  | ty (t : String)
  /-- a def of the module -/
  | fn (x : Str)
  /-- what may change, by its number -/
  | loc (n : Nat)
  | lst (l : List A)
  | tup (l : List A)
  | dct (l : List (Key × A))
inductive AO where
  | lst (l : List A)
  | dct (l : List (Key × A))
  | dead
abbrev AM := List AO
structure AX where
  cls : Str
  fs : List (Str × A)
inductive R (α : Type) where
  | ok (a : α) (m : AM)
  | ex (x : AX) (m : AM)
  | bad
def R.bind {α β : Type} (r : R α) (k : α → AM → R β) : R β := match r with
  | .ok a m => k a m
  | .ex x m => .ex x m
  | .bad => .bad

/-! ### how data stands to data -/
mutual
def relA (K : PySem.W.Frag) (ρ : List Addr) : A → D → Prop
  | .non, d => d = .non
  | .bl b, d => d = .bl b
  | .int i, d => d = .int i
  | .str s, d => d = .str s
  | .ty t, d => d = .v (.ty t)
  | .fn x, d => d = .ref (He.ga K x)
  | .loc n, d => ∃ a, ρ[n]? = some a ∧ d = .ref a
  | .lst l, d => ∃ l', d = .lst l' ∧ relAs K ρ l l'
  | .tup l, d => ∃ l', d = .tup l' ∧ relAs K ρ l l'
  | .dct l, d => ∃ l', d = .dct l' ∧ relAk K ρ l l'
def relAs (K : PySem.W.Frag) (ρ : List Addr) : List A → List D → Prop
  | [], ds => ds = []
  | a :: as, ds => ∃ d r, ds = d :: r ∧ relA K ρ a d ∧ relAs K ρ as r
def relAk (K : PySem.W.Frag) (ρ : List Addr) : List (Key × A) → List (Key × D) → Prop
  | [], ds => ds = []
  | (k, a) :: as, ds => ∃ d r, ds = (k, d) :: r ∧ relA K ρ a d ∧ relAk K ρ as r
end
def Le (ρ ρ' : List Addr) : Prop := ∀ (i : Nat) (a : Addr), ρ[i]? = some a → ρ'[i]? = some a
theorem Le.refl (ρ : List Addr) : Le ρ ρ := fun _ _ h => h
theorem Le.trans {a b c : List Addr} (h : Le a b) (k : Le b c) : Le a c := fun i x e => k i x (h i x e)
theorem Le.snoc (ρ : List Addr) (a : Addr) : Le ρ (ρ ++ [a]) := fun i x e => by
  have hi : i < ρ.length := by
    rcases Nat.lt_or_ge i ρ.length with z | z
    · exact z
    · rw [List.getElem?_eq_none z] at e
      cases e
  rw [List.getElem?_append_left hi]
  exact e
mutual
theorem relA.mono {K : PySem.W.Frag} {ρ ρ' : List Addr} (h : Le ρ ρ') : ∀ (a : A) (d : D), relA K ρ a d → relA K ρ' a d
  | .non, _, r => r
  | .bl _, _, r => r
  | .int _, _, r => r
  | .str _, _, r => r
  | .ty _, _, r => r
  | .fn _, _, r => r
  | .loc n, d, r => let ⟨a, e1, e2⟩ := r; ⟨a, h _ _ e1, e2⟩
  | .lst l, d, r => let ⟨l', e1, e2⟩ := r; ⟨l', e1, relAs.mono h l l' e2⟩
  | .tup l, d, r => let ⟨l', e1, e2⟩ := r; ⟨l', e1, relAs.mono h l l' e2⟩
  | .dct l, d, r => let ⟨l', e1, e2⟩ := r; ⟨l', e1, relAk.mono h l l' e2⟩
theorem relAs.mono {K : PySem.W.Frag} {ρ ρ' : List Addr} (h : Le ρ ρ') : ∀ (a : List A) (d : List D), relAs K ρ a d → relAs K ρ' a d
  | [], _, r => r
  | a :: as, ds, r => let ⟨d, t, e1, e2, e3⟩ := r; ⟨d, t, e1, relA.mono h a d e2, relAs.mono h as t e3⟩
theorem relAk.mono {K : PySem.W.Frag} {ρ ρ' : List Addr} (h : Le ρ ρ') : ∀ (a : List (Key × A)) (d : List (Key × D)), relAk K ρ a d → relAk K ρ' a d
  | [], _, r => r
  | (k, a) :: as, ds, r => let ⟨d, t, e1, e2, e3⟩ := r; ⟨d, t, e1, relA.mono h a d e2, relAk.mono h as t e3⟩
end
section
variable {K : PySem.W.Frag} {ρ : List Addr}
theorem relAs.length : ∀ {as : List A} {ds : List D}, relAs K ρ as ds → ds.length = as.length
  | [], _, h => by
    cases h
    rfl
  | a :: as, ds, h => by
    obtain ⟨d, t, rfl, _, h3⟩ := h
    rw [List.length_cons, List.length_cons, relAs.length h3]
theorem relAs.get : ∀ {as : List A} {ds : List D} {i : Nat} {a : A}, relAs K ρ as ds → as[i]? = some a → ∃ d, ds[i]? = some d ∧ relA K ρ a d
  | [], _, i, a, _, e => by simp at e
  | x :: as, ds, 0, a, h, e => by
    obtain ⟨d, t, rfl, h2, _⟩ := h
    simp at e
    subst e
    exact ⟨d, rfl, h2⟩
  | x :: as, ds, i + 1, a, h, e => by
    obtain ⟨d, t, rfl, _, h3⟩ := h
    obtain ⟨w, e1, e2⟩ := relAs.get (i := i) h3 (by simpa using e)
    exact ⟨w, by simpa using e1, e2⟩
theorem relAs.get' {as : List A} {ds : List D} {i : Nat} {d : D} (h : relAs K ρ as ds) (e : ds[i]? = some d) : ∃ a, as[i]? = some a ∧ relA K ρ a d := by
  have hi : i < as.length := by
    rw [← h.length]
    rcases Nat.lt_or_ge i ds.length with z | z
    · exact z
    · rw [List.getElem?_eq_none z] at e
      cases e
  obtain ⟨d', e1, e2⟩ := h.get (List.getElem?_eq_getElem hi)
  rw [e] at e1
  cases e1
  exact ⟨_, List.getElem?_eq_getElem hi, e2⟩
theorem relAs.append : ∀ {as bs : List A} {ds es : List D}, relAs K ρ as ds → relAs K ρ bs es → relAs K ρ (as ++ bs) (ds ++ es)
  | [], bs, ds, es, h, k => by
    cases h
    exact k
  | a :: as, bs, ds, es, h, k => by
    obtain ⟨d, t, rfl, h2, h3⟩ := h
    exact ⟨d, t ++ es, rfl, h2, h3.append k⟩
theorem relAs.one {a : A} {d : D} (h : relA K ρ a d) : relAs K ρ [a] [d] := ⟨d, [], rfl, h, rfl⟩
theorem relAs.take : ∀ {as : List A} {ds : List D} (n : Nat), relAs K ρ as ds → relAs K ρ (as.take n) (ds.take n)
  | [], ds, n, h => by
    cases h
    simp [relAs]
  | a :: as, ds, 0, h => by simp [relAs]
  | a :: as, ds, n + 1, h => by
    obtain ⟨d, t, rfl, h2, h3⟩ := h
    exact ⟨d, t.take n, rfl, h2, h3.take n⟩
theorem relAs.drop : ∀ {as : List A} {ds : List D} (n : Nat), relAs K ρ as ds → relAs K ρ (as.drop n) (ds.drop n)
  | [], ds, n, h => by
    cases h
    simp [relAs]
  | a :: as, ds, 0, h => h
  | a :: as, ds, n + 1, h => by
    obtain ⟨d, t, rfl, h2, h3⟩ := h
    exact h3.drop n
theorem relAs.set {x : A} {w : D} (hx : relA K ρ x w) : ∀ {as : List A} {ds : List D} (i : Nat), relAs K ρ as ds → relAs K ρ (as.set i x) (ds.set i w)
  | [], ds, i, h => by
    cases h
    simp [relAs]
  | a :: as, ds, 0, h => by
    obtain ⟨d, t, rfl, h2, h3⟩ := h
    exact ⟨w, t, rfl, hx, h3⟩
  | a :: as, ds, i + 1, h => by
    obtain ⟨d, t, rfl, h2, h3⟩ := h
    exact ⟨d, t.set i w, rfl, h2, h3.set hx i⟩
theorem relAs.reverse : ∀ {as : List A} {ds : List D}, relAs K ρ as ds → relAs K ρ as.reverse ds.reverse
  | [], ds, h => by
    cases h
    simp [relAs]
  | a :: as, ds, h => by
    obtain ⟨d, t, rfl, h2, h3⟩ := h
    rw [(List.reverse_cons), List.reverse_cons]
    exact h3.reverse.append (.one h2)
theorem relAs.dropLast {as : List A} {ds : List D} (h : relAs K ρ as ds) : relAs K ρ as.dropLast ds.dropLast := by
  rw [List.dropLast_eq_take, List.dropLast_eq_take, h.length]
  exact h.take _
theorem relAs.zip : ∀ {as bs : List A} {ds es : List D}, relAs K ρ as ds → relAs K ρ bs es → relAs K ρ ((as.zip bs).map fun p => .tup [p.1, p.2]) (zipD ds es)
  | [], bs, ds, es, h, k => by
    cases h
    simp [zipD, relAs]
  | a :: as, [], ds, es, h, k => by
    cases k
    simp [zipD, relAs]
  | a :: as, b :: bs, ds, es, h, k => by
    obtain ⟨d, t, rfl, h2, h3⟩ := h
    obtain ⟨e, u, rfl, k2, k3⟩ := k
    exact ⟨.tup [d, e], _, rfl, ⟨[d, e], rfl, d, [e], rfl, h2, e, [], rfl, k2, rfl⟩, h3.zip k3⟩
theorem relAs.ints (ns : List Int) : relAs K ρ (ns.map A.int) (ns.map D.int) := by
  induction ns with
  | nil => rfl
  | cons n ns ih => exact ⟨_, _, rfl, rfl, ih⟩
theorem relAs.picks {as : List A} {ds : List D} (h : relAs K ρ as ds) : ∀ p : List Nat, relAs K ρ (p.filterMap fun i => as[i]?) (p.filterMap fun i => ds[i]?)
  | [] => rfl
  | i :: p => by
    rw [List.filterMap_cons, List.filterMap_cons]
    cases e : as[i]? with
    | none =>
      have z : ds[i]? = none := List.getElem?_eq_none_iff.mpr (by rw [h.length]; exact List.getElem?_eq_none_iff.mp e)
      rw [z]
      exact h.picks p
    | some v =>
      obtain ⟨u, h2, h3⟩ := h.get e
      rw [h2]
      exact ⟨u, _, rfl, h3, h.picks p⟩
theorem relAs.perm {as bs : List A} {ds es : List D} (h : relAs K ρ as ds) (k : relAs K ρ bs es) : ∀ p : List Nat, relAs K ρ (permG .non p as bs) (permG .non p ds es)
  | [] => rfl
  | i :: p => by
    refine ⟨_, _, rfl, ?_, h.perm k p⟩
    show relA K ρ ((as ++ bs).getD i A.non) ((ds ++ es).getD i D.non)
    have q := h.append k
    cases e : (as ++ bs)[i]? with
    | none =>
      have z : (ds ++ es)[i]? = none := List.getElem?_eq_none_iff.mpr (by rw [q.length]; exact List.getElem?_eq_none_iff.mp e)
      rw [List.getD_eq_getElem?_getD, List.getD_eq_getElem?_getD, e, z]
      rfl
    | some v =>
      obtain ⟨u, h2, h3⟩ := q.get e
      rw [List.getD_eq_getElem?_getD, List.getD_eq_getElem?_getD, e, h2]
      exact h3
end

/-! ### the memory -/
section
variable {K : PySem.W.Frag}
def relO (K : PySem.W.Frag) (ρ : List Addr) : AO → MO → Prop
  | .lst l, o => ∃ l', o = .lst l' ∧ relAs K ρ l l'
  | .dct l, o => ∃ l', o = .dct l' ∧ relAk K ρ l l'
  | .dead, _ => False
theorem relO.mono {ρ ρ' : List Addr} (h : Le ρ ρ') : ∀ {o : AO} {u : MO}, relO K ρ o u → relO K ρ' o u
  | .lst l, _, ⟨l', e, r⟩ => ⟨l', e, relAs.mono h _ _ r⟩
  | .dct l, _, ⟨l', e, r⟩ => ⟨l', e, relAk.mono h _ _ r⟩
/-- U: what stands elsewhere and stays -/
structure MemR (K : PySem.W.Frag) (ρ : List Addr) (U : Mem) (am : AM) (M : Mem) : Prop where
  len : ρ.length = am.length
  at_ : ∀ (i : Nat) (o : AO), am[i]? = some o → o ≠ .dead → ∃ a u, ρ[i]? = some a ∧ M a = some u ∧ relO K ρ o u ∧ U a = none
  inj : ∀ (i j : Nat) (o u : AO) (a : Addr), am[i]? = some o → o ≠ .dead → am[j]? = some u → u ≠ .dead → ρ[i]? = some a → ρ[j]? = some a → i = j
  un : ∀ a u, U a = some u → M a = some u
theorem MemR.at_loc {ρ : List Addr} {U : Mem} {am : AM} {M : Mem} (m : MemR K ρ U am M) {i : Nat} {l : List A} {a : Addr} (h : am[i]? = some (.lst l)) (ha : ρ[i]? = some a) : ∃ l', M a = some (.lst l') ∧ relAs K ρ l l' := by
  obtain ⟨b, u, h1, h2, h3, _⟩ := m.at_ i _ h (by simp)
  rw [ha] at h1
  cases h1
  obtain ⟨l', rfl, h4⟩ := h3
  exact ⟨l', h2, h4⟩
theorem MemR.lt {ρ : List Addr} {U : Mem} {am : AM} {M : Mem} (m : MemR K ρ U am M) {i : Nat} {o : AO} (h : am[i]? = some o) : i < ρ.length := by
  rw [m.len]
  rcases Nat.lt_or_ge i am.length with z | z
  · exact z
  · rw [List.getElem?_eq_none z] at h
    cases h
/-- a new one -/
theorem MemR.put {ρ : List Addr} {U : Mem} {am : AM} {M : Mem} (m : MemR K ρ U am M) {a : Addr} {o : AO} {u : MO} (ha : M a = none) (hr : relO K ρ o u) : MemR K (ρ ++ [a]) U (am ++ [o]) (mput M a u) := by
  have le := Le.snoc ρ a
  have hn : ∀ b v, M b = some v → b ≠ a := fun b v h e => by rw [e, ha] at h; cases h
  have old : ∀ (i : Nat) (o' : AO), am[i]? = some o' → o' ≠ .dead → ∃ b v, ρ[i]? = some b ∧ M b = some v ∧ relO K ρ o' v ∧ U b = none := m.at_
  have cut : ∀ {i : Nat} {o' : AO}, (am ++ [o])[i]? = some o' → am[i]? = some o' ∨ (i = am.length ∧ o' = o) := fun {i o'} h => by
    rcases Nat.lt_or_ge i am.length with z | z
    · rw [List.getElem?_append_left z] at h
      exact .inl h
    · right
      have : i = am.length := by
        rcases Nat.lt_or_ge i (am.length + 1) with y | y
        · omega
        · rw [List.getElem?_eq_none (by simp; omega)] at h
          cases h
      subst this
      rw [List.getElem?_append_right (Nat.le_refl _), Nat.sub_self] at h
      exact ⟨rfl, (Option.some.inj h).symm⟩
  have new : (ρ ++ [a])[am.length]? = some a := by rw [← m.len]; simp
  refine ⟨by simp [m.len], fun i o' h hd => ?_, fun i j o1 o2 b h1 d1 h2 d2 e1 e2 => ?_, fun b v h => ?_⟩
  · rcases cut h with h | ⟨rfl, rfl⟩
    · obtain ⟨b, v, h1, h2, h3, h4⟩ := old i o' h hd
      exact ⟨b, v, le _ _ h1, by rw [mput_ne (hn b v h2)]; exact h2, h3.mono le, h4⟩
    · refine ⟨a, u, new, mput_same, hr.mono le, ?_⟩
      cases e : U a with
      | none => rfl
      | some v =>
        have := m.un a v e
        rw [ha] at this
        cases this
  · rcases cut h1 with k1 | ⟨rfl, rfl⟩ <;> rcases cut h2 with k2 | ⟨rfl, rfl⟩
    · obtain ⟨b1, v1, p1, _⟩ := old i o1 k1 d1
      obtain ⟨b2, v2, p2, _⟩ := old j o2 k2 d2
      rw [le _ _ p1] at e1
      rw [le _ _ p2] at e2
      cases e1
      cases e2
      exact m.inj i j o1 o2 _ k1 d1 k2 d2 p1 p2
    · obtain ⟨b1, v1, p1, q1, _⟩ := old i o1 k1 d1
      rw [le _ _ p1] at e1
      rw [new] at e2
      cases e1
      cases e2
      exact absurd rfl (hn _ _ q1)
    · obtain ⟨b1, v1, p1, q1, _⟩ := old j o2 k2 d2
      rw [le _ _ p1] at e2
      rw [new] at e1
      cases e1
      cases e2
      exact absurd rfl (hn _ _ q1)
    · rfl
  · have := m.un b v h
    rw [mput_ne (hn b v this)]
    exact this
/-- one is changed -/
theorem MemR.upd {ρ : List Addr} {U : Mem} {am : AM} {M : Mem} (m : MemR K ρ U am M) {i : Nat} {a : Addr} {o o0 : AO} {u : MO} (h : am[i]? = some o0) (hd : o0 ≠ .dead) (ha : ρ[i]? = some a) (hr : relO K ρ o u) : MemR K ρ U (am.set i o) (mput M a u) := by
  obtain ⟨a', u0, h1, h2, h3, h4⟩ := m.at_ i o0 h hd
  rw [ha] at h1
  cases h1
  have hi : i < am.length := by have := m.lt h; rw [m.len] at this; exact this
  have same : ∀ {j : Nat} {o' : AO}, (am.set i o)[j]? = some o' → i ≠ j → am[j]? = some o' := fun {j o'} q ne => by rw [List.getElem?_set_ne ne] at q; exact q
  have ud : ∀ {j : Nat} {o' : AO}, (am.set i o)[j]? = some o' → o' ≠ .dead → ∃ o2, am[j]? = some o2 ∧ o2 ≠ .dead := fun {j o'} q d => by
    by_cases e : i = j
    · subst e
      exact ⟨o0, h, hd⟩
    · exact ⟨o', same q e, d⟩
  refine ⟨by rw [List.length_set]; exact m.len, fun j o' q d => ?_, fun j k o1 o2 b q1 d1 q2 d2 e1 e2 => ?_, fun b v q => ?_⟩
  · by_cases e : i = j
    · subst e
      rw [List.getElem?_set_self hi] at q
      cases q
      exact ⟨a, u, ha, mput_same, hr, h4⟩
    · have q' := same q e
      obtain ⟨b, v, p1, p2, p3, p4⟩ := m.at_ j o' q' d
      have ne : b ≠ a := fun z => e (m.inj i j o0 o' a h hd q' d ha (z ▸ p1))
      exact ⟨b, v, p1, by rw [mput_ne ne]; exact p2, p3, p4⟩
  · obtain ⟨x1, y1, z1⟩ := ud q1 d1
    obtain ⟨x2, y2, z2⟩ := ud q2 d2
    exact m.inj j k x1 x2 b y1 z1 y2 z2 e1 e2
  · have ne : b ≠ a := fun z => by rw [z, h4] at q; cases q
    rw [mput_ne ne]
    exact m.un b v q
/-- one is changed no more -/
theorem MemR.kill {ρ : List Addr} {U : Mem} {am : AM} {M : Mem} (m : MemR K ρ U am M) {i : Nat} {a : Addr} {o0 : AO} (h : am[i]? = some o0) (hd : o0 ≠ .dead) (ha : ρ[i]? = some a) : MemR K ρ U (am.set i .dead) (mdel M a) := by
  obtain ⟨a', u0, h1, h2, h3, h4⟩ := m.at_ i o0 h hd
  rw [ha] at h1
  cases h1
  have hi : i < am.length := by have := m.lt h; rw [m.len] at this; exact this
  have ud : ∀ {j : Nat} {o' : AO}, (am.set i .dead)[j]? = some o' → o' ≠ .dead → i ≠ j ∧ am[j]? = some o' := fun {j o'} q d => by
    by_cases e : i = j
    · subst e
      rw [List.getElem?_set_self hi] at q
      cases q
      exact absurd rfl d
    · rw [List.getElem?_set_ne e] at q
      exact ⟨e, q⟩
  refine ⟨by rw [List.length_set]; exact m.len, fun j o' q d => ?_, fun j k o1 o2 b q1 d1 q2 d2 e1 e2 => ?_, fun b v q => ?_⟩
  · obtain ⟨e, q'⟩ := ud q d
    obtain ⟨b, v, p1, p2, p3, p4⟩ := m.at_ j o' q' d
    have ne : b ≠ a := fun z => e (m.inj i j o0 o' a h hd q' d ha (z ▸ p1))
    exact ⟨b, v, p1, by rw [mdel_ne ne]; exact p2, p3, p4⟩
  · exact m.inj j k o1 o2 b (ud q1 d1).2 d1 (ud q2 d2).2 d2 e1 e2
  · have ne : b ≠ a := fun z => by rw [z, h4] at q; cases q
    rw [mdel_ne ne]
    exact m.un b v q
/-- one more stands elsewhere -/
theorem MemR.own {ρ : List Addr} {U : Mem} {am : AM} {M : Mem} (m : MemR K ρ U am M) {a : Addr} {u : MO} (ha : M a = none) : MemR K ρ (mput U a u) am (mput M a u) := by
  have hn : ∀ b v, M b = some v → b ≠ a := fun b v h e => by rw [e, ha] at h; cases h
  refine ⟨m.len, fun i o h hd => ?_, m.inj, fun b v h => ?_⟩
  · obtain ⟨b, v, h1, h2, h3, h4⟩ := m.at_ i o h hd
    exact ⟨b, v, h1, by rw [mput_ne (hn b v h2)]; exact h2, h3, by rw [mput_ne (hn b v h2)]; exact h4⟩
  · by_cases e : b = a
    · subst e
      rw [mput_same] at h ⊢
      exact h
    · rw [mput_ne e] at h ⊢
      exact m.un b v h
/-- one that stands elsewhere is changed -/
theorem MemR.ownUpd {ρ : List Addr} {U : Mem} {am : AM} {M : Mem} (m : MemR K ρ U am M) {a : Addr} {u v : MO} (ha : U a = some v) : MemR K ρ (mput U a u) am (mput M a u) := by
  have hn : ∀ b, U b = none → b ≠ a := fun b h e => by rw [e, ha] at h; cases h
  refine ⟨m.len, fun i o h hd => ?_, m.inj, fun b v h => ?_⟩
  · obtain ⟨b, v, h1, h2, h3, h4⟩ := m.at_ i o h hd
    exact ⟨b, v, h1, by rw [mput_ne (hn b h4)]; exact h2, h3, by rw [mput_ne (hn b h4)]; exact h4⟩
  · by_cases e : b = a
    · subst e
      rw [mput_same] at h ⊢
      exact h
    · rw [mput_ne e] at h ⊢
      exact m.un b v h
theorem MemR.ownDel {ρ : List Addr} {U : Mem} {am : AM} {M : Mem} (m : MemR K ρ U am M) {a : Addr} {v : MO} (ha : U a = some v) : MemR K ρ (mdel U a) am (mdel M a) := by
  have hn : ∀ b, U b = none → b ≠ a := fun b h e => by rw [e, ha] at h; cases h
  refine ⟨m.len, fun i o h hd => ?_, m.inj, fun b v h => ?_⟩
  · obtain ⟨b, v, h1, h2, h3, h4⟩ := m.at_ i o h hd
    exact ⟨b, v, h1, by rw [mdel_ne (hn b h4)]; exact h2, h3, by rw [mdel_ne (hn b h4)]; exact h4⟩
  · by_cases e : b = a
    · subst e
      rw [mdel_same] at h
      cases h
    · rw [mdel_ne e] at h ⊢
      exact m.un b v h
theorem MemR.less {ρ : List Addr} {U B : Mem} {am : AM} {M : Mem} (m : MemR K ρ U am M) (h : ∀ a u, B a = some u → U a = some u) : MemR K ρ B am M := by
  refine ⟨m.len, fun i o q hd => ?_, m.inj, fun b v q => m.un b v (h b v q)⟩
  obtain ⟨b, v, h1, h2, h3, h4⟩ := m.at_ i o q hd
  refine ⟨b, v, h1, h2, h3, ?_⟩
  cases e : B b with
  | none => rfl
  | some w =>
    rw [h b w e] at h4
    cases h4
theorem MemR.fresh {ρ : List Addr} {U : Mem} {am : AM} {M : Mem} (m : MemR K ρ U am M) {a : Addr} (h : M a = none) : U a = none := by
  cases e : U a with
  | none => rfl
  | some u =>
    rw [m.un a u e] at h
    cases h
end

/-! ### the names -/
inductive SV where
  | no
  | val (a : A)
  /-- a list that this name alone has -/
  | own (l : List A)
  | exn (c : Str) (fs : List (Str × A))
abbrev AEnv := List SV
def relF (K : PySem.W.Frag) (ρ : List Addr) : List (Str × A) → List (Str × D) → Prop
  | [], ds => ds = []
  | (k, a) :: as, ds => ∃ d r, ds = (k, d) :: r ∧ relA K ρ a d ∧ relF K ρ as r
theorem relF.mono {K : PySem.W.Frag} {ρ ρ' : List Addr} (h : Le ρ ρ') : ∀ (a : List (Str × A)) (d : List (Str × D)), relF K ρ a d → relF K ρ' a d
  | [], _, r => r
  | (k, a) :: as, ds, r => let ⟨d, t, e1, e2, e3⟩ := r; ⟨d, t, e1, relA.mono h a d e2, relF.mono h as t e3⟩
abbrev Xi := Option (Addr × Value × Option Addr)
def relS (K : PySem.W.Frag) (ρ : List Addr) (U : Mem) (ξ : Xi) : SV → Option D → Prop
  | .no, _ => True
  | .val a, s => ∃ d, s = some d ∧ relA K ρ a d
  | .own l, s => ∃ a l', s = some (.ref a) ∧ U a = some (.lst l') ∧ relAs K ρ l l'
  | .exn c fs, s => ∃ a dd fs', ξ = some (a, .ref (He.ga K c), some dd) ∧ s = some (.exn a dd fs') ∧ relF K ρ fs fs'
theorem relS.mono {K : PySem.W.Frag} {ρ ρ' : List Addr} {U : Mem} {ξ : Xi} (h : Le ρ ρ') : ∀ {v : SV} {s : Option D}, relS K ρ U ξ v s → relS K ρ' U ξ v s
  | .no, _, _ => True.intro
  | .val a, _, ⟨d, e, r⟩ => ⟨d, e, relA.mono h _ _ r⟩
  | .own l, _, ⟨a, l', e, u, r⟩ => ⟨a, l', e, u, relAs.mono h _ _ r⟩
  | .exn c fs, _, ⟨a, dd, fs', e, u, r⟩ => ⟨a, dd, fs', e, u, relF.mono h _ _ r⟩
structure EnvR (K : PySem.W.Frag) (ρ : List Addr) (U : Mem) (ξ : Xi) (aenv : AEnv) (env : EnvD) : Prop where
  len : aenv.length = env.length
  get : ∀ (i : Nat) (v : SV), aenv[i]? = some v → ∃ s, env[i]? = some s ∧ relS K ρ U ξ v s
theorem EnvR.mono {K : PySem.W.Frag} {ρ ρ' : List Addr} {U : Mem} {ξ : Xi} {aenv : AEnv} {env : EnvD} (h : Le ρ ρ') (r : EnvR K ρ U ξ aenv env) : EnvR K ρ' U ξ aenv env :=
  ⟨r.len, fun i v e => let ⟨s, h1, h2⟩ := r.get i v e; ⟨s, h1, h2.mono h⟩⟩
theorem EnvR.set {K : PySem.W.Frag} {ρ : List Addr} {U : Mem} {ξ : Xi} {aenv : AEnv} {env : EnvD} (r : EnvR K ρ U ξ aenv env) (i : Nat) {v : SV} {s : Option D} (h : relS K ρ U ξ v s) : EnvR K ρ U ξ (aenv.set i v) (env.set i s) := by
  refine ⟨by rw [List.length_set, List.length_set, r.len], fun j u e => ?_⟩
  by_cases hij : i = j
  · subst hij
    by_cases hl : i < aenv.length
    · rw [List.getElem?_set_self hl] at e
      cases e
      exact ⟨s, List.getElem?_set_self (by rw [← r.len]; exact hl), h⟩
    · rw [List.getElem?_eq_none (by rw [List.length_set]; omega)] at e
      cases e
  · rw [List.getElem?_set_ne hij] at e
    rw [List.getElem?_set_ne hij]
    exact r.get j u e

/-! ### what a function tells of a transformer -/
def Post {α δ : Type} (K : PySem.W.Frag) (rel : List Addr → Mem → α → δ → Prop) (ρ : List Addr) (U : Mem) (r : R α) (Q : δ → Mem → Prop) (X : XD) : Prop := match r with
  | .ok a am => ∀ ρ' d M', Le ρ ρ' → rel ρ' U a d → MemR K ρ' U am M' → Q d M'
  | .ex x am => ∀ ρ' fs M', Le ρ ρ' → relF K ρ' x.fs fs → MemR K ρ' U am M' → X ⟨.ref (He.ga K x.cls), fs⟩ M'
  | .bad => False
theorem Post.mono {α δ : Type} {K : PySem.W.Frag} {rel : List Addr → Mem → α → δ → Prop} {ρ ρ' : List Addr} {U : Mem} {r : R α} {Q : δ → Mem → Prop} {X : XD} (h : Post K rel ρ U r Q X) (l : Le ρ ρ') : Post K rel ρ' U r Q X := by
  cases r with
  | ok a am => exact fun ρ2 d M' l2 => h ρ2 d M' (l.trans l2)
  | ex x am => exact fun ρ2 fs M' l2 => h ρ2 fs M' (l.trans l2)
  | bad => exact h
abbrev rA (K : PySem.W.Frag) : List Addr → Mem → A → D → Prop := fun ρ _ a d => relA K ρ a d
abbrev rAs (K : PySem.W.Frag) : List Addr → Mem → List A → List D → Prop := fun ρ _ a d => relAs K ρ a d
abbrev rEq {α : Type} : List Addr → Mem → α → α → Prop := fun _ _ a d => a = d
/-- a value, or what a name alone has, looked at -/
def rB (K : PySem.W.Frag) : List Addr → Mem → A → D → Prop := fun ρ U a d => relA K ρ a d ∨ ∃ l b l', a = .lst l ∧ d = .ref b ∧ U b = some (.lst l') ∧ relAs K ρ l l'
def rBs (K : PySem.W.Frag) : List Addr → Mem → List A → List D → Prop := fun ρ U as ds => as.length = ds.length ∧ ∀ (i : Nat) (a : A) (d : D), as[i]? = some a → ds[i]? = some d → rB K ρ U a d
theorem rB.mono {K : PySem.W.Frag} {ρ ρ' : List Addr} {U : Mem} {a : A} {d : D} (l : Le ρ ρ') (h : rB K ρ U a d) : rB K ρ' U a d := by
  rcases h with h | ⟨z, b, l', e1, e2, e3, e4⟩
  · exact .inl (relA.mono l _ _ h)
  · exact .inr ⟨z, b, l', e1, e2, e3, relAs.mono l _ _ e4⟩
def Ok {α δ : Type} (K : PySem.W.Frag) (ξ : Xi) (rel : List Addr → Mem → α → δ → Prop) (f : EnvD → Mem → (δ → Mem → Prop) → XD → Prop) (φ : AEnv → AM → R α) : Prop :=
  ∀ (ρ : List Addr) (U : Mem) (aenv : AEnv) (env : EnvD) (am : AM) (M : Mem) (Q : δ → Mem → Prop) (X : XD), EnvR K ρ U ξ aenv env → MemR K ρ U am M → Post K rel ρ U (φ aenv am) Q X → f env M Q X
theorem Ok.bind {α β δ ε : Type} {K : PySem.W.Frag} {ξ : Xi} {rel : List Addr → Mem → α → δ → Prop} {rel' : List Addr → Mem → β → ε → Prop} {f : EnvD → Mem → (δ → Mem → Prop) → XD → Prop} {φ : AEnv → AM → R α} {g : δ → EnvD → Mem → (ε → Mem → Prop) → XD → Prop} {γ : α → AEnv → AM → R β}
    (h1 : Ok K ξ rel f φ) (h2 : ∀ (ρ : List Addr) (U : Mem) (aenv : AEnv) (env : EnvD) (am : AM) (M : Mem) (Q : ε → Mem → Prop) (X : XD) (a : α) (d : δ), EnvR K ρ U ξ aenv env → MemR K ρ U am M → rel ρ U a d → Post K rel' ρ U (γ a aenv am) Q X → g d env M Q X) :
    Ok K ξ rel' (fun env M Q X => f env M (fun x M1 => g x env M1 Q X) X) (fun aenv am => (φ aenv am).bind fun a am1 => γ a aenv am1) := by
  intro ρ U aenv env am M Q X re rm p
  replace p : Post K rel' ρ U ((φ aenv am).bind fun a am1 => γ a aenv am1) Q X := p
  refine h1 ρ U aenv env am M _ X re rm ?_
  cases e : φ aenv am with
  | ok a am1 =>
    intro ρ' d M' l ra rm'
    rw [e] at p
    exact h2 ρ' U aenv env am1 M' Q X a d (re.mono l) rm' ra (Post.mono (r := γ a aenv am1) p l)
  | ex x am1 =>
    rw [e] at p
    exact p
  | bad =>
    rw [e] at p
    exact p
theorem Ok.imp {α δ : Type} {K : PySem.W.Frag} {ξ : Xi} {rel rel' : List Addr → Mem → α → δ → Prop} {f : EnvD → Mem → (δ → Mem → Prop) → XD → Prop} {φ : AEnv → AM → R α} (h : Ok K ξ rel f φ) (hi : ∀ ρ U a d, rel ρ U a d → rel' ρ U a d) : Ok K ξ rel' f φ := by
  intro ρ U aenv env am M Q X re rm p
  refine h ρ U aenv env am M Q X re rm ?_
  cases e : φ aenv am with
  | ok a am1 =>
    rw [e] at p
    exact fun ρ' d M' l r => p ρ' d M' l (hi _ _ _ _ r)
  | ex x am1 =>
    rw [e] at p
    exact p
  | bad =>
    rw [e] at p
    exact p
abbrev FE := AEnv → AM → R A
abbrev FEs := AEnv → AM → R (List A)
abbrev FT := AEnv → AM → R Bool
abbrev FO := AEnv → AM → R (Option Int)
abbrev OkE (K : PySem.W.Frag) (ξ : Xi) (f : DF) (φ : FE) : Prop := Ok K ξ (rA K) f φ
abbrev OkB (K : PySem.W.Frag) (ξ : Xi) (f : DF) (φ : FE) : Prop := Ok K ξ (rB K) f φ
abbrev OkA (K : PySem.W.Frag) (ξ : Xi) (f : DFs) (φ : FEs) : Prop := Ok K ξ (rAs K) f φ
abbrev OkAB (K : PySem.W.Frag) (ξ : Xi) (f : DFs) (φ : FEs) : Prop := Ok K ξ (rBs K) f φ
abbrev OkT (K : PySem.W.Frag) (ξ : Xi) (f : DFt) (φ : FT) : Prop := Ok K ξ rEq f φ
abbrev OkO (K : PySem.W.Frag) (ξ : Xi) (f : DFo) (φ : FO) : Prop := Ok K ξ rEq f φ
theorem OkE.b {K : PySem.W.Frag} {ξ : Xi} {f : DF} {φ : FE} (h : OkE K ξ f φ) : OkB K ξ f φ := h.imp fun _ _ _ _ r => .inl r
end FL
set_option maxHeartbeats 4000001
namespace FL
open PySem PySem.Spec
open PyProof.Rows L2 DL

/-! ### what things are -/
def seqA (m : AM) : A → Option (Bool × List A)
  | .lst l => some (true, l)
  | .tup l => some (false, l)
  | .loc n => match m[n]? with
    | some (.lst l) => some (true, l)
    | _ => none
  | _ => none
def tyA (m : AM) : A → Option String
  | .non => some "NoneType"
  | .bl _ => some "bool"
  | .int _ => some "int"
  | .str _ => some "str"
  | .ty _ => none
  | .fn _ => none
  | .loc n => match m[n]? with
    | some (.lst _) => (some "list")
    | some (.dct _) => some "dict"
    | _ => none
  | .lst _ => some "list"
  | .tup _ => some "tuple"
  | .dct _ => some "dict"
mutual
def pdWA (res : Nat → Option PyData) : A → Option PyData
  | .non => some .none
  | .bl b => some (.bool b)
  | .int i => some (.int i)
  | .str x => some (.str x)
  | .loc n => res n
  | .lst l => match pdsWA res l with
    | some ps => some (.list ps)
    | none => none
  | .tup l => match pdsWA res l with
    | some ps => some (.tuple ps)
    | none => none
  | .dct [] => some (.dict [])
  | .dct _ => none
  | .ty _ => none
  | .fn _ => none
def pdsWA (res : Nat → Option PyData) : List A → Option (List PyData)
  | [] => some []
  | d :: ds => match pdWA res d, pdsWA res ds with
    | some p, some ps => some (p :: ps)
    | _, _ => none
end
def resA (m : AM) : Nat → Nat → Option PyData
  | 0, _ => none
  | k + 1, n => match m[n]? with
    | some (.lst l) => match pdsWA (resA m k) l with
      | some ps => some (.list ps)
      | none => none
    | some (.dct []) => some (.dict [])
    | _ => none
def pd (m : AM) (a : A) : Option PyData := pdWA (resA m 2) a
section
variable {K : PySem.W.Frag} {ρ : List Addr} {U : Mem} {am : AM} {M : Mem}
theorem seq_of (m : MemR K ρ U am M) {a : A} {d : D} {b : Bool} {l : List A} (r : relA K ρ a d) (h : seqA am a = some (b, l)) : ∃ l', seqD M d = some (b, l') ∧ relAs K ρ l l' := by
  cases a with
  | lst l0 =>
    cases h
    obtain ⟨l', rfl, q⟩ := r
    exact ⟨l', rfl, q⟩
  | tup l0 =>
    cases h
    obtain ⟨l', rfl, q⟩ := r
    exact ⟨l', rfl, q⟩
  | loc n =>
    obtain ⟨c, e, rfl⟩ := r
    simp only [seqA] at h
    split at h
    · rename_i l2 e2
      cases h
      obtain ⟨l', h1, h2⟩ := m.at_loc e2 e
      exact ⟨l', by simp only [seqD, h1], h2⟩
    · cases h
  | non => cases h
  | bl _ => cases h
  | int _ => cases h
  | str _ => cases h
  | ty _ => cases h
  | fn _ => cases h
  | dct _ => cases h
theorem seq_ofB (m : MemR K ρ U am M) {a : A} {d : D} {b : Bool} {l : List A} (r : rB K ρ U a d) (h : seqA am a = some (b, l)) : ∃ l', seqD M d = some (b, l') ∧ relAs K ρ l l' := by
  rcases r with r | ⟨l0, c, l', rfl, rfl, hu, r⟩
  · exact seq_of m r h
  · cases h
    exact ⟨l', by simp only [seqD, m.un _ _ hu], r⟩
theorem ty_of (m : MemR K ρ U am M) {a : A} {d : D} {t : String} (r : relA K ρ a d) (h : tyA am a = some t) : tyD M d = some t := by
  cases a with
  | lst l0 =>
    obtain ⟨l', rfl, q⟩ := r
    exact h
  | tup l0 =>
    obtain ⟨l', rfl, q⟩ := r
    exact h
  | dct l0 =>
    obtain ⟨l', rfl, q⟩ := r
    exact h
  | loc n =>
    obtain ⟨c, e, rfl⟩ := r
    simp only [tyA] at h
    split at h
    · rename_i l2 e2
      obtain ⟨l', h1, h2⟩ := m.at_loc e2 e
      simp only [tyD, h1]
      exact h
    · rename_i l2 e2
      obtain ⟨b, u, h1, h2, h3, _⟩ := m.at_ n _ e2 (by simp)
      rw [e] at h1
      cases h1
      obtain ⟨l', rfl, _⟩ := h3
      simp only [tyD, h2]
      exact h
    · cases h
  | non => cases r; exact h
  | bl _ => cases r; exact h
  | int _ => cases r; exact h
  | str _ => cases r; exact h
  | ty _ => cases h
  | fn _ => cases h
theorem ty_ofB (m : MemR K ρ U am M) {a : A} {d : D} {t : String} (r : rB K ρ U a d) (h : tyA am a = some t) : tyD M d = some t := by
  rcases r with r | ⟨l0, c, l', rfl, rfl, hu, r⟩
  · exact ty_of m r h
  · simp only [tyD, m.un _ _ hu]
    exact h
mutual
theorem pdW_of {res : Nat → Option PyData} {rem : Addr → Option PyData} (hr : ∀ n a p, res n = some p → ρ[n]? = some a → rem a = some p) : ∀ (a : A) (d : D) (p : PyData), relA K ρ a d → pdWA res a = some p → DL.pdW rem d = some p
  | .non, d, p, r, h => by cases r; exact h
  | .bl _, d, p, r, h => by cases r; exact h
  | .int _, d, p, r, h => by cases r; exact h
  | .str _, d, p, r, h => by cases r; exact h
  | .ty _, d, p, r, h => by cases h
  | .fn _, d, p, r, h => by cases h
  | .loc n, d, p, r, h => by
    obtain ⟨c, e, rfl⟩ := r
    exact hr n c p h e
  | .lst l, d, p, r, h => by
    obtain ⟨l', rfl, q⟩ := r
    simp only [pdWA] at h
    split at h
    · rename_i ps e
      have z := pdsW_of hr l l' ps q e
      cases h
      simp only [DL.pdW, z]
    · cases h
  | .tup l, d, p, r, h => by
    obtain ⟨l', rfl, q⟩ := r
    simp only [pdWA] at h
    split at h
    · rename_i ps e
      have z := pdsW_of hr l l' ps q e
      cases h
      simp only [DL.pdW, z]
    · cases h
  | .dct [], d, p, r, h => by
    obtain ⟨l', rfl, q⟩ := r
    cases q
    exact h
  | .dct (_ :: _), d, p, r, h => by
    simp only [pdWA] at h
    cases h
theorem pdsW_of {res : Nat → Option PyData} {rem : Addr → Option PyData} (hr : ∀ n a p, res n = some p → ρ[n]? = some a → rem a = some p) : ∀ (l : List A) (l' : List D) (ps : List PyData), relAs K ρ l l' → pdsWA res l = some ps → DL.pdsW rem l' = some ps
  | [], l', ps, r, h => by cases r; exact h
  | a :: as, l', ps, r, h => by
    obtain ⟨d, t, rfl, r1, r2⟩ := r
    simp only [pdsWA] at h
    split at h
    · rename_i p ps' e1 e2
      cases h
      simp only [DL.pdsW, pdW_of hr a d p r1 e1, pdsW_of hr as t ps' r2 e2]
    · cases h
end
theorem res_of (m : MemR K ρ U am M) : ∀ (k j n : Nat) (a : Addr) (p : PyData), k ≤ j → resA am k n = some p → ρ[n]? = some a → resM M j a = some p
  | 0, _, _, _, _, _, h, _ => by cases h
  | k + 1, 0, _, _, _, hj, _, _ => by omega
  | k + 1, j + 1, n, a, p, hj, h, e => by
    simp only [resA] at h
    split at h
    · rename_i l el
      obtain ⟨l', h1, h2⟩ := m.at_loc el e
      split at h
      · rename_i ps eps
        have z := pdsW_of (fun n a p h1 h2 => res_of m k j n a p (by omega) h1 h2) l l' ps h2 eps
        simp only [resM, h1, z]
        exact h
      · cases h
    · rename_i el
      obtain ⟨b, u, h1, h2, h3, _⟩ := m.at_ n _ el (by simp)
      rw [e] at h1
      cases h1
      obtain ⟨l', rfl, q⟩ := h3
      cases q
      simp only [resM, h2]
      exact h
    · cases h
theorem pd_of (m : MemR K ρ U am M) {a : A} {d : D} {p : PyData} (r : relA K ρ a d) (h : pd am a = some p) : pdM M d = some p :=
  pdW_of (fun n a p h1 h2 => res_of m 2 3 n a p (by decide) h1 h2) a d p r h
theorem pd_ofB (m : MemR K ρ U am M) {a : A} {d : D} {p : PyData} (r : rB K ρ U a d) (h : pd am a = some p) : pdM M d = some p := by
  rcases r with r | ⟨l0, c, l', rfl, rfl, hu, r⟩
  · exact pd_of m r h
  · simp only [pd, pdWA] at h
    split at h
    · rename_i ps e
      have z := pdsW_of (fun n a p h1 h2 => res_of m 2 2 n a p (by decide) h1 h2) l0 l' ps r e
      have y : resM M 3 c = match M c with
        | some (.lst l) => match DL.pdsW (resM M 2) l with
          | some ps => some (.list ps)
          | none => none
        | some (.dct []) => some (.dict [])
        | _ => none := rfl
      show resM M 3 c = _
      rw [y, m.un _ _ hu]
      simp only [z]
      exact h
    · cases h
end

/-! ### steps of two, of many -/
def PostO (K : PySem.W.Frag) (ρ : List Addr) (U : Mem) (r : Option (A × AM)) (Q : QD) : Prop := match r with
  | some (a, am) => ∀ ρ' d M', Le ρ ρ' → relA K ρ' a d → MemR K ρ' U am M' → Q d M'
  | none => False
def ofO (r : Option (A × AM)) : R A := match r with
  | some (a, m) => .ok a m
  | none => .bad
theorem PostO.of {K : PySem.W.Frag} {ρ : List Addr} {U : Mem} {r : Option (A × AM)} {Q : QD} {X : XD} (h : Post K (rA K) ρ U (ofO r) Q X) : PostO K ρ U r Q := by
  cases r with
  | none => exact h
  | some p => exact h
abbrev P2 := A → A → AM → Option (A × AM)
abbrev P1 := List A → AM → Option (A × AM)
def Ok2 (K : PySem.W.Frag) (g : G2) (γ : P2) : Prop := ∀ ρ U am M Q a b x y, MemR K ρ U am M → rB K ρ U a x → rB K ρ U b y → PostO K ρ U (γ a b am) Q → g x y M Q
def OkC (K : PySem.W.Frag) (g : GC) (γ : P1) : Prop := ∀ ρ U am M Q as ds, MemR K ρ U am M → rBs K ρ U as ds → PostO K ρ U (γ as am) Q → g ds M Q
theorem PostO.now {K : PySem.W.Frag} {ρ : List Addr} {U : Mem} {am : AM} {M : Mem} {Q : QD} {a : A} {d : D} (h : PostO K ρ U (some (a, am)) Q) (m : MemR K ρ U am M) (r : relA K ρ a d) : Q d M := h ρ d M (Le.refl _) r m
def pOp (γ : P2) (φ ψ : FE) : FE := fun env m => (φ env m).bind fun x m1 => (ψ env m1).bind fun y m2 => ofO (γ x y m2)
def pNil : FEs := fun _ m => .ok [] m
def pCons (φ : FE) (ψ : FEs) : FEs := fun env m => (φ env m).bind fun x m1 => (ψ env m1).bind fun xs m2 => .ok (x :: xs) m2
def pCB (γ : P1) (ψ : FEs) : FE := fun env m => (ψ env m).bind fun xs m1 => ofO (γ xs m1)
theorem Ok.use {α β δ ε : Type} {K : PySem.W.Frag} {ξ : Xi} {rel : List Addr → Mem → α → δ → Prop} {rel' : List Addr → Mem → β → ε → Prop} {f : EnvD → Mem → (δ → Mem → Prop) → XD → Prop} {φ : AEnv → AM → R α} {ρ : List Addr} {U : Mem} {aenv : AEnv} {env : EnvD} {am : AM} {M : Mem} {Q : ε → Mem → Prop} {Qf : δ → Mem → Prop} {X : XD} {k : α → AM → R β}
    (h : Ok K ξ rel f φ) (re : EnvR K ρ U ξ aenv env) (rm : MemR K ρ U am M) (p : Post K rel' ρ U ((φ aenv am).bind k) Q X)
    (q : ∀ (ρ' : List Addr) (a : α) (d : δ) (am1 : AM) (M1 : Mem), Le ρ ρ' → rel ρ' U a d → EnvR K ρ' U ξ aenv env → MemR K ρ' U am1 M1 → Post K rel' ρ' U (k a am1) Q X → Qf d M1) : f env M Qf X := by
  refine h ρ U aenv env am M _ X re rm ?_
  cases e : φ aenv am with
  | ok a am1 =>
    intro ρ' d M' l ra rm'
    rw [e] at p
    exact q ρ' a d am1 M' l ra (re.mono l) rm' (Post.mono (r := k a am1) p l)
  | ex x am1 =>
    rw [e] at p
    exact p
  | bad =>
    rw [e] at p
    exact p
theorem Post.now {α δ : Type} {K : PySem.W.Frag} {rel : List Addr → Mem → α → δ → Prop} {ρ : List Addr} {U : Mem} {am : AM} {M : Mem} {Q : δ → Mem → Prop} {X : XD} {a : α} {d : δ} (h : Post K rel ρ U (.ok a am) Q X) (m : MemR K ρ U am M) (r : rel ρ U a d) : Q d M := h ρ d M (Le.refl _) r m
def pVar (i : Nat) : FE := fun env m => match env[i]? with
  | some (.val a) => .ok a m
  | _ => .bad
def pVarB (i : Nat) : FE := fun env m => match env[i]? with
  | some (.val a) => .ok a m
  | some (.own l) => .ok (.lst l) m
  | _ => .bad
def pC (a : A) : FE := fun _ m => .ok a m
def pTup (ψ : FEs) : FE := fun env m => (ψ env m).bind fun xs m1 => if xs.length ≤ 1000 then .ok (.tup xs) m1 else .bad
def pLstF (ψ : FEs) : FE := fun env m => (ψ env m).bind fun xs m1 => if xs.length ≤ 1000 then .ok (.lst xs) m1 else .bad
def pLst (ψ : FEs) : FE := fun env m => (ψ env m).bind fun xs m1 => if xs.length ≤ 1000 then .ok (.loc m1.length) (m1 ++ [.lst xs]) else .bad
def asB (a : A) : Option Bool := match a with
  | .bl b => some b
  | _ => none
def asI (a : A) : Option Int := match a with
  | .int b => some b
  | _ => none
def bOf {β : Type} (a : A) (k : Bool → R β) : R β := match a with
  | .bl b => k b
  | _ => .bad
def iOf {β : Type} (a : A) (k : Int → R β) : R β := match a with
  | .int b => k b
  | _ => .bad
def pVal (φ : FE) : FT := fun env m => (φ env m).bind fun a m1 => bOf a fun b => .ok b m1
def pAndT (φ ψ : FT) : FT := fun env m => (φ env m).bind fun b m1 => bif b then ψ env m1 else .ok false m1
def pOrT (φ ψ : FT) : FT := fun env m => (φ env m).bind fun b m1 => bif b then .ok true m1 else ψ env m1
def pNotT (φ : FT) : FT := fun env m => (φ env m).bind fun b m1 => .ok (!b) m1
def pAnd (φ ψ : FE) : FE := fun env m => (φ env m).bind fun a m1 => bOf a fun b => bif b then ψ env m1 else .ok (.bl false) m1
def pOr (φ ψ : FE) : FE := fun env m => (φ env m).bind fun a m1 => bOf a fun b => bif b then .ok (.bl true) m1 else ψ env m1
def pNot (φ : FE) : FE := fun env m => (φ env m).bind fun a m1 => bOf a fun b => .ok (.bl (!b)) m1
def pIf (c : FT) (φ ψ : FE) : FE := fun env m => (c env m).bind fun b m1 => bif b then φ env m1 else ψ env m1
def pChain (γ1 γ2 : P2) (φ ψ χ : FE) : FE := fun env m => (φ env m).bind fun x m1 => (ψ env m1).bind fun y m2 => (ofO (γ1 x y m2)).bind fun z m3 => bOf z fun b => bif b then (χ env m3).bind fun w m4 => ofO (γ2 y w m4) else .ok (.bl false) m3
def pNeg (φ : FE) : FE := fun env m => (φ env m).bind fun a m1 => iOf a fun i => .ok (.int (-i)) m1
def pDct0 : FE := fun _ m => .ok (.dct []) m
def pIsi2 (c1 c2 : String) (φ : FE) : FE := fun env m => (φ env m).bind fun a m1 => match tyA m1 a with
  | some t => .ok (.bl (isiB t c1 || isiB t c2)) m1
  | none => .bad
def pNoP : FO := fun _ m => .ok none m
def pPt (φ : FE) : FO := fun env m => (φ env m).bind fun a m1 => iOf a fun i => .ok (some i) m1
def cutA (xs : List A) (lo hi : Option Int) : List A := (xs.drop (HT.sIx xs.length 0 lo)).take (HT.sIx xs.length xs.length hi - HT.sIx xs.length 0 lo)
def aSl (a : A) (lo hi : Option Int) (m : AM) : Option A := match seqA m a with
  | some (true, l) => some (.lst (cutA l lo hi))
  | some (false, l) => some (.tup (cutA l lo hi))
  | none => none
def ofP1 (r : Option A) (m : AM) : R A := match r with
  | some a => .ok a m
  | none => .bad
def pSl (φ : FE) (lo hi : FO) : FE := fun env m => (φ env m).bind fun a m1 => (lo env m1).bind fun l m2 => (hi env m2).bind fun u m3 => ofP1 (aSl a l u m3) m3
def pSlM (φ : FE) (lo hi : FO) : FE := fun env m => (φ env m).bind fun a m1 => (lo env m1).bind fun l m2 => (hi env m2).bind fun u m3 => match seqA m3 a with
  | some (true, xs) => .ok (.loc m3.length) (m3 ++ [.lst (cutA xs l u)])
  | _ => .bad
def pRev (φ : FE) : FE := fun env m => (φ env m).bind fun a m1 => match seqA m1 a with
  | some (true, l) => .ok (.lst l.reverse) m1
  | _ => .bad
def lstOf {β : Type} (m : AM) (a : A) (k : Nat → List A → R β) : R β := match a with
  | .loc n => match m[n]? with
    | some (.lst l) => k n l
    | _ => .bad
  | _ => .bad
def pApp (φ ψ : FE) : FE := fun env m => (φ env m).bind fun o m1 => lstOf m1 o fun _ _ => (ψ env m1).bind fun d m2 => lstOf m2 o fun n l => if l.length < 1000000 then .ok .non (m2.set n (.lst (l ++ [d]))) else .bad
def pPop (φ : FE) : FE := fun env m => (φ env m).bind fun o m1 => lstOf m1 o fun n l => match l[l.length - 1]? with
  | some d => .ok d (m1.set n (.lst l.dropLast))
  | none => .bad
def pFrz (φ : FE) : FE := fun env m => (φ env m).bind fun o m1 => lstOf m1 o fun n l => .ok (.lst l) (m1.set n .dead)
abbrev FF := List A → AM → R A
def pCall (F : FF) (ψ : FEs) : FE := fun env m => (ψ env m).bind fun xs m1 => F xs m1
def pCallK (F : FF) (g : List A → List A → List A) (ψ χ : FEs) : FE := fun env m => (ψ env m).bind fun xs m1 => (χ env m1).bind fun ys m2 => F (g xs ys) m2
def pFld (i : Nat) (C nm : Str) : FE := fun env m => match env[i]? with
  | some (.exn c fs) => if c = C then (match fs.lookup nm with
    | some a => .ok a m
    | none => .bad) else .bad
  | _ => .bad
section
variable {K : PySem.W.Frag} {ξ : Xi} {f1 f2 f3 : DF} {φ ψ χ : FE} {t1 t2 : DFt} {τ1 τ2 : FT} {fs gs : DFs} {φs ψs : FEs}
theorem ok_op {g : G2} {γ : P2} (hg : Ok2 K g γ) (h1 : OkB K ξ f1 φ) (h2 : OkB K ξ f2 ψ) : OkE K ξ (dOp g f1 f2) (pOp γ φ ψ) := fun ρ U aenv env am M Q X re rm p =>
  h1.use re rm p fun ρ1 a d am1 M1 l1 ra re1 rm1 p1 => h2.use re1 rm1 p1 fun ρ2 b e am2 M2 l2 rb re2 rm2 p2 => hg _ _ _ _ _ _ _ _ _ rm2 (ra.mono l2) rb (PostO.of p2)
theorem ok_var {i : Nat} : OkE K ξ (dVar i) (pVar i) := fun ρ U aenv env am M Q X re rm p => by
  unfold pVar at p
  split at p
  · rename_i a e
    obtain ⟨s, e1, d, rfl, r⟩ := re.get i _ e
    unfold dVar
    rw [e1]
    exact p.now rm r
  · exact p.elim
theorem ok_varB {i : Nat} : OkB K ξ (dVar i) (pVarB i) := fun ρ U aenv env am M Q X re rm p => by
  unfold pVarB at p
  split at p
  · rename_i a e
    obtain ⟨s, e1, d, rfl, r⟩ := re.get i _ e
    unfold dVar
    rw [e1]
    exact p.now rm (.inl r)
  · rename_i l e
    obtain ⟨s, e1, a, l', rfl, hu, r⟩ := re.get i _ e
    unfold dVar
    rw [e1]
    exact p.now rm (.inr ⟨l, a, l', rfl, rfl, hu, r⟩)
  · exact p.elim
theorem ok_c {d : D} {a : A} (h : ∀ ρ, relA K ρ a d) : OkE K ξ (dC d) (pC a) := fun ρ U aenv env am M Q X re rm p => p.now rm (h ρ)
theorem ok_nil : OkA K ξ dNil pNil := fun ρ U aenv env am M Q X re rm p => p.now rm rfl
theorem ok_nilB : OkAB K ξ dNil pNil := fun ρ U aenv env am M Q X re rm p => p.now rm ⟨rfl, fun i a d h => by simp at h⟩
theorem ok_cons (h1 : OkE K ξ f1 φ) (h2 : OkA K ξ fs φs) : OkA K ξ (dCons f1 fs) (pCons φ φs) := fun ρ U aenv env am M Q X re rm p =>
  h1.use re rm p fun ρ1 a d am1 M1 l1 ra re1 rm1 p1 => h2.use re1 rm1 p1 fun ρ2 b e am2 M2 l2 rb re2 rm2 p2 => p2.now rm2 ⟨d, e, rfl, relA.mono l2 _ _ ra, rb⟩
theorem ok_consB (h1 : OkB K ξ f1 φ) (h2 : OkAB K ξ fs φs) : OkAB K ξ (dCons f1 fs) (pCons φ φs) := fun ρ U aenv env am M Q X re rm p =>
  h1.use re rm p fun ρ1 a d am1 M1 l1 ra re1 rm1 p1 => h2.use re1 rm1 p1 fun ρ2 b e am2 M2 l2 rb re2 rm2 p2 => p2.now rm2 ⟨by simp [rb.1], fun i x y e1 e2 => by
    cases i with
    | zero =>
      simp at e1 e2
      subst e1 e2
      exact ra.mono l2
    | succ i => exact rb.2 i x y (by simpa using e1) (by simpa using e2)⟩
theorem ok_cb {g : GC} {γ : P1} (hg : OkC K g γ) (h : OkAB K ξ fs φs) : OkE K ξ (dCB g fs) (pCB γ φs) := fun ρ U aenv env am M Q X re rm p =>
  h.use re rm p fun ρ1 a d am1 M1 l1 ra re1 rm1 p1 => hg _ _ _ _ _ _ _ rm1 ra (PostO.of p1)
theorem ok_tup (h : OkA K ξ fs φs) : OkE K ξ (dTup fs) (pTup φs) := fun ρ U aenv env am M Q X re rm p =>
  h.use re rm p fun ρ1 a d am1 M1 l1 ra re1 rm1 p1 => by
    split at p1
    · rename_i hl
      exact ⟨by rw [relAs.length ra]; exact hl, p1.now rm1 ⟨d, rfl, ra⟩⟩
    · exact p1.elim
theorem ok_lstF (h : OkA K ξ fs φs) : OkE K ξ (dLstF fs) (pLstF φs) := fun ρ U aenv env am M Q X re rm p =>
  h.use re rm p fun ρ1 a d am1 M1 l1 ra re1 rm1 p1 => by
    split at p1
    · rename_i hl
      exact ⟨by rw [relAs.length ra]; exact hl, p1.now rm1 ⟨d, rfl, ra⟩⟩
    · exact p1.elim
theorem loc_new {ρ : List Addr} {U : Mem} {am : AM} {M : Mem} (m : MemR K ρ U am M) (a : Addr) : (ρ ++ [a])[am.length]? = some a := by rw [← m.len]; simp
theorem ok_lst (h : OkA K ξ fs φs) : OkE K ξ (dLst fs) (pLst φs) := fun ρ U aenv env am M Q X re rm p =>
  h.use re rm p fun ρ1 a d am1 M1 l1 ra re1 rm1 p1 => by
    split at p1
    · rename_i hl
      exact ⟨by rw [relAs.length ra]; exact hl, fun c hc => p1 (ρ1 ++ [c]) _ _ (Le.snoc _ _) ⟨c, loc_new rm1 c, rfl⟩ (rm1.put hc ⟨d, rfl, ra⟩)⟩
    · exact p1.elim
theorem bOf_use {β ε : Type} {rel' : List Addr → Mem → β → ε → Prop} {ρ : List Addr} {U : Mem} {a : A} {d : D} {k : Bool → R β} {Q : ε → Mem → Prop} {X : XD} {P : Bool → Prop} (r : rB K ρ U a d) (p : Post K rel' ρ U (bOf a k) Q X) (q : ∀ b, Post K rel' ρ U (k b) Q X → P b) : DL.asB d P := by
  cases a with
  | bl b =>
    rcases r with r | ⟨_, _, _, e, _⟩
    · cases r
      exact q b p
    · cases e
  | _ => exact p.elim
theorem iOf_use {β ε : Type} {rel' : List Addr → Mem → β → ε → Prop} {ρ : List Addr} {U : Mem} {a : A} {d : D} {k : Int → R β} {Q : ε → Mem → Prop} {X : XD} {P : Int → Prop} (r : rB K ρ U a d) (p : Post K rel' ρ U (iOf a k) Q X) (q : ∀ b, Post K rel' ρ U (k b) Q X → P b) : DL.asI d P := by
  cases a with
  | int b =>
    rcases r with r | ⟨_, _, _, e, _⟩
    · cases r
      exact q b p
    · cases e
  | _ => exact p.elim
theorem ok_val (h : OkB K ξ f1 φ) : OkT K ξ (dVal f1) (pVal φ) := fun ρ U aenv env am M Q X re rm p =>
  h.use re rm p fun ρ1 a d am1 M1 l1 ra re1 rm1 p1 => bOf_use ra p1 fun b p2 => p2.now rm1 rfl
theorem ok_andT (h1 : OkT K ξ t1 τ1) (h2 : OkT K ξ t2 τ2) : OkT K ξ (dAndT t1 t2) (pAndT τ1 τ2) := fun ρ U aenv env am M Q X re rm p =>
  h1.use re rm p fun ρ1 a d am1 M1 l1 ra re1 rm1 p1 => by
    cases ra
    cases a with
    | true => exact ⟨fun _ => h2 _ _ _ _ _ _ _ _ re1 rm1 p1, fun z => by cases z⟩
    | false => exact ⟨fun z => (by cases z), fun _ => p1.now rm1 rfl⟩
theorem ok_orT (h1 : OkT K ξ t1 τ1) (h2 : OkT K ξ t2 τ2) : OkT K ξ (dOrT t1 t2) (pOrT τ1 τ2) := fun ρ U aenv env am M Q X re rm p =>
  h1.use re rm p fun ρ1 a d am1 M1 l1 ra re1 rm1 p1 => by
    cases ra
    cases a with
    | true => exact ⟨fun _ => p1.now rm1 rfl, fun z => by cases z⟩
    | false => exact ⟨fun z => (by cases z), fun _ => h2 _ _ _ _ _ _ _ _ re1 rm1 p1⟩
theorem ok_notT (h1 : OkT K ξ t1 τ1) : OkT K ξ (dNotT t1) (pNotT τ1) := fun ρ U aenv env am M Q X re rm p =>
  h1.use re rm p fun ρ1 a d am1 M1 l1 ra re1 rm1 p1 => by
    cases ra
    exact p1.now rm1 rfl
theorem ok_and (h1 : OkB K ξ f1 φ) (h2 : OkE K ξ f2 ψ) : OkE K ξ (dAnd f1 f2) (pAnd φ ψ) := fun ρ U aenv env am M Q X re rm p =>
  h1.use re rm p fun ρ1 a d am1 M1 l1 ra re1 rm1 p1 => bOf_use ra p1 fun b p2 => by
    cases b with
    | true => exact ⟨fun _ => h2 _ _ _ _ _ _ _ _ re1 rm1 p2, fun z => by cases z⟩
    | false => exact ⟨fun z => (by cases z), fun _ => p2.now rm1 rfl⟩
theorem ok_or (h1 : OkB K ξ f1 φ) (h2 : OkE K ξ f2 ψ) : OkE K ξ (dOr f1 f2) (pOr φ ψ) := fun ρ U aenv env am M Q X re rm p =>
  h1.use re rm p fun ρ1 a d am1 M1 l1 ra re1 rm1 p1 => bOf_use ra p1 fun b p2 => by
    cases b with
    | true => exact ⟨fun _ => p2.now rm1 rfl, fun z => by cases z⟩
    | false => exact ⟨fun z => (by cases z), fun _ => h2 _ _ _ _ _ _ _ _ re1 rm1 p2⟩
theorem ok_not (h1 : OkB K ξ f1 φ) : OkE K ξ (dNot f1) (pNot φ) := fun ρ U aenv env am M Q X re rm p =>
  h1.use re rm p fun ρ1 a d am1 M1 l1 ra re1 rm1 p1 => bOf_use ra p1 fun b p2 => p2.now rm1 rfl
theorem ok_if (h1 : OkT K ξ t1 τ1) (h2 : OkE K ξ f2 ψ) (h3 : OkE K ξ f3 χ) : OkE K ξ (dIf t1 f2 f3) (pIf τ1 ψ χ) := fun ρ U aenv env am M Q X re rm p =>
  h1.use re rm p fun ρ1 a d am1 M1 l1 ra re1 rm1 p1 => by
    cases ra
    cases a with
    | true => exact ⟨fun _ => h2 _ _ _ _ _ _ _ _ re1 rm1 p1, fun z => by cases z⟩
    | false => exact ⟨fun z => (by cases z), fun _ => h3 _ _ _ _ _ _ _ _ re1 rm1 p1⟩
theorem ofO_use {β ε : Type} {rel' : List Addr → Mem → β → ε → Prop} {ρ : List Addr} {U : Mem} {r : Option (A × AM)} {k : A → AM → R β} {Q : ε → Mem → Prop} {X : XD} {P : QD} (p : Post K rel' ρ U ((ofO r).bind k) Q X) (q : ∀ ρ' a d am' M', Le ρ ρ' → relA K ρ' a d → MemR K ρ' U am' M' → Post K rel' ρ' U (k a am') Q X → P d M') : PostO K ρ U r P := by
  cases r with
  | none => exact p
  | some x => exact fun ρ' d M' l ra rm => q ρ' _ d _ M' l ra rm (Post.mono (r := k x.1 x.2) p l)
theorem ok_chain {g1 g2 : G2} {γ1 γ2 : P2} (hg1 : Ok2 K g1 γ1) (hg2 : Ok2 K g2 γ2) (h1 : OkB K ξ f1 φ) (h2 : OkB K ξ f2 ψ) (h3 : OkB K ξ f3 χ) : OkE K ξ (dChain g1 g2 f1 f2 f3) (pChain γ1 γ2 φ ψ χ) := fun ρ U aenv env am M Q X re rm p =>
  h1.use re rm p fun ρ1 a d am1 M1 l1 ra re1 rm1 p1 => h2.use re1 rm1 p1 fun ρ2 b e am2 M2 l2 rb re2 rm2 p2 => hg1 _ _ _ _ _ _ _ _ _ rm2 (ra.mono l2) rb (ofO_use p2 fun ρ3 z w am3 M3 l3 rz rm3 p3 =>
    bOf_use (.inl rz) p3 fun k p4 => by
      cases k with
      | true => exact ⟨fun _ => h3.use (re2.mono l3) rm3 p4 fun ρ4 c v am4 M4 l4 rc re4 rm4 p5 => hg2 _ _ _ _ _ _ _ _ _ rm4 (rb.mono (l3.trans l4)) rc (PostO.of p5), fun z => by cases z⟩
      | false => exact ⟨fun z => (by cases z), fun _ => p4.now rm3 rfl⟩)
theorem ok_neg (h1 : OkB K ξ f1 φ) : OkE K ξ (dNeg f1) (pNeg φ) := fun ρ U aenv env am M Q X re rm p =>
  h1.use re rm p fun ρ1 a d am1 M1 l1 ra re1 rm1 p1 => iOf_use ra p1 fun b p2 => p2.now rm1 rfl
theorem ok_dct0 : OkE K ξ dDct0 pDct0 := fun ρ U aenv env am M Q X re rm p => p.now rm ⟨[], rfl, rfl⟩
theorem ok_isi2 {c1 c2 : String} (h1 : OkB K ξ f1 φ) : OkE K ξ (dIsi2 c1 c2 f1) (pIsi2 c1 c2 φ) := fun ρ U aenv env am M Q X re rm p =>
  h1.use re rm p fun ρ1 a d am1 M1 l1 ra re1 rm1 p1 => by
    split at p1
    · rename_i t e
      simp only [ty_ofB rm1 ra e]
      exact p1.now rm1 rfl
    · exact p1.elim
theorem ok_noP : OkO K ξ dNoP pNoP := fun ρ U aenv env am M Q X re rm p => p.now rm rfl
theorem ok_pt (h1 : OkB K ξ f1 φ) : OkO K ξ (dPt f1) (pPt φ) := fun ρ U aenv env am M Q X re rm p =>
  h1.use re rm p fun ρ1 a d am1 M1 l1 ra re1 rm1 p1 => iOf_use ra p1 fun b p2 => p2.now rm1 rfl
theorem cut_of {ρ : List Addr} {l : List A} {l' : List D} (h : relAs K ρ l l') (lo hi : Option Int) : relAs K ρ (cutA l lo hi) (DL.cutD l' lo hi) := by
  unfold cutA DL.cutD
  rw [h.length]
  exact (h.drop _).take _
theorem ok_sl {lo hi : DFo} {τlo τhi : FO} (h1 : OkB K ξ f1 φ) (h2 : OkO K ξ lo τlo) (h3 : OkO K ξ hi τhi) : OkE K ξ (dSl f1 lo hi) (pSl φ τlo τhi) := fun ρ U aenv env am M Q X re rm p =>
  h1.use re rm p fun ρ1 a d am1 M1 l1 ra re1 rm1 p1 => h2.use re1 rm1 p1 fun ρ2 b e am2 M2 l2 rb re2 rm2 p2 => h3.use re2 rm2 p2 fun ρ3 c v am3 M3 l3 rc re3 rm3 p3 => by
    cases rb
    cases rc
    have ra3 := (ra.mono l2).mono l3
    unfold gSl
    cases e1 : seqA am3 a with
    | none =>
      simp only [aSl, e1] at p3
      exact p3.elim
    | some z =>
      obtain ⟨w, l⟩ := z
      obtain ⟨l2', h1', h2'⟩ := seq_ofB rm3 ra3 e1
      rw [h1']
      cases w with
      | true =>
        simp only [aSl, e1] at p3
        exact Post.now (rel := rA K) p3 rm3 ⟨_, rfl, cut_of h2' _ _⟩
      | false =>
        simp only [aSl, e1] at p3
        exact Post.now (rel := rA K) p3 rm3 ⟨_, rfl, cut_of h2' _ _⟩
theorem ok_slM {lo hi : DFo} {τlo τhi : FO} (h1 : OkB K ξ f1 φ) (h2 : OkO K ξ lo τlo) (h3 : OkO K ξ hi τhi) : OkE K ξ (dSlM f1 lo hi) (pSlM φ τlo τhi) := fun ρ U aenv env am M Q X re rm p =>
  h1.use re rm p fun ρ1 a d am1 M1 l1 ra re1 rm1 p1 => h2.use re1 rm1 p1 fun ρ2 b e am2 M2 l2 rb re2 rm2 p2 => h3.use re2 rm2 p2 fun ρ3 c v am3 M3 l3 rc re3 rm3 p3 => by
    cases rb
    cases rc
    have ra3 := (ra.mono l2).mono l3
    split at p3
    · rename_i l e0
      obtain ⟨l2', h1', h2'⟩ := seq_ofB rm3 ra3 e0
      exact ⟨l2', h1', fun n hn => p3 (ρ3 ++ [n]) _ _ (Le.snoc _ _) ⟨n, loc_new rm3 n, rfl⟩ (rm3.put hn ⟨_, rfl, cut_of h2' _ _⟩)⟩
    · exact p3.elim
theorem ok_rev (h1 : OkB K ξ f1 φ) : OkE K ξ (dRev f1) (pRev φ) := fun ρ U aenv env am M Q X re rm p =>
  h1.use re rm p fun ρ1 a d am1 M1 l1 ra re1 rm1 p1 => by
    split at p1
    · rename_i l e
      obtain ⟨l', h1', h2'⟩ := seq_ofB rm1 ra e
      exact ⟨l', h1', p1.now rm1 ⟨_, rfl, h2'.reverse⟩⟩
    · exact p1.elim
theorem lstOf_use {β ε : Type} {rel' : List Addr → Mem → β → ε → Prop} {ρ : List Addr} {U : Mem} {am : AM} {M : Mem} {a : A} {d : D} {k : Nat → List A → R β} {Q : ε → Mem → Prop} {X : XD} {P : Addr → List D → Prop} (m : MemR K ρ U am M) (r : relA K ρ a d) (p : Post K rel' ρ U (lstOf am a k) Q X)
    (q : ∀ n l c l', a = .loc n → am[n]? = some (.lst l) → ρ[n]? = some c → M c = some (.lst l') → relAs K ρ l l' → Post K rel' ρ U (k n l) Q X → P c l') : atRef d fun c => lstAt M c (P c) := by
  cases a with
  | loc n =>
    obtain ⟨c, e, rfl⟩ := r
    simp only [lstOf] at p
    split at p
    · rename_i l el
      obtain ⟨l', h1, h2⟩ := m.at_loc el e
      show lstAt M c (P c)
      unfold lstAt
      rw [h1]
      exact q n l c l' rfl el e h1 h2 p
    · exact p.elim
  | _ => exact p.elim
theorem ok_app (h1 : OkE K ξ f1 φ) (h2 : OkE K ξ f2 ψ) : OkE K ξ (dApp f1 f2) (pApp φ ψ) := fun ρ U aenv env am M Q X re rm p =>
  h1.use re rm p fun ρ1 a d am1 M1 l1 ra re1 rm1 p1 => lstOf_use rm1 ra p1 fun n l c l' ea e1 e2 e3 _ p2 => h2.use re1 rm1 p2 fun ρ2 b e am2 M2 l2 rb re2 rm2 p3 => by
    have q := lstOf_use (P := fun c l => l.length < 1000000 ∧ Q .non (mput M2 c (.lst (l ++ [e])))) rm2 (relA.mono l2 _ _ ra) p3 fun n l c l' ea e1 e2 e3 rl p4 => by
      split at p4
      · rename_i hl
        exact ⟨by rw [rl.length]; exact hl, p4 ρ2 _ _ (Le.refl _) rfl (rm2.upd e1 (by simp) e2 ⟨_, rfl, rl.append (.one rb)⟩)⟩
      · exact p4.elim
    subst ea
    obtain ⟨c', e4, rfl⟩ := ra
    rw [e2] at e4
    cases e4
    exact q
theorem ok_pop (h1 : OkE K ξ f1 φ) : OkE K ξ (dPop f1) (pPop φ) := fun ρ U aenv env am M Q X re rm p =>
  h1.use re rm p fun ρ1 a d am1 M1 l1 ra re1 rm1 p1 => lstOf_use rm1 ra p1 fun n l c l' ea e1 e2 e3 rl p2 => by
    split at p2
    · rename_i x ex
      obtain ⟨y, ey, ry⟩ := rl.get ex
      exact ⟨y, by rw [rl.length]; exact ey, p2 ρ1 _ _ (Le.refl _) ry (rm1.upd e1 (by simp) e2 ⟨_, rfl, rl.dropLast⟩)⟩
    · exact p2.elim
theorem ok_frz (h1 : OkE K ξ f1 φ) : OkE K ξ (dFrz f1) (pFrz φ) := fun ρ U aenv env am M Q X re rm p =>
  h1.use re rm p fun ρ1 a d am1 M1 l1 ra re1 rm1 p1 => lstOf_use rm1 ra p1 fun n l c l' ea e1 e2 e3 rl p2 => p2 ρ1 _ _ (Le.refl _) ⟨_, rfl, rl⟩ (rm1.kill e1 (by simp) e2)
def OkF (K : PySem.W.Frag) (F : FD) (Φ : FF) : Prop := ∀ ρ U am M as ds P Z, relAs K ρ as ds → MemR K ρ U am M → Post K (rA K) ρ U (Φ as am) P Z → F ds M P Z
theorem ok_call {F : FD} {Φ : FF} (hF : OkF K F Φ) (h : OkA K ξ fs φs) : OkE K ξ (dCall F fs) (pCall Φ φs) := fun ρ U aenv env am M Q X re rm p =>
  h.use re rm p fun ρ1 a d am1 M1 l1 ra re1 rm1 p1 => hF _ _ _ _ _ _ _ _ ra rm1 p1
theorem ok_callK {F : FD} {Φ : FF} {gD : List D → List D → List D} {gA : List A → List A → List A} (hF : OkF K F Φ) (hg : ∀ ρ as ds bs es, relAs K ρ as ds → relAs K ρ bs es → relAs K ρ (gA as bs) (gD ds es)) (h1 : OkA K ξ fs φs) (h2 : OkA K ξ gs ψs) : OkE K ξ (dCallK F gD fs gs) (pCallK Φ gA φs ψs) := fun ρ U aenv env am M Q X re rm p =>
  h1.use re rm p fun ρ1 a d am1 M1 l1 ra re1 rm1 p1 => h2.use re1 rm1 p1 fun ρ2 b e am2 M2 l2 rb re2 rm2 p2 => hF _ _ _ _ _ _ _ _ (hg _ _ _ _ _ (relAs.mono l2 _ _ ra) rb) rm2 p2
theorem ok_callP {F : FD} {Φ : FF} {perm : List Nat} (hF : OkF K F Φ) (h1 : OkA K ξ fs φs) (h2 : OkA K ξ gs ψs) : OkE K ξ (dCallK F (permG .non perm) fs gs) (pCallK Φ (permG .non perm) φs ψs) :=
  ok_callK hF (fun ρ as ds bs es r1 r2 => r1.perm r2 perm) h1 h2
theorem ok_callD {F : FD} {Φ : FF} {perm : List Nat} {ms : List A} {mds : List D} (hm : ∀ ρ, relAs K ρ ms mds) (hF : OkF K F Φ) (h1 : OkA K ξ fs φs) (h2 : OkA K ξ gs ψs) : OkE K ξ (dCallK F (pickG perm mds) fs gs) (pCallK Φ (pickG perm ms) φs ψs) :=
  ok_callK hF (fun ρ as ds bs es r1 r2 => relAs.picks ((r1.append (hm ρ)).append r2) perm) h1 h2
theorem relF.look {ρ : List Addr} {n : Str} {a : A} : ∀ {l : List (Str × A)} {l' : List (Str × D)}, relF K ρ l l' → l.lookup n = some a → ∃ d, l'.lookup n = some d ∧ relA K ρ a d
  | [], _, _, e => by cases e
  | (k, x) :: l, l', r, e => by
    obtain ⟨d, t, rfl, r1, r2⟩ := r
    rw [List.lookup_cons] at e ⊢
    cases q : n == k with
    | true =>
      rw [q] at e
      cases e
      exact ⟨d, rfl, r1⟩
    | false =>
      rw [q] at e
      exact relF.look r2 e
theorem ok_fld {i : Nat} {C nm : Str} {a : Addr} {cls : Value} {d : Option Addr} : OkE K (some (a, cls, d)) (dFld a cls d (He.ga K C) nm (dVar i)) (pFld i C nm) := fun ρ U aenv env am M Q X re rm p => by
  unfold pFld at p
  split at p
  · rename_i c fs e
    split at p
    · rename_i hc
      subst hc
      split at p
      · rename_i v ev
        obtain ⟨s, e1, a', dd, fs', e2, rfl, r⟩ := re.get i _ e
        cases e2
        obtain ⟨w, h1, h2⟩ := r.look ev
        unfold dFld dVar
        rw [e1]
        exact ⟨rfl, rfl, rfl, w, h1, p.now rm h2⟩
      · exact p.elim
    · exact p.elim
  · exact p.elim
end
end FL
set_option maxHeartbeats 4000001
namespace FL
open PySem PySem.Spec
open PyProof.Rows L2 DL

/-! ### the steps -/
def aI (c : Int → Int → Bool) (h : Int → Int → A) : P2 := fun x y m => match x, y with
  | .int i, .int j => if c i j = true then some (h i j, m) else none
  | _, _ => none
def aI0 (h : Int → Int → A) : P2 := fun x y m => match x, y with
  | .int i, .int j => some (h i j, m)
  | _, _ => none
abbrev aAdd : P2 := aI0 fun i j => .int (i + j)
abbrev aSub : P2 := aI0 fun i j => .int (i - j)
abbrev cMul (i j : Int) : Bool := (decide (-(2 ^ 64) < i) && decide (i < 2 ^ 64)) || (decide (-(2 ^ 64) < j) && decide (j < 2 ^ 64))
abbrev aMul : P2 := aI cMul fun i j => .int (i * j)
abbrev cDiv (_ j : Int) : Bool := decide (0 < j) && decide (j < 1073741824)
abbrev aDiv : P2 := aI cDiv fun i j => .int (i / j)
abbrev cMod (_ j : Int) : Bool := decide (0 < j)
abbrev aMod : P2 := aI cMod fun i j => .int (i % j)
abbrev cPow (i j : Int) : Bool := (decide (0 ≤ j) && decide (j ≤ 1000000)) && decide (i.natAbs < 2 ^ 64)
abbrev aPow : P2 := aI cPow fun i j => .int (i ^ j.toNat)
abbrev aShl : P2 := aI cPow fun i j => .int (i * 2 ^ j.toNat)
abbrev cShr (_ j : Int) : Bool := decide (0 ≤ j)
abbrev aShr : P2 := aI cShr fun i j => .int (i / 2 ^ j.toNat)
abbrev aAnd : P2 := aI0 fun i j => .int (Builtin.bitAnd i j)
abbrev aOr : P2 := aI0 fun i j => .int (Builtin.bitOr i j)
abbrev aXor : P2 := aI0 fun i j => .int (Builtin.bitXor i j)
abbrev aLt : P2 := aI0 fun i j => .bl (decide (i < j))
abbrev aLe : P2 := aI0 fun i j => .bl (decide (i ≤ j))
abbrev aGt : P2 := aI0 fun i j => .bl (decide (j < i))
abbrev aGe : P2 := aI0 fun i j => .bl (decide (j ≤ i))
def aIx : P2 := fun x y m => match y with
  | .int i => match seqA m x with
    | some (_, l) => match atI l i with
      | some d => some (d, m)
      | none => none
    | none => match x with
      | .str z => if z.length ≤ sizeLine then (match atI z.cps.toList i with
        | some c => some (.str ⟨#[c]⟩, m)
        | none => none) else none
      | _ => none
  | _ => none
def scalP : PyData → PyData → Bool
  | .none, .none => true
  | .none, .int _ => true
  | .int _, .none => true
  | .none, .bool _ => true
  | .bool _, .none => true
  | .none, .str _ => true
  | .str _, .none => true
  | .int _, .int _ => true
  | .bool _, .bool _ => true
  | .str _, .str _ => true
  | .int _, .str _ => true
  | .str _, .int _ => true
  | .bool _, .str _ => true
  | .str _, .bool _ => true
  | _, _ => false
def aEq (neg : Bool) : P2 := fun x y m => match pd m x, pd m y with
  | some p, some q => if (scalP p q || (SeqAt.shaped p && SeqAt.shaped q)) = true then some (.bl (if neg then !PyData.eqv p q else PyData.eqv p q), m) else none
  | _, _ => none
def isNone : PyData → Bool
  | .none => true
  | _ => false
def aLtP : P2 := fun x y m => match pd m x, pd m y with
  | some p, some q => if (PySem.W.alike p q && !isNone p && decide (p.depth ≤ 60)) = true then some (.bl (PySem.W.dataLt p q), m) else none
  | _, _ => none
def aCatT : P2 := fun x y m => match seqA m x, seqA m y with
  | some (false, l), some (false, u) => if l.length + u.length ≤ 1000000 then some (.tup (l ++ u), m) else none
  | _, _ => none
def aCatL (fr : Bool) : P2 := fun x y m => match seqA m x, seqA m y with
  | some (true, l), some (true, u) => if l.length + u.length ≤ 1000000 then (if fr = true then some (.lst (l ++ u), m) else some (.loc m.length, m ++ [.lst (l ++ u)])) else none
  | _, _ => none
def vOf : A → Option V
  | .non => some .non
  | .bl b => some (.bl b)
  | .int i => some (.int i)
  | .str x => some (.str x)
  | _ => none
def vsOf : List A → Option (List V)
  | [] => some []
  | a :: as => match vOf a, vsOf as with
    | some v, some vs => some (v :: vs)
    | _, _ => none
def aIn (neg : Bool) : P2 := fun x y m => match vOf x, seqA m y with
  | some a, some (_, l) => match vsOf l with
    | some vs => some (.bl (if neg then !inV a vs else inV a vs), m)
    | none => none
  | _, _ => none
section
variable {K : PySem.W.Frag}
theorem int_of {ρ : List Addr} {U : Mem} {i : Int} {d : D} (r : rB K ρ U (.int i) d) : d = .int i := by
  rcases r with r | ⟨_, _, _, e, _⟩
  · exact r
  · cases e
theorem str_of {ρ : List Addr} {U : Mem} {i : Str} {d : D} (r : rB K ρ U (.str i) d) : d = .str i := by
  rcases r with r | ⟨_, _, _, e, _⟩
  · exact r
  · cases e
theorem ok2_I {C : Int → Int → Prop} {h' : Int → Int → V} {c : Int → Int → Bool} {h : Int → Int → A} (hc : ∀ i j, c i j = true → C i j) (hh : ∀ ρ i j, relA K ρ (h i j) (.v (h' i j))) : Ok2 K (gI C h') (aI c h) := by
  intro ρ U am M Q a b x y rm ra rb p
  unfold aI at p
  split at p
  · rename_i i j
    cases int_of ra
    cases int_of rb
    split at p
    · rename_i e
      exact ⟨hc i j e, p.now rm (hh ρ i j)⟩
    · exact p.elim
  · exact p.elim
theorem ok2_I0 {h' : Int → Int → V} {h : Int → Int → A} (hh : ∀ ρ i j, relA K ρ (h i j) (.v (h' i j))) : Ok2 K (gI0 h') (aI0 h) := by
  intro ρ U am M Q a b x y rm ra rb p
  unfold aI0 at p
  split at p
  · rename_i i j
    cases int_of ra
    cases int_of rb
    exact p.now rm (hh ρ i j)
  · exact p.elim
theorem ok2_add : Ok2 K (gI0 fun i j => .int (i + j)) aAdd := ok2_I0 fun _ _ _ => rfl
theorem ok2_sub : Ok2 K (gI0 fun i j => .int (i - j)) aSub := ok2_I0 fun _ _ _ => rfl
theorem ok2_mul : Ok2 K (gI CMul fun i j => .int (i * j)) aMul := ok2_I (fun i j h => by
  simp only [Bool.or_eq_true, Bool.and_eq_true, decide_eq_true_eq] at h
  exact h) fun _ _ _ => rfl
theorem ok2_div : Ok2 K (gI CDiv fun i j => .int (i / j)) aDiv := ok2_I (fun i j h => by
  simp only [decide_eq_true_eq, Bool.and_eq_true] at h
  exact h) fun _ _ _ => rfl
theorem ok2_mod : Ok2 K (gI (fun _ j => 0 < j) fun i j => .int (i % j)) aMod := ok2_I (fun i j h => by simpa using h) fun _ _ _ => rfl
theorem ok2_pow : Ok2 K (gI CPow fun i j => .int (i ^ j.toNat)) aPow := ok2_I (fun i j h => by
  simp only [decide_eq_true_eq, Bool.and_eq_true] at h
  exact ⟨h.1.1, h.1.2, h.2⟩) fun _ _ _ => rfl
theorem ok2_shl : Ok2 K (gI CPow fun i j => .int (i * 2 ^ j.toNat)) aShl := ok2_I (fun i j h => by
  simp only [decide_eq_true_eq, Bool.and_eq_true] at h
  exact ⟨h.1.1, h.1.2, h.2⟩) fun _ _ _ => rfl
theorem ok2_shr : Ok2 K (gI (fun _ j => 0 ≤ j) fun i j => .int (i / 2 ^ j.toNat)) aShr := ok2_I (fun i j h => by simpa using h) fun _ _ _ => rfl
theorem ok2_and : Ok2 K (gI0 fun i j => .int (Builtin.bitAnd i j)) aAnd := ok2_I0 fun _ _ _ => rfl
theorem ok2_or : Ok2 K (gI0 fun i j => .int (Builtin.bitOr i j)) aOr := ok2_I0 fun _ _ _ => rfl
theorem ok2_xor : Ok2 K (gI0 fun i j => .int (Builtin.bitXor i j)) aXor := ok2_I0 fun _ _ _ => rfl
theorem ok2_lt : Ok2 K (gI0 fun i j => .bl (decide (i < j))) aLt := ok2_I0 fun _ _ _ => rfl
theorem ok2_le : Ok2 K (gI0 fun i j => .bl (decide (i ≤ j))) aLe := ok2_I0 fun _ _ _ => rfl
theorem ok2_gt : Ok2 K (gI0 fun i j => .bl (decide (j < i))) aGt := ok2_I0 fun _ _ _ => rfl
theorem ok2_ge : Ok2 K (gI0 fun i j => .bl (decide (j ≤ i))) aGe := ok2_I0 fun _ _ _ => rfl
theorem atI_of {ρ : List Addr} {l : List A} {l' : List D} {i : Int} {a : A} (r : relAs K ρ l l') (h : atI l i = some a) : ∃ d, atI l' i = some d ∧ relA K ρ a d := by
  unfold atI at h ⊢
  rw [r.length]
  cases e : ixN l.length i with
  | none =>
    rw [e] at h
    cases h
  | some j =>
    rw [e] at h
    exact r.get h
theorem ok2_ix : Ok2 K gIx aIx := by
  intro ρ U am M Q a b x y rm ra rb p
  cases b with
  | int i =>
    cases int_of rb
    cases e : seqA am a with
    | some z =>
      obtain ⟨w, l⟩ := z
      simp only [aIx, e] at p
      obtain ⟨l', h1, h2⟩ := seq_ofB rm ra e
      cases e2 : atI l i with
      | none =>
        simp only [e2] at p
        exact p.elim
      | some d =>
        simp only [e2] at p
        obtain ⟨d', h3, h4⟩ := atI_of h2 e2
        unfold gIx
        simp only [h1]
        exact ⟨d', h3, p.now rm h4⟩
    | none =>
      cases a with
      | str z =>
        cases str_of ra
        simp only [aIx, e] at p
        split at p
        · rename_i hz
          cases e2 : atI z.cps.toList i with
          | none =>
            simp only [e2] at p
            exact p.elim
          | some c =>
            simp only [e2] at p
            exact ⟨hz, c, e2, p.now rm rfl⟩
        · exact p.elim
      | _ =>
        simp only [aIx, e] at p
        exact p.elim
  | _ => exact p.elim
theorem eqv_scal {p q : PyData} (h : scalP p q = true) : ∃ a b : V, scal a b = true ∧ decide (a = b) = PyData.eqv p q ∧ DL.ofP p = .v a ∧ DL.ofP q = .v b := by
  cases p <;> cases q <;> first
    | (refine ⟨_, _, ?_, ?_, rfl, rfl⟩
       · first | rfl | (exfalso; revert h; decide)
       · rw [Bool.eq_iff_iff]
         simp [PyData.eqv])
    | (exfalso; revert h; simp [scalP]; done)
theorem d_scal {M : Mem} {d : D} {p : PyData} {a : V} (h : pdM M d = some p) (e : DL.ofP p = .v a) : d = .v a := by
  cases d with
  | v x =>
    cases x with
    | ref c =>
      exfalso
      have h : resM M 3 c = some p := h
      have y : resM M 3 c = match M c with
        | some (.lst l) => match DL.pdsW (resM M 2) l with
          | some ps => some (.list ps)
          | none => none
        | some (.dct []) => some (.dict [])
        | _ => none := rfl
      rw [y] at h
      split at h
      · split at h
        · cases h
          cases e
        · cases h
      · cases h
        cases e
      · cases h
    | non => cases h; exact e
    | bl _ => cases h; exact e
    | int _ => cases h; exact e
    | str _ => cases h; exact e
    | _ => cases h
  | lst l =>
    have h : DL.pdW (resM M 3) (.lst l) = some p := h
    simp only [DL.pdW] at h
    split at h
    · cases h
      cases e
    · cases h
  | tup l =>
    have h : DL.pdW (resM M 3) (.tup l) = some p := h
    simp only [DL.pdW] at h
    split at h
    · cases h
      cases e
    · cases h
  | dct l =>
    cases l with
    | nil => cases h; cases e
    | cons _ _ =>
      have h : DL.pdW (resM M 3) (.dct _) = some p := h
      simp only [DL.pdW] at h
      cases h
  | exn _ _ _ => cases h
theorem ok2_eq {neg : Bool} : Ok2 K (gE neg) (aEq neg) := by
  intro ρ U am M Q a b x y rm ra rb pp
  unfold aEq at pp
  split at pp
  · rename_i p q e1 e2
    have h1 := pd_ofB rm ra e1
    have h2 := pd_ofB rm rb e2
    split at pp
    · rename_i c
      cases s : scalP p q with
      | true =>
        obtain ⟨u, v, z1, z2, z3, z4⟩ := eqv_scal s
        refine .inl ⟨u, v, d_scal h1 z3, d_scal h2 z4, z1, ?_⟩
        rw [z2]
        exact pp.now rm rfl
      | false =>
        rw [s, Bool.false_or, Bool.and_eq_true] at c
        exact .inr ⟨p, q, h1, h2, c.1, c.2, pp.now rm rfl⟩
    · exact pp.elim
  · exact pp.elim
theorem ok2_ltP : Ok2 K gLtP aLtP := by
  intro ρ U am M Q a b x y rm ra rb pp
  unfold aLtP at pp
  split at pp
  · rename_i p q e1 e2
    have h1 := pd_ofB rm ra e1
    have h2 := pd_ofB rm rb e2
    split at pp
    · rename_i c
      simp only [Bool.and_eq_true, decide_eq_true_eq, Bool.not_eq_true'] at c
      exact ⟨p, q, h1, h2, c.1.1, (fun z => by rw [z] at c; exact absurd c.1.2 (by simp [isNone])), c.2, pp.now rm rfl⟩
    · exact pp.elim
  · exact pp.elim
theorem ok2_catT : Ok2 K gCatT aCatT := by
  intro ρ U am M Q a b x y rm ra rb p
  unfold aCatT at p
  split at p
  · rename_i l u e1 e2
    obtain ⟨l', h1, r1⟩ := seq_ofB rm ra e1
    obtain ⟨u', h2, r2⟩ := seq_ofB rm rb e2
    split at p
    · rename_i hl
      exact ⟨l', u', h1, h2, by rw [r1.length, r2.length]; exact hl, p.now rm ⟨_, rfl, r1.append r2⟩⟩
    · exact p.elim
  · exact p.elim
theorem ok2_catL {fr : Bool} : Ok2 K (gCatL fr) (aCatL fr) := by
  intro ρ U am M Q a b x y rm ra rb p
  unfold aCatL at p
  split at p
  · rename_i l u e1 e2
    obtain ⟨l', h1, r1⟩ := seq_ofB rm ra e1
    obtain ⟨u', h2, r2⟩ := seq_ofB rm rb e2
    split at p
    · rename_i hl
      refine ⟨l', u', h1, h2, by rw [r1.length, r2.length]; exact hl, fun e => ?_, fun e => ?_⟩
      · rw [if_pos e] at p
        exact p.now rm ⟨_, rfl, r1.append r2⟩
      · rw [if_neg (by rw [e]; simp)] at p
        exact fun n hn => p (ρ ++ [n]) _ _ (Le.snoc _ _) ⟨n, loc_new rm n, rfl⟩ (rm.put hn ⟨_, rfl, r1.append r2⟩)
    · exact p.elim
  · exact p.elim
theorem v_of {ρ : List Addr} {a : A} {d : D} {v : V} (r : relA K ρ a d) (h : vOf a = some v) : d = .v v ∧ flatV v = true := by
  cases a with
  | non => cases h; exact ⟨r, rfl⟩
  | bl _ => cases h; exact ⟨r, rfl⟩
  | int _ => cases h; exact ⟨r, rfl⟩
  | str _ => cases h; exact ⟨r, rfl⟩
  | _ => cases h
theorem v_ofB {ρ : List Addr} {U : Mem} {a : A} {d : D} {v : V} (r : rB K ρ U a d) (h : vOf a = some v) : d = .v v ∧ flatV v = true := by
  rcases r with r | ⟨_, _, _, e, _⟩
  · exact v_of r h
  · rw [e] at h
    cases h
theorem vs_of {ρ : List Addr} : ∀ {l : List A} {l' : List D} {vs : List V}, relAs K ρ l l' → vsOf l = some vs → l' = vs.map D.v ∧ vs.all flatV = true
  | [], _, _, r, h => by
    cases r
    cases h
    exact ⟨rfl, rfl⟩
  | a :: as, l', vs, r, h => by
    obtain ⟨d, t, rfl, r1, r2⟩ := r
    simp only [vsOf] at h
    split at h
    · rename_i v us e1 e2
      cases h
      obtain ⟨rfl, f1⟩ := v_of r1 e1
      obtain ⟨rfl, f2⟩ := vs_of r2 e2
      exact ⟨rfl, by rw [List.all_cons, f1, f2]; rfl⟩
    · cases h
theorem ok2_in {neg : Bool} : Ok2 K (gIn neg) (aIn neg) := by
  intro ρ U am M Q a b x y rm ra rb p
  unfold aIn at p
  split at p
  · rename_i v w l e1 e2
    obtain ⟨l', h1, r1⟩ := seq_ofB rm rb e2
    obtain ⟨rfl, f1⟩ := v_ofB ra e1
    split at p
    · rename_i vs e3
      obtain ⟨rfl, f2⟩ := vs_of r1 e3
      exact ⟨v, vs, w, rfl, h1, f1, f2, p.now rm rfl⟩
    · exact p.elim
  · exact p.elim
end

/-! ### built-ins -/
def aLen : P1 := fun xs m => match xs with
  | [x] => match seqA m x with
    | some (_, l) => some (.int l.length, m)
    | none => match x with
      | .str z => if z.length ≤ sizeLine then some (.int z.length, m) else none
      | _ => none
  | _ => none
def aRepr : P1 := fun xs m => match xs with
  | [x] => match pd m x with
    | some p => if (p.showable && decide (p.shown.length ≤ sizeLine) && decide (p.depth ≤ 100)) = true then some (.str p.shown, m) else none
    | none => none
  | _ => none
def aIsi : P1 := fun xs m => match xs with
  | [x, .ty c] => match tyA m x with
    | some t => if tyNs.contains c = true then some (.bl (isiB t c), m) else none
    | none => none
  | _ => none
def blsOf : List A → Option (List Bool)
  | [] => some []
  | .bl b :: as => match blsOf as with
    | some bs => some (b :: bs)
    | none => none
  | _ :: _ => none
def intsOf : List A → Option (List Int)
  | [] => some []
  | .int b :: as => match intsOf as with
    | some bs => some (b :: bs)
    | none => none
  | _ :: _ => none
def aAll : P1 := fun xs m => match xs with
  | [x] => match seqA m x with
    | some (true, l) => match blsOf l with
      | some bs => some (.bl (bs.all id), m)
      | none => none
    | _ => none
  | _ => none
def aAny : P1 := fun xs m => match xs with
  | [x] => match seqA m x with
    | some (true, l) => match blsOf l with
      | some bs => some (.bl (bs.any id), m)
      | none => none
    | _ => none
  | _ => none
def aSum : P1 := fun xs m => match xs with
  | [x] => match seqA m x with
    | some (true, l) => match intsOf l with
      | some bs => some (.int bs.sum, m)
      | none => none
    | _ => none
  | _ => none
def aMax2 : P1 := fun xs m => match xs with
  | [.int i, .int j] => some (.int (if j > i then j else i), m)
  | _ => none
def aMin2 : P1 := fun xs m => match xs with
  | [.int i, .int j] => some (.int (if j < i then j else i), m)
  | _ => none
def aTupOf : P1 := fun xs m => match xs with
  | [x] => match seqA m x with
    | some (_, l) => some (.tup l, m)
    | none => none
  | _ => none
def aInt : P1 := fun xs m => match xs with
  | [.int i] => some (.int i, m)
  | [.bl b] => some (.int (if b then 1 else 0), m)
  | _ => none
def aListF : P1 := fun xs m => match xs with
  | [x] => match seqA m x with
    | some (_, l) => some (.lst l, m)
    | none => none
  | _ => none
def aListM : P1 := fun xs m => match xs with
  | [x] => match seqA m x with
    | some (_, l) => some (.loc m.length, m ++ [.lst l])
    | none => none
  | _ => none
section
variable {K : PySem.W.Frag}
theorem one_of {ρ : List Addr} {U : Mem} {x : A} {ds : List D} (r : rBs K ρ U [x] ds) : ∃ d, ds = [d] ∧ rB K ρ U x d := by
  obtain ⟨h1, h2⟩ := r
  match ds, h1 with
  | [d], _ => exact ⟨d, rfl, h2 0 x d rfl rfl⟩
theorem two_of {ρ : List Addr} {U : Mem} {x y : A} {ds : List D} (r : rBs K ρ U [x, y] ds) : ∃ d e, ds = [d, e] ∧ rB K ρ U x d ∧ rB K ρ U y e := by
  obtain ⟨h1, h2⟩ := r
  match ds, h1 with
  | [d, e], _ => exact ⟨d, e, rfl, h2 0 x d rfl rfl, h2 1 y e rfl rfl⟩
theorem bls_of {ρ : List Addr} : ∀ {l : List A} {l' : List D} {bs : List Bool}, relAs K ρ l l' → blsOf l = some bs → l' = bs.map D.bl
  | [], _, _, r, h => by
    cases r
    cases h
    rfl
  | a :: as, l', bs, r, h => by
    obtain ⟨d, t, rfl, r1, r2⟩ := r
    cases a with
    | bl b =>
      simp only [blsOf] at h
      split at h
      · rename_i us e2
        cases h
        cases r1
        rw [bls_of r2 e2]
        rfl
      · cases h
    | _ => simp [blsOf] at h
theorem ints_of {ρ : List Addr} : ∀ {l : List A} {l' : List D} {bs : List Int}, relAs K ρ l l' → intsOf l = some bs → l' = bs.map D.int
  | [], _, _, r, h => by
    cases r
    cases h
    rfl
  | a :: as, l', bs, r, h => by
    obtain ⟨d, t, rfl, r1, r2⟩ := r
    cases a with
    | int b =>
      simp only [intsOf] at h
      split at h
      · rename_i us e2
        cases h
        cases r1
        rw [ints_of r2 e2]
        rfl
      · cases h
    | _ => simp [intsOf] at h
theorem okc_len : OkC K gLen aLen := by
  intro ρ U am M Q as ds rm r p
  unfold aLen at p
  split at p
  · rename_i x
    obtain ⟨d, rfl, r1⟩ := one_of r
    cases e : seqA am x with
    | some z =>
      obtain ⟨w, l⟩ := z
      simp only [e] at p
      obtain ⟨l', h1, h2⟩ := seq_ofB rm r1 e
      rw [n_lenS h1]
      exact p.now rm (by show D.int _ = D.int _; rw [h2.length])
    | none =>
      simp only [e] at p
      cases x with
      | str z =>
        simp only at p
        split at p
        · rename_i hz
          cases str_of r1
          exact ⟨hz, p.now rm rfl⟩
        · exact p.elim
      | _ => exact p.elim
  · exact p.elim
theorem okc_repr : OkC K gRepr aRepr := by
  intro ρ U am M Q as ds rm r p
  unfold aRepr at p
  split at p
  · rename_i x
    obtain ⟨d, rfl, r1⟩ := one_of r
    split at p
    · rename_i q e
      split at p
      · rename_i c
        simp only [Bool.and_eq_true, decide_eq_true_eq] at c
        exact ⟨q, pd_ofB rm r1 e, c.1.1, c.1.2, c.2, p.now rm rfl⟩
      · exact p.elim
    · exact p.elim
  · exact p.elim
theorem okc_isi : OkC K gIsi aIsi := by
  intro ρ U am M Q as ds rm r p
  unfold aIsi at p
  split at p
  · rename_i x c
    obtain ⟨d, e, rfl, r1, r2⟩ := two_of r
    have r2 : e = .v (.ty c) := by
      rcases r2 with r2 | ⟨_, _, _, z, _⟩
      · exact r2
      · cases z
    subst r2
    split at p
    · rename_i t e
      split at p
      · rename_i hc
        unfold gIsi
        simp only [ty_ofB rm r1 e]
        exact ⟨hc, p.now rm rfl⟩
      · exact p.elim
    · exact p.elim
  · exact p.elim
theorem okc_all : OkC K gAll aAll := by
  intro ρ U am M Q as ds rm r p
  unfold aAll at p
  split at p
  · rename_i x
    obtain ⟨d, rfl, r1⟩ := one_of r
    split at p
    · rename_i l e
      obtain ⟨l', h1, h2⟩ := seq_ofB rm r1 e
      split at p
      · rename_i bs eb
        exact ⟨d, l', bs, rfl, h1, bls_of h2 eb, p.now rm rfl⟩
      · exact p.elim
    · exact p.elim
  · exact p.elim
theorem okc_any : OkC K gAny aAny := by
  intro ρ U am M Q as ds rm r p
  unfold aAny at p
  split at p
  · rename_i x
    obtain ⟨d, rfl, r1⟩ := one_of r
    split at p
    · rename_i l e
      obtain ⟨l', h1, h2⟩ := seq_ofB rm r1 e
      split at p
      · rename_i bs eb
        exact ⟨d, l', bs, rfl, h1, bls_of h2 eb, p.now rm rfl⟩
      · exact p.elim
    · exact p.elim
  · exact p.elim
theorem okc_sum : OkC K gSum aSum := by
  intro ρ U am M Q as ds rm r p
  unfold aSum at p
  split at p
  · rename_i x
    obtain ⟨d, rfl, r1⟩ := one_of r
    split at p
    · rename_i l e
      obtain ⟨l', h1, h2⟩ := seq_ofB rm r1 e
      split at p
      · rename_i bs eb
        exact ⟨d, l', bs, rfl, h1, ints_of h2 eb, p.now rm rfl⟩
      · exact p.elim
    · exact p.elim
  · exact p.elim
theorem okc_max2 : OkC K gMax2 aMax2 := by
  intro ρ U am M Q as ds rm r p
  unfold aMax2 at p
  split at p
  · obtain ⟨d, e, rfl, r1, r2⟩ := two_of r
    cases int_of r1
    cases int_of r2
    exact ⟨_, _, rfl, p.now rm rfl⟩
  · exact p.elim
theorem okc_min2 : OkC K gMin2 aMin2 := by
  intro ρ U am M Q as ds rm r p
  unfold aMin2 at p
  split at p
  · obtain ⟨d, e, rfl, r1, r2⟩ := two_of r
    cases int_of r1
    cases int_of r2
    exact ⟨_, _, rfl, p.now rm rfl⟩
  · exact p.elim
theorem okc_tupOf : OkC K gTupOf aTupOf := by
  intro ρ U am M Q as ds rm r p
  unfold aTupOf at p
  split at p
  · rename_i x
    obtain ⟨d, rfl, r1⟩ := one_of r
    split at p
    · rename_i w l e
      obtain ⟨l', h1, h2⟩ := seq_ofB rm r1 e
      unfold gTupOf
      simp only [h1]
      exact p.now rm ⟨l', rfl, h2⟩
    · exact p.elim
  · exact p.elim
theorem okc_int : OkC K gInt aInt := by
  intro ρ U am M Q as ds rm r p
  unfold aInt at p
  split at p
  · obtain ⟨d, rfl, r1⟩ := one_of r
    cases int_of r1
    exact p.now rm rfl
  · obtain ⟨d, rfl, r1⟩ := one_of r
    rcases r1 with r1 | ⟨_, _, _, z, _⟩
    · cases r1
      exact p.now rm rfl
    · cases z
  · exact p.elim
theorem okc_listF : OkC K gListF aListF := by
  intro ρ U am M Q as ds rm r p
  unfold aListF at p
  split at p
  · rename_i x
    obtain ⟨d, rfl, r1⟩ := one_of r
    split at p
    · rename_i w l e
      obtain ⟨l', h1, h2⟩ := seq_ofB rm r1 e
      exact ⟨d, w, l', rfl, h1, p.now rm ⟨l', rfl, h2⟩⟩
    · exact p.elim
  · exact p.elim
theorem okc_listM : OkC K gListM aListM := by
  intro ρ U am M Q as ds rm r p
  unfold aListM at p
  split at p
  · rename_i x
    obtain ⟨d, rfl, r1⟩ := one_of r
    split at p
    · rename_i w l e
      obtain ⟨l', h1, h2⟩ := seq_ofB rm r1 e
      exact ⟨d, w, l', rfl, h1, fun n hn => p (ρ ++ [n]) _ _ (Le.snoc _ _) ⟨n, loc_new rm n, rfl⟩ (rm.put hn ⟨_, rfl, h2⟩)⟩
    · exact p.elim
  · exact p.elim
end
end FL
set_option maxHeartbeats 4000001
namespace FL
open PySem PySem.Spec
open PyProof.Rows L2 DL

/-! ### statements -/
inductive RS where
  | nx (e : AEnv) (m : AM)
  | rt (a : A) (m : AM)
  | bk (e : AEnv) (m : AM)
  | ct (e : AEnv) (m : AM)
  | ex (x : AX) (e : AEnv) (m : AM)
  | bad
abbrev FS := AEnv → AM → RS
/-- B: what the callers have; each name's own list is its own -/
structure StR (K : PySem.W.Frag) (B : Mem) (ρ : List Addr) (U : Mem) (ξ : Xi) (aenv : AEnv) (env : EnvD) (am : AM) (M : Mem) : Prop where
  e : EnvR K ρ U ξ aenv env
  m : MemR K ρ U am M
  b : ∀ a u, B a = some u → U a = some u
  own : ∀ (i : Nat) (l : List A) (a : Addr), aenv[i]? = some (.own l) → env[i]? = some (some (.ref a)) → B a = none ∧ ∀ (j : Nat) (l' : List A), j ≠ i → aenv[j]? = some (.own l') → env[j]? ≠ some (some (.ref a))
def PostS (K : PySem.W.Frag) (B : Mem) (ρ : List Addr) (ξ : Xi) (r : RS) (E : EndsD) : Prop := match r with
  | .nx aenv am => ∀ ρ' U' env' M', Le ρ ρ' → StR K B ρ' U' ξ aenv env' am M' → E.nx env' M'
  | .bk aenv am => ∀ ρ' U' env' M', Le ρ ρ' → StR K B ρ' U' ξ aenv env' am M' → E.bk env' M'
  | .ct aenv am => ∀ ρ' U' env' M', Le ρ ρ' → StR K B ρ' U' ξ aenv env' am M' → E.ct env' M'
  | .rt a am => ∀ ρ' d M', Le ρ ρ' → relA K ρ' a d → MemR K ρ' B am M' → E.rt d M'
  | .ex x aenv am => ∀ ρ' U' fs env' M', Le ρ ρ' → relF K ρ' x.fs fs → StR K B ρ' U' ξ aenv env' am M' → E.ex ⟨.ref (He.ga K x.cls), fs⟩ env' M'
  | .bad => False
theorem PostS.mono {K : PySem.W.Frag} {B : Mem} {ρ ρ' : List Addr} {ξ : Xi} {r : RS} {E : EndsD} (h : PostS K B ρ ξ r E) (l : Le ρ ρ') : PostS K B ρ' ξ r E := by
  cases r with
  | nx _ _ => exact fun ρ2 U' e M' l2 => h ρ2 U' e M' (l.trans l2)
  | bk _ _ => exact fun ρ2 U' e M' l2 => h ρ2 U' e M' (l.trans l2)
  | ct _ _ => exact fun ρ2 U' e M' l2 => h ρ2 U' e M' (l.trans l2)
  | rt _ _ => exact fun ρ2 d M' l2 => h ρ2 d M' (l.trans l2)
  | ex _ _ _ => exact fun ρ2 U' fs e M' l2 => h ρ2 U' fs e M' (l.trans l2)
  | bad => exact h
def OkS (K : PySem.W.Frag) (ξ : Xi) (f : SF) (φ : FS) : Prop := ∀ (B : Mem) (ρ : List Addr) (U : Mem) (aenv : AEnv) (env : EnvD) (am : AM) (M : Mem) (E : EndsD), StR K B ρ U ξ aenv env am M → PostS K B ρ ξ (φ aenv am) E → f E env M
theorem StR.to {K : PySem.W.Frag} {B : Mem} {ρ ρ' : List Addr} {U : Mem} {ξ : Xi} {aenv : AEnv} {env : EnvD} {am am' : AM} {M M' : Mem} (s : StR K B ρ U ξ aenv env am M) (l : Le ρ ρ') (m : MemR K ρ' U am' M') : StR K B ρ' U ξ aenv env am' M' := ⟨s.e.mono l, m, s.b, s.own⟩
def bindS {α : Type} (r : R α) (env : AEnv) (k : α → AM → RS) : RS := match r with
  | .ok a m => k a m
  | .ex x m => .ex x env m
  | .bad => .bad
theorem Ok.useS {α δ : Type} {K : PySem.W.Frag} {ξ : Xi} {B : Mem} {rel : List Addr → Mem → α → δ → Prop} {f : EnvD → Mem → (δ → Mem → Prop) → XD → Prop} {φ : AEnv → AM → R α} {ρ : List Addr} {U : Mem} {aenv : AEnv} {env : EnvD} {am : AM} {M : Mem} {E : EndsD} {Qf : δ → Mem → Prop} {k : α → AM → RS}
    (h : Ok K ξ rel f φ) (st : StR K B ρ U ξ aenv env am M) (p : PostS K B ρ ξ (bindS (φ aenv am) aenv k) E)
    (q : ∀ (ρ' : List Addr) (a : α) (d : δ) (am1 : AM) (M1 : Mem), Le ρ ρ' → rel ρ' U a d → StR K B ρ' U ξ aenv env am1 M1 → PostS K B ρ' ξ (k a am1) E → Qf d M1) : f env M Qf (fun xn M1 => E.ex xn env M1) := by
  refine h ρ U aenv env am M _ _ st.e st.m ?_
  cases e : φ aenv am with
  | ok a am1 =>
    intro ρ' d M' l ra rm'
    rw [e] at p
    exact q ρ' a d am1 M' l ra (st.to l rm') (PostS.mono (r := k a am1) p l)
  | ex x am1 =>
    rw [e] at p
    exact fun ρ' fs M' l rf rm' => p ρ' U fs env M' l rf (st.to l rm')
  | bad =>
    rw [e] at p
    exact p
def qNext : FS := fun env m => .nx env m
def qSeq (φ ψ : FS) : FS := fun env m => match φ env m with
  | .nx e m1 => ψ e m1
  | .rt a m1 => .rt a m1
  | .bk e m1 => .bk e m1
  | .ct e m1 => .ct e m1
  | .ex x e m1 => .ex x e m1
  | .bad => .bad
def qDrop (φ : FE) : FS := fun env m => bindS (φ env m) env fun _ m1 => .nx env m1
def qRet (φ : FE) : FS := fun env m => bindS (φ env m) env fun a m1 => .rt a m1
def qRetN : FS := fun _ m => .rt .non m
def qIf (c : FT) (φ ψ : FS) : FS := fun env m => bindS (c env m) env fun b m1 => bif b then φ env m1 else ψ env m1
def qBreak : FS := fun env m => .bk env m
def qCont : FS := fun env m => .ct env m
abbrev FG := A → AEnv → Option AEnv
abbrev FGs := List A → AEnv → Option AEnv
def tNm (i : Nat) : FG := fun a env => some (env.set i (.val a))
def tNil : FGs := fun as env => match as with
  | [] => some env
  | _ :: _ => none
def tCons (γ : FG) (δ : FGs) : FGs := fun as env => match as with
  | [] => none
  | a :: as => match γ a env with
    | some e => δ as e
    | none => none
def tTup (n : Nat) (γ : FGs) : FG := fun a env => match a with
  | .tup l => if l.length = n then γ l env else none
  | _ => none
def qAsg (φ : FE) (γ : FG) : FS := fun env m => bindS (φ env m) env fun a m1 => match γ a env with
  | some e => .nx e m1
  | none => .bad
def qOwn (i : Nat) (ψ : FEs) : FS := fun env m => bindS (ψ env m) env fun xs m1 => if xs.length ≤ 1000 then .nx (env.set i (.own xs)) m1 else .bad
def qApp (i : Nat) (φ : FE) : FS := fun env m => match env[i]? with
  | some (.own l) => bindS (φ env m) env fun a m1 => if l.length < 1000000 then .nx (env.set i (.own (l ++ [a]))) m1 else .bad
  | _ => .bad
def qStore (φ φo φi : FE) : FS := fun env m => bindS (φ env m) env fun a m1 => match φo env m1 with
  | .ok (.loc n) m2 => match φi env m2 with
    | .ok (.int k) m3 => match m3[n]? with
      | some (.lst l) => match ixN l.length k with
        | some j => .nx env (m3.set n (.lst (l.set j a)))
        | none => .bad
      | _ => .bad
    | _ => .bad
  | _ => .bad
def qStoreO (φ : FE) (i : Nat) (φi : FE) : FS := fun env m => bindS (φ env m) env fun a m1 => match φi env m1 with
  | .ok (.int k) m2 => match env[i]? with
    | some (.own l) => match ixN l.length k with
      | some j => .nx (env.set i (.own (l.set j a))) m2
      | none => .bad
    | _ => .bad
  | _ => .bad
def qRetO (i : Nat) : FS := fun env m => match env[i]? with
  | some (.own l) => .rt (.lst l) m
  | some (.val (.loc n)) => match m[n]? with
    | some (.lst l) => .rt (.lst l) (m.set n .dead)
    | _ => .bad
  | _ => .bad
def qFrz (i : Nat) (φ : FS) : FS := fun env m => match env[i]? with
  | some (.own l) => φ (env.set i (.val (.lst l))) m
  | some (.val (.loc n)) => match m[n]? with
    | some (.lst l) => φ (env.set i (.val (.lst l))) (m.set n .dead)
    | _ => .bad
  | _ => .bad
def qPar (i j : Nat) (ψ : FEs) : FS := fun env m => bindS (ψ env m) env fun xs m1 => match xs with
  | [x, y] => .nx ((env.set i (.val x)).set j (.val y)) m1
  | _ => .bad
def qRaise (c : Str) (ns : List Str) (ψ : FEs) : FS := fun env m => bindS (ψ env m) env fun xs m1 => .ex ⟨c, (ns.zip xs).reverse⟩ env m1
def OkG (K : PySem.W.Frag) (ξ : Xi) (g : DG) (γ : FG) : Prop := ∀ (ρ : List Addr) (U : Mem) (aenv : AEnv) (env : EnvD) (M : Mem) (a : A) (d : D) (P : EnvD → Mem → Prop), EnvR K ρ U ξ aenv env → relA K ρ a d →
  (match γ a aenv with
    | some aenv' => ∀ env', EnvR K ρ U ξ aenv' env' → (∀ (i : Nat) (l : List A) (b : Addr), aenv'[i]? = some (.own l) → env'[i]? = some (some (.ref b)) → aenv[i]? = some (.own l) ∧ env[i]? = some (some (.ref b))) → P env' M
    | none => False) → g d env M P
def OkGs (K : PySem.W.Frag) (ξ : Xi) (g : DGs) (γ : FGs) : Prop := ∀ (ρ : List Addr) (U : Mem) (aenv : AEnv) (env : EnvD) (M : Mem) (a : List A) (d : List D) (P : EnvD → Mem → Prop), EnvR K ρ U ξ aenv env → relAs K ρ a d →
  (match γ a aenv with
    | some aenv' => ∀ env', EnvR K ρ U ξ aenv' env' → (∀ (i : Nat) (l : List A) (b : Addr), aenv'[i]? = some (.own l) → env'[i]? = some (some (.ref b)) → aenv[i]? = some (.own l) ∧ env[i]? = some (some (.ref b))) → P env' M
    | none => False) → g d env M P
theorem own_set {aenv : AEnv} {env : EnvD} {i : Nat} {v : SV} {s : Option D} (hv : ∀ l, v ≠ .own l) : ∀ (j : Nat) (l : List A) (b : Addr), (aenv.set i v)[j]? = some (.own l) → (env.set i s)[j]? = some (some (.ref b)) → aenv[j]? = some (.own l) ∧ env[j]? = some (some (.ref b)) := by
  intro j l b h1 h2
  by_cases e : i = j
  · subst e
    by_cases hl : i < aenv.length
    · rw [List.getElem?_set_self hl] at h1
      cases h1
      exact absurd rfl (hv l)
    · rw [List.getElem?_eq_none (by rw [List.length_set]; omega)] at h1
      cases h1
  · rw [List.getElem?_set_ne e] at h1 h2
    exact ⟨h1, h2⟩
section
variable {K : PySem.W.Frag} {ξ : Xi} {B : Mem} {ρ : List Addr} {U : Mem} {aenv : AEnv} {env : EnvD} {am : AM} {M : Mem}
theorem StR.sub (s : StR K B ρ U ξ aenv env am M) {aenv' : AEnv} {env' : EnvD} (e : EnvR K ρ U ξ aenv' env') (h : ∀ (i : Nat) (l : List A) (b : Addr), aenv'[i]? = some (.own l) → env'[i]? = some (some (.ref b)) → aenv[i]? = some (.own l) ∧ env[i]? = some (some (.ref b))) : StR K B ρ U ξ aenv' env' am M := by
  refine ⟨e, s.m, s.b, fun i l a h1 h2 => ?_⟩
  obtain ⟨k1, k2⟩ := h i l a h1 h2
  obtain ⟨z1, z2⟩ := s.own i l a k1 k2
  refine ⟨z1, fun j l' hj h3 h4 => ?_⟩
  obtain ⟨k3, k4⟩ := h j l' a h3 h4
  exact z2 j l' hj k3 k4
theorem StR.set (s : StR K B ρ U ξ aenv env am M) (i : Nat) {a : A} {d : D} (r : relA K ρ a d) : StR K B ρ U ξ (aenv.set i (.val a)) (env.set i (some d)) am M :=
  s.sub (s.e.set i ⟨d, rfl, r⟩) (own_set fun l => by simp)
theorem StR.unset (s : StR K B ρ U ξ aenv env am M) (i : Nat) (e : Option D) : StR K B ρ U ξ (aenv.set i .no) (env.set i e) am M :=
  s.sub (s.e.set i True.intro) (own_set fun l => by simp)
theorem own_U (r : EnvR K ρ U ξ aenv env) {i : Nat} {l : List A} (h : aenv[i]? = some (.own l)) : ∃ a l', env[i]? = some (some (.ref a)) ∧ U a = some (.lst l') ∧ relAs K ρ l l' := by
  obtain ⟨s, h1, a, l', rfl, h2, h3⟩ := r.get i _ h
  exact ⟨a, l', h1, h2, h3⟩
/-- the names' relation, where U changes at an address that none of them has -/
theorem EnvR.else_ (r : EnvR K ρ U ξ aenv env) {U' : Mem} (h : ∀ (i : Nat) (l : List A) (a : Addr), aenv[i]? = some (.own l) → env[i]? = some (some (.ref a)) → U' a = U a) : EnvR K ρ U' ξ aenv env := by
  refine ⟨r.len, fun i v e => ?_⟩
  obtain ⟨s, h1, h2⟩ := r.get i v e
  refine ⟨s, h1, ?_⟩
  cases v with
  | own l =>
    obtain ⟨a, l', rfl, h3, h4⟩ := h2
    exact ⟨a, l', rfl, by rw [h i l a e h1]; exact h3, h4⟩
  | no => exact h2
  | val _ => exact h2
  | exn _ _ => exact h2
/-- a name gets a new list of its own -/
theorem StR.putOwn (s : StR K B ρ U ξ aenv env am M) (i : Nat) {a : Addr} {l : List A} {l' : List D} (ha : M a = none) (r : relAs K ρ l l') : StR K B ρ (mput U a (.lst l')) ξ (aenv.set i (.own l)) (env.set i (some (.ref a))) am (mput M a (.lst l')) := by
  have hU := s.m.fresh ha
  have ne : ∀ (j : Nat) (l : List A) (b : Addr), aenv[j]? = some (.own l) → env[j]? = some (some (.ref b)) → b ≠ a := fun j l b h1 h2 z => by
    obtain ⟨c, l2, e1, e2, _⟩ := own_U s.e h1
    rw [h2] at e1
    cases e1
    rw [z, hU] at e2
    cases e2
  have e1 : EnvR K ρ (mput U a (.lst l')) ξ aenv env := s.e.else_ fun j l b h1 h2 => mput_ne (ne j l b h1 h2)
  refine ⟨e1.set i ⟨a, l', rfl, mput_same, r⟩, s.m.own ha, fun b u h => ?_, fun j k b h1 h2 => ?_⟩
  · have := s.b b u h
    rw [mput_ne (fun z => by rw [z, hU] at this; cases this)]
    exact this
  · have old : ∀ (j : Nat) (k : List A) (b : Addr), j ≠ i → (aenv.set i (.own l))[j]? = some (.own k) → (env.set i (some (.ref a)))[j]? = some (some (.ref b)) → aenv[j]? = some (.own k) ∧ env[j]? = some (some (.ref b)) := fun j k b hj h1 h2 => by
      rw [List.getElem?_set_ne (Ne.symm hj)] at h1 h2
      exact ⟨h1, h2⟩
    have self : ∀ (k : List A) (b : Addr), (aenv.set i (.own l))[i]? = some (.own k) → (env.set i (some (.ref a)))[i]? = some (some (.ref b)) → b = a := fun k b h1 h2 => by
      by_cases hl : i < env.length
      · rw [List.getElem?_set_self hl] at h2
        cases h2
        rfl
      · rw [List.getElem?_eq_none (by rw [List.length_set]; omega)] at h2
        cases h2
    by_cases hj : j = i
    · subst hj
      have eb := self k b h1 h2
      subst eb
      refine ⟨?_, fun j2 l2 hj2 h3 h4 => ?_⟩
      · cases e : B b with
        | none => rfl
        | some u =>
          have := s.b b u e
          rw [hU] at this
          cases this
      · obtain ⟨k3, k4⟩ := old j2 l2 b hj2 h3 h4
        exact ne j2 l2 b k3 k4 rfl
    · obtain ⟨k1, k2⟩ := old j k b hj h1 h2
      obtain ⟨z1, z2⟩ := s.own j k b k1 k2
      refine ⟨z1, fun j2 l2 hj2 h3 h4 => ?_⟩
      by_cases e : j2 = i
      · subst e
        exact ne j k b k1 k2 (self l2 b h3 h4)
      · obtain ⟨k3, k4⟩ := old j2 l2 b e h3 h4
        exact z2 j2 l2 hj2 k3 k4
/-- a name's own list is changed -/
theorem StR.updOwn (s : StR K B ρ U ξ aenv env am M) {i : Nat} {l0 l : List A} {a : Addr} {l' : List D} (h : aenv[i]? = some (.own l0)) (he : env[i]? = some (some (.ref a))) (r : relAs K ρ l l') : StR K B ρ (mput U a (.lst l')) ξ (aenv.set i (.own l)) env am (mput M a (.lst l')) := by
  obtain ⟨a', l0', e1, hU, r0⟩ := own_U s.e h
  rw [he] at e1
  cases e1
  obtain ⟨hB, hn⟩ := s.own i l0 a h he
  have hi : i < aenv.length := by
    rcases Nat.lt_or_ge i aenv.length with z | z
    · exact z
    · rw [List.getElem?_eq_none z] at h
      cases h
  refine ⟨⟨by rw [List.length_set]; exact s.e.len, fun j v q => ?_⟩, s.m.ownUpd hU, fun b u q => ?_, fun j k b h1 h2 => ?_⟩
  · by_cases e : i = j
    · subst e
      rw [List.getElem?_set_self hi] at q
      cases q
      exact ⟨_, he, a, l', rfl, mput_same, r⟩
    · rw [List.getElem?_set_ne e] at q
      obtain ⟨t, h1, h2⟩ := s.e.get j v q
      refine ⟨t, h1, ?_⟩
      cases v with
      | own k =>
        obtain ⟨b, k', rfl, h3, h4⟩ := h2
        refine ⟨b, k', rfl, ?_, h4⟩
        rw [mput_ne (b := b) (a := a) fun z => hn j k (Ne.symm e) q (by rw [← z]; exact h1)]
        exact h3
      | no => exact h2
      | val _ => exact h2
      | exn _ _ => exact h2
  · rw [mput_ne (fun z => by rw [z, hB] at q; cases q)]
    exact s.b b u q
  · have old : ∀ (j : Nat) (k : List A), (aenv.set i (.own l))[j]? = some (.own k) → ∃ k2, aenv[j]? = some (.own k2) := fun j k q => by
      by_cases e : i = j
      · subst e
        exact ⟨l0, h⟩
      · rw [List.getElem?_set_ne e] at q
        exact ⟨k, q⟩
    obtain ⟨k2, q2⟩ := old j k h1
    obtain ⟨z1, z2⟩ := s.own j k2 b q2 h2
    refine ⟨z1, fun j2 l2 hj h3 h4 => ?_⟩
    obtain ⟨k3, q3⟩ := old j2 l2 h3
    exact z2 j2 k3 hj q3 h4
/-- a name's own list is not changed any more -/
theorem StR.frzOwn (s : StR K B ρ U ξ aenv env am M) {i : Nat} {l : List A} {a : Addr} {l' : List D} (h : aenv[i]? = some (.own l)) (he : env[i]? = some (some (.ref a))) (r : relAs K ρ l l') : StR K B ρ (mdel U a) ξ (aenv.set i (.val (.lst l))) (env.set i (some (.lst l'))) am (mdel M a) := by
  obtain ⟨a', l0', e1, hU, r0⟩ := own_U s.e h
  rw [he] at e1
  cases e1
  obtain ⟨hB, hn⟩ := s.own i l a h he
  refine ⟨⟨by rw [List.length_set, List.length_set]; exact s.e.len, fun j v q => ?_⟩, s.m.ownDel hU, fun b u q => ?_, fun j k b h1 h2 => ?_⟩
  · by_cases e : i = j
    · subst e
      by_cases hl : i < aenv.length
      · rw [List.getElem?_set_self hl] at q
        cases q
        exact ⟨_, List.getElem?_set_self (by rw [← s.e.len]; exact hl), _, rfl, l', rfl, r⟩
      · rw [List.getElem?_eq_none (by rw [List.length_set]; omega)] at q
        cases q
    · rw [List.getElem?_set_ne e] at q
      rw [List.getElem?_set_ne e]
      obtain ⟨t, h1, h2⟩ := s.e.get j v q
      refine ⟨t, h1, ?_⟩
      cases v with
      | own k =>
        obtain ⟨b, k', rfl, h3, h4⟩ := h2
        refine ⟨b, k', rfl, ?_, h4⟩
        rw [mdel_ne (b := b) (a := a) fun z => hn j k (Ne.symm e) q (by rw [← z]; exact h1)]
        exact h3
      | no => exact h2
      | val _ => exact h2
      | exn _ _ => exact h2
  · rw [mdel_ne (fun z => by rw [z, hB] at q; cases q)]
    exact s.b b u q
  · obtain ⟨q1, q2⟩ := own_set (v := .val (.lst l)) (s := some (.lst l')) (fun l => by simp) j k b h1 h2
    obtain ⟨z1, z2⟩ := s.own j k b q1 q2
    refine ⟨z1, fun j2 l2 hj h3 h4 => ?_⟩
    obtain ⟨q3, q4⟩ := own_set (v := .val (.lst l)) (s := some (.lst l')) (fun l => by simp) j2 l2 b h3 h4
    exact z2 j2 l2 hj q3 q4
end
section
variable {K : PySem.W.Frag} {ξ : Xi} {f g : SF} {φ ψ : FS} {d1 d2 d3 : DF} {e1 e2 e3 : FE} {t : DFt} {τ : FT} {fs : DFs} {φs : FEs} {dg : DG} {γ : FG}
theorem oks_next : OkS K ξ sNext qNext := fun B ρ U aenv env am M E st p => p ρ U env M (Le.refl _) st
theorem oks_seq (h1 : OkS K ξ f φ) (h2 : OkS K ξ g ψ) : OkS K ξ (sSeq f g) (qSeq φ ψ) := fun B ρ U aenv env am M E st p => by
  refine h1 B ρ U aenv env am M _ st ?_
  unfold qSeq at p
  cases e : φ aenv am with
  | nx aenv' am' =>
    rw [e] at p
    exact fun ρ' U' env' M' l st' => h2 B ρ' U' aenv' env' am' M' E st' (PostS.mono (r := ψ aenv' am') p l)
  | rt a m => rw [e] at p; exact p
  | bk a m => rw [e] at p; exact p
  | ct a m => rw [e] at p; exact p
  | ex x a m => rw [e] at p; exact p
  | bad => rw [e] at p; exact p
theorem oks_drop (h : OkE K ξ d1 e1) : OkS K ξ (sDrop d1) (qDrop e1) := fun B ρ U aenv env am M E st p => h.useS st p fun ρ1 a d am1 M1 l ra st1 p1 => p1 ρ1 U env M1 (Le.refl _) st1
theorem oks_ret (h : OkE K ξ d1 e1) : OkS K ξ (sRet d1) (qRet e1) := fun B ρ U aenv env am M E st p => h.useS (Qf := E.rt) st p fun ρ1 a d am1 M1 l ra st1 p1 => p1 ρ1 d M1 (Le.refl _) ra (st1.m.less st1.b)
theorem oks_retN : OkS K ξ sRetN qRetN := fun B ρ U aenv env am M E st p => p ρ .non M (Le.refl _) rfl (st.m.less st.b)
theorem oks_if (h1 : OkT K ξ t τ) (h2 : OkS K ξ f φ) (h3 : OkS K ξ g ψ) : OkS K ξ (sIf t f g) (qIf τ φ ψ) := fun B ρ U aenv env am M E st p => h1.useS st p fun ρ1 a d am1 M1 l ra st1 p1 => by
  cases ra
  cases a with
  | true => exact ⟨fun _ => h2 _ _ _ _ _ _ _ _ st1 p1, fun z => (by cases z)⟩
  | false => exact ⟨fun z => (by cases z), fun _ => h3 _ _ _ _ _ _ _ _ st1 p1⟩
theorem oks_break : OkS K ξ sBreak qBreak := fun B ρ U aenv env am M E st p => p ρ U env M (Le.refl _) st
theorem oks_cont : OkS K ξ sCont qCont := fun B ρ U aenv env am M E st p => p ρ U env M (Le.refl _) st
theorem okg_nm {i : Nat} : OkG K ξ (gNm i) (tNm i) := fun ρ U aenv env M a d P re ra p => p _ (re.set i ⟨d, rfl, ra⟩) (own_set fun l => by simp)
theorem okgs_nil : OkGs K ξ gsNil tNil := fun ρ U aenv env M a d P re ra p => by
  cases a with
  | nil =>
    cases ra
    exact ⟨rfl, p env re fun i l b h1 h2 => ⟨h1, h2⟩⟩
  | cons _ _ => exact p.elim
theorem okgs_cons {gs : DGs} {γs : FGs} (h1 : OkG K ξ dg γ) (h2 : OkGs K ξ gs γs) : OkGs K ξ (gsCons dg gs) (tCons γ γs) := fun ρ U aenv env M a d P re ra p => by
  cases a with
  | nil => exact p.elim
  | cons a as =>
    obtain ⟨x, r, rfl, r1, r2⟩ := ra
    refine h1 ρ U aenv env M a x _ re r1 ?_
    unfold tCons at p
    cases e : γ a aenv with
    | none =>
      simp only [e] at p
    | some aenv' =>
      simp only [e] at p
      exact fun env' re' ow => h2 ρ U aenv' env' M as r P re' r2 (by
        cases e2 : γs as aenv' with
        | none =>
          simp only [e2] at p
        | some aenv2 =>
          simp only [e2] at p
          exact fun env2 re2 ow2 => p env2 re2 fun i l b h1 h2 => let ⟨k1, k2⟩ := ow2 i l b h1 h2; ow i l b k1 k2)
theorem okg_tup {n : Nat} {gs : DGs} {γs : FGs} (h : OkGs K ξ gs γs) : OkG K ξ (gTupD n gs) (tTup n γs) := fun ρ U aenv env M a d P re ra p => by
  cases a with
  | tup l =>
    obtain ⟨l', rfl, r⟩ := ra
    by_cases hl : l.length = n
    · refine ⟨by rw [r.length]; exact hl, h ρ U aenv env M l l' P re r ?_⟩
      simp only [tTup, hl, if_true] at p
      exact p
    · simp only [tTup, hl, if_false] at p
  | _ => exact p.elim
theorem oks_asg (h1 : OkE K ξ d1 e1) (h2 : OkG K ξ dg γ) : OkS K ξ (sAsg d1 dg) (qAsg e1 γ) := fun B ρ U aenv env am M E st p => h1.useS st p fun ρ1 a d am1 M1 l ra st1 p1 => by
  refine h2 ρ1 U aenv env M1 a d _ st1.e ra ?_
  cases e : γ a aenv with
  | none =>
    simp only [e] at p1
    exact p1
  | some aenv' =>
    simp only [e] at p1
    exact fun env' re' ow => p1 ρ1 U env' M1 (Le.refl _) (st1.sub re' ow)
theorem oks_own {i : Nat} (h : OkA K ξ fs φs) : OkS K ξ (sAsg (dLst fs) (gNm i)) (qOwn i φs) := fun B ρ U aenv env am M E st p => h.useS st p fun ρ1 a d am1 M1 l ra st1 p1 => by
  split at p1
  · rename_i hl
    exact ⟨by rw [relAs.length ra]; exact hl, fun c hc => p1 ρ1 _ _ _ (Le.refl _) (st1.putOwn i hc ra)⟩
  · exact p1.elim
theorem oks_app {i : Nat} (h : OkE K ξ d1 e1) : OkS K ξ (sDrop (dApp (dVar i) d1)) (qApp i e1) := fun B ρ U aenv env am M E st p => by
  unfold qApp at p
  split at p
  · rename_i l el
    obtain ⟨a, l', h1, h2, h3⟩ := own_U st.e el
    unfold sDrop dApp dVar
    simp only [h1, n_ref, n_lat (st.m.un _ _ h2)]
    refine h.useS st p fun ρ1 x d am1 M1 l1 ra st1 p1 => ?_
    obtain ⟨a', l2, k1, k2, k3⟩ := own_U st1.e el
    rw [h1] at k1
    cases k1
    rw [h2] at k2
    cases k2
    rw [n_lat (st1.m.un _ _ h2)]
    split at p1
    · rename_i hl
      exact ⟨by rw [k3.length]; exact hl, p1 ρ1 _ _ _ (Le.refl _) (st1.updOwn el h1 (k3.append (.one ra)))⟩
    · exact p1.elim
  · exact p.elim
theorem oks_store (h1 : OkE K ξ d1 e1) (h2 : OkE K ξ d2 e2) (h3 : OkE K ξ d3 e3) : OkS K ξ (sAsg d1 (gSubD d2 d3)) (qStore e1 e2 e3) := fun B ρ U aenv env am M E st p => h1.useS st p fun ρ1 a d am1 M1 l1 ra st1 p1 => by
  refine h2 ρ1 U aenv env am1 M1 _ _ st1.e st1.m ?_
  cases e : e2 aenv am1 with
  | bad => simp only [e] at p1; exact p1
  | ex _ _ => simp only [e] at p1; exact p1.elim
  | ok x am2 =>
    cases x with
    | loc n =>
      simp only [e] at p1
      intro ρ2 y M2 l2 ry rm2
      refine h3 ρ2 U aenv env am2 M2 _ _ (st1.e.mono l2) rm2 ?_
      cases e' : e3 aenv am2 with
      | bad => simp only [e'] at p1; exact p1
      | ex _ _ => simp only [e'] at p1; exact p1.elim
      | ok z am3 =>
        cases z with
        | int k =>
          simp only [e'] at p1
          intro ρ3 w M3 l3 rw_ rm3
          have ew : w = .int k := rw_
          subst ew
          obtain ⟨c, hc, rfl⟩ := relA.mono l3 _ _ ry
          show lstAt M3 c _
          split at p1
          · rename_i l el
            obtain ⟨l', q1, q2⟩ := rm3.at_loc el hc
            unfold lstAt
            rw [q1]
            split at p1
            · rename_i j ej
              refine ⟨j, by rw [q2.length]; exact ej, p1 ρ3 U env _ (l2.trans l3) (st1.to (l2.trans l3) (rm3.upd el (by simp) hc ⟨_, rfl, q2.set ?_ _⟩))⟩
              exact relA.mono (l2.trans l3) _ _ ra
            · exact p1.elim
          · exact p1.elim
        | _ => simp only [e'] at p1; exact p1.elim
    | _ => simp only [e] at p1; exact p1.elim
theorem oks_storeO {i : Nat} (h1 : OkE K ξ d1 e1) (h3 : OkE K ξ d3 e3) : OkS K ξ (sAsg d1 (gSubD (dVar i) d3)) (qStoreO e1 i e3) := fun B ρ U aenv env am M E st p => h1.useS st p fun ρ1 a d am1 M1 l1 ra st1 p1 => by
  cases e' : e3 aenv am1 with
  | bad => simp only [e'] at p1; exact p1.elim
  | ex _ _ => simp only [e'] at p1; exact p1.elim
  | ok z am3 =>
    cases z with
    | int k =>
      simp only [e'] at p1
      split at p1
      · rename_i l el
        split at p1
        · rename_i j ej
          obtain ⟨c, l', q1, q2, q3⟩ := own_U st1.e el
          show dVar i env M1 _ _
          unfold dVar
          rw [q1]
          refine h3 ρ1 U aenv env am1 M1 _ _ st1.e st1.m ?_
          rw [e']
          intro ρ3 w M3 l3 rw_ rm3
          have ew : w = .int k := rw_
          subst ew
          show lstAt M3 c _
          unfold lstAt
          rw [rm3.un _ _ q2]
          have st3 := st1.to l3 rm3
          have q4 := relAs.mono l3 _ _ q3
          exact ⟨j, by rw [q3.length]; exact ej, p1 ρ3 _ _ _ l3 (st3.updOwn el q1 (q4.set (relA.mono l3 _ _ ra) _))⟩
        · exact p1.elim
      · exact p1.elim
    | _ => simp only [e'] at p1; exact p1.elim
theorem oks_retO {i : Nat} : OkS K ξ (sRet (dFrz (dVar i))) (qRetO i) := fun B ρ U aenv env am M E st p => by
  unfold qRetO at p
  unfold sRet dFrz dVar
  split at p
  · rename_i l el
    obtain ⟨c, l', q1, q2, q3⟩ := own_U st.e el
    rw [q1]
    show lstAt M c _
    unfold lstAt
    rw [st.m.un _ _ q2]
    have s2 := st.frzOwn el q1 q3
    exact p ρ _ _ (Le.refl _) ⟨l', rfl, q3⟩ (s2.m.less s2.b)
  · rename_i n en
    obtain ⟨s, q1, d, rfl, c, hc, rfl⟩ := st.e.get i _ en
    rw [q1]
    split at p
    · rename_i l el
      obtain ⟨l', q2, q3⟩ := st.m.at_loc el hc
      show lstAt M c _
      unfold lstAt
      rw [q2]
      exact p ρ _ _ (Le.refl _) ⟨l', rfl, q3⟩ ((st.m.kill el (by simp) hc).less st.b)
    · exact p.elim
  · exact p.elim
theorem oks_frz {i : Nat} (h : OkS K ξ f φ) : OkS K ξ (sFrz i f) (qFrz i φ) := fun B ρ U aenv env am M E st p => by
  unfold qFrz at p
  unfold sFrz
  split at p
  · rename_i l el
    obtain ⟨c, l', q1, q2, q3⟩ := own_U st.e el
    rw [q1]
    show lstAt M c _
    unfold lstAt
    rw [st.m.un _ _ q2]
    exact h B ρ _ _ _ _ _ E (st.frzOwn el q1 q3) p
  · rename_i n en
    obtain ⟨s, q1, d, rfl, c, hc, rfl⟩ := st.e.get i _ en
    rw [q1]
    split at p
    · rename_i l el
      obtain ⟨l', q2, q3⟩ := st.m.at_loc el hc
      show lstAt M c _
      unfold lstAt
      rw [q2]
      exact h B ρ _ _ _ _ _ E ((st.to (Le.refl _) (st.m.kill el (by simp) hc)).set (a := .lst l) i ⟨l', rfl, q3⟩) p
    · exact p.elim
  · exact p.elim
theorem oks_par {i j : Nat} (h : OkA K ξ fs φs) : OkS K ξ (sPar i j fs) (qPar i j φs) := fun B ρ U aenv env am M E st p => h.useS st p fun ρ1 a d am1 M1 l ra st1 p1 => by
  match a, ra, p1 with
  | [x, y], ra, p1 =>
    obtain ⟨d1, r1, rfl, h1, d2, r2, rfl, h2, h3⟩ := ra
    cases h3
    exact p1 ρ1 U _ _ (Le.refl _) ((st1.set i h1).set j h2)
theorem relF.append {ρ : List Addr} : ∀ {l u : List (Str × A)} {l' u' : List (Str × D)}, relF K ρ l l' → relF K ρ u u' → relF K ρ (l ++ u) (l' ++ u')
  | [], _, _, _, h, k => by
    cases h
    exact k
  | (n, a) :: l, u, l', u', h, k => by
    obtain ⟨d, t, rfl, h2, h3⟩ := h
    exact ⟨d, t ++ u', rfl, h2, relF.append h3 k⟩
theorem relF.rev {ρ : List Addr} : ∀ {l : List (Str × A)} {l' : List (Str × D)}, relF K ρ l l' → relF K ρ l.reverse l'.reverse
  | [], _, h => by
    cases h
    rfl
  | (n, a) :: l, l', h => by
    obtain ⟨d, t, rfl, h2, h3⟩ := h
    rw [(List.reverse_cons), List.reverse_cons]
    exact relF.append (relF.rev h3) ⟨d, [], rfl, h2, rfl⟩
theorem relF.zip {ρ : List Addr} : ∀ {ns : List Str} {l : List A} {l' : List D}, relAs K ρ l l' → relF K ρ (ns.zip l) (ns.zip l')
  | [], _, _, _ => rfl
  | n :: ns, [], l', h => by
    cases h
    rfl
  | n :: ns, a :: l, l', h => by
    obtain ⟨d, t, rfl, h2, h3⟩ := h
    exact ⟨d, _, rfl, h2, relF.zip h3⟩
theorem oks_raise {c : Str} {ns : List Str} (h : OkA K ξ fs φs) : OkS K ξ (sRaise (He.ga K c) ns fs) (qRaise c ns φs) := fun B ρ U aenv env am M E st p => h.useS st p fun ρ1 a d am1 M1 l ra st1 p1 =>
  p1 ρ1 U _ env M1 (Le.refl _) (relF.zip ra).rev st1
end
end FL
set_option maxHeartbeats 4000001
namespace FL
open PySem PySem.Spec
open PyProof.Rows L2 DL

/-! ### equal data -/
mutual
def beqA : A → A → Bool
  | .non, .non => true
  | .bl a, .bl b => a == b
  | .int a, .int b => a == b
  | .str a, .str b => a == b
  | .ty a, .ty b => a == b
  | .fn a, .fn b => a == b
  | .loc a, .loc b => a == b
  | .lst l, .lst u => beqAs l u
  | .tup l, .tup u => beqAs l u
  | .dct l, .dct u => beqAk l u
  | _, _ => false
def beqAs : List A → List A → Bool
  | [], [] => true
  | a :: as, b :: bs => beqA a b && beqAs as bs
  | _, _ => false
def beqAk : List (Key × A) → List (Key × A) → Bool
  | [], [] => true
  | (k, a) :: as, (n, b) :: bs => (decide (k = n) && beqA a b) && beqAk as bs
  | _, _ => false
end
mutual
theorem beqA_eq : ∀ (a b : A), beqA a b = true → a = b
  | .non, b, h => by cases b <;> simp_all [beqA]
  | .bl _, b, h => by cases b <;> simp_all [beqA]
  | .int _, b, h => by cases b <;> simp_all [beqA]
  | .str _, b, h => by cases b <;> simp_all [beqA]
  | .ty _, b, h => by cases b <;> simp_all [beqA]
  | .fn _, b, h => by cases b <;> simp_all [beqA]
  | .loc _, b, h => by cases b <;> simp_all [beqA]
  | .lst l, b, h => by
    cases b with
    | lst u =>
      simp only [beqA] at h
      rw [beqAs_eq l u h]
    | _ => simp [beqA] at h
  | .tup l, b, h => by
    cases b with
    | tup u =>
      simp only [beqA] at h
      rw [beqAs_eq l u h]
    | _ => simp [beqA] at h
  | .dct l, b, h => by
    cases b with
    | dct u =>
      simp only [beqA] at h
      rw [beqAk_eq l u h]
    | _ => simp [beqA] at h
theorem beqAs_eq : ∀ (l u : List A), beqAs l u = true → l = u
  | [], u, h => by cases u <;> simp_all [beqAs]
  | a :: as, u, h => by
    cases u with
    | nil => simp [beqAs] at h
    | cons b bs =>
      simp only [beqAs, Bool.and_eq_true] at h
      rw [beqA_eq a b h.1, beqAs_eq as bs h.2]
theorem beqAk_eq : ∀ (l u : List (Key × A)), beqAk l u = true → l = u
  | [], u, h => by cases u <;> simp_all [beqAk]
  | (k, a) :: as, u, h => by
    cases u with
    | nil => simp [beqAk] at h
    | cons b bs =>
      obtain ⟨n, b⟩ := b
      simp only [beqAk, Bool.and_eq_true, decide_eq_true_eq] at h
      rw [h.1.1, beqA_eq a b h.1.2, beqAk_eq as bs h.2]
end
mutual
theorem beqA_refl : ∀ a : A, beqA a a = true
  | .non => rfl
  | .bl _ => by simp [beqA]
  | .int _ => by simp [beqA]
  | .str _ => by simp [beqA]
  | .ty _ => by simp [beqA]
  | .fn _ => by simp [beqA]
  | .loc _ => by simp [beqA]
  | .lst l => by simp only [beqA, beqAs_refl l]
  | .tup l => by simp only [beqA, beqAs_refl l]
  | .dct l => by simp only [beqA, beqAk_refl l]
theorem beqAs_refl : ∀ l : List A, beqAs l l = true
  | [] => rfl
  | a :: as => by simp only [beqAs, beqA_refl a, beqAs_refl as, Bool.and_self]
theorem beqAk_refl : ∀ l : List (Key × A), beqAk l l = true
  | [] => rfl
  | (k, a) :: as => by simp only [beqAk, beqA_refl a, beqAk_refl as, decide_true, Bool.and_self]
end
mutual
theorem relA.inj {K : PySem.W.Frag} {ρ : List Addr} : ∀ (a : A) (d e : D), relA K ρ a d → relA K ρ a e → d = e
  | .non, d, e, r, s => by cases r; cases s; rfl
  | .bl _, d, e, r, s => by cases r; cases s; rfl
  | .int _, d, e, r, s => by cases r; cases s; rfl
  | .str _, d, e, r, s => by cases r; cases s; rfl
  | .ty _, d, e, r, s => by cases r; cases s; rfl
  | .fn _, d, e, r, s => by cases r; cases s; rfl
  | .loc n, d, e, r, s => by
    obtain ⟨a, h1, rfl⟩ := r
    obtain ⟨b, h2, rfl⟩ := s
    rw [h1] at h2
    cases h2
    rfl
  | .lst l, d, e, r, s => by
    obtain ⟨a, rfl, h1⟩ := r
    obtain ⟨b, rfl, h2⟩ := s
    rw [relAs.inj l a b h1 h2]
  | .tup l, d, e, r, s => by
    obtain ⟨a, rfl, h1⟩ := r
    obtain ⟨b, rfl, h2⟩ := s
    rw [relAs.inj l a b h1 h2]
  | .dct l, d, e, r, s => by
    obtain ⟨a, rfl, h1⟩ := r
    obtain ⟨b, rfl, h2⟩ := s
    rw [relAk.inj l a b h1 h2]
theorem relAs.inj {K : PySem.W.Frag} {ρ : List Addr} : ∀ (a : List A) (d e : List D), relAs K ρ a d → relAs K ρ a e → d = e
  | [], d, e, r, s => by cases r; cases s; rfl
  | a :: as, d, e, r, s => by
    obtain ⟨x, t, rfl, h1, h2⟩ := r
    obtain ⟨y, u, rfl, k1, k2⟩ := s
    rw [relA.inj a x y h1 k1, relAs.inj as t u h2 k2]
theorem relAk.inj {K : PySem.W.Frag} {ρ : List Addr} : ∀ (a : List (Key × A)) (d e : List (Key × D)), relAk K ρ a d → relAk K ρ a e → d = e
  | [], d, e, r, s => by cases r; cases s; rfl
  | (k, a) :: as, d, e, r, s => by
    obtain ⟨x, t, rfl, h1, h2⟩ := r
    obtain ⟨y, u, rfl, k1, k2⟩ := s
    rw [relA.inj a x y h1 k1, relAk.inj as t u h2 k2]
end

/-! ### what is walked -/
/-- lists that may change, which must stay while they are walked -/
abbrev Kps := List (Nat × List A)
def kpA (ks : Kps) (m : AM) : Bool := ks.all fun x => match m[x.1]? with
  | some (.lst u) => beqAs x.2 u
  | _ => false
abbrev FI := AEnv → AM → R (List A × Kps)
/-- loose: what is walked may be a name's own list, which stays while U stays -/
def PostI (K : PySem.W.Frag) (loose : Bool) (ρ : List Addr) (U : Mem) (r : R (List A × Kps)) (Q : List D → (Mem → Prop) → Mem → Prop) (X : XD) : Prop := match r with
  | .ok a am => ∀ ρ' d (Kp : Mem → Prop) M', Le ρ ρ' → relAs K ρ' a.1 d → MemR K ρ' U am M' → (∀ (ρ2 : List Addr) (U2 : Mem) (am2 : AM) (M2 : Mem), Le ρ' ρ2 → MemR K ρ2 U2 am2 M2 → kpA a.2 am2 = true → (loose = true → ∀ b u, U b = some u → M2 b = some u) → Kp M2) → Q d Kp M'
  | .ex x am => ∀ ρ' fs M', Le ρ ρ' → relF K ρ' x.fs fs → MemR K ρ' U am M' → X ⟨.ref (He.ga K x.cls), fs⟩ M'
  | .bad => False
def OkI (K : PySem.W.Frag) (ξ : Xi) (loose : Bool) (f : DFi) (φ : FI) : Prop := ∀ (ρ : List Addr) (U : Mem) (aenv : AEnv) (env : EnvD) (am : AM) (M : Mem) (Q : List D → (Mem → Prop) → Mem → Prop) (X : XD), EnvR K ρ U ξ aenv env → MemR K ρ U am M → PostI K loose ρ U (φ aenv am) Q X → f env M Q X
/-- frozen, or looked at, or at a place -/
def vsq (m : AM) : A → Option (Bool × List A × Kps)
  | .lst l => some (true, l, [])
  | .tup l => some (false, l, [])
  | .loc n => match m[n]? with
    | some (.lst l) => some (true, l, [(n, l)])
    | _ => none
  | _ => none
def enumA (l : List A) : List A := l.mapIdx fun i d => .tup [.int (i : Nat), d]
def rangeA (n : Int) : List A := (List.range n.toNat).map fun i => .int (i : Nat)
def zipA (l u : List A) : List A := (l.zip u).map fun p => .tup [p.1, p.2]
def pISq (φ : FE) : FI := fun env m => (φ env m).bind fun a m1 => match vsq m1 a with
  | some (_, l, ks) => .ok (l, ks) m1
  | none => .bad
def pIEn (φ : FE) : FI := fun env m => (φ env m).bind fun a m1 => match vsq m1 a with
  | some (_, l, ks) => .ok (enumA l, ks) m1
  | none => .bad
def pIRg (φ : FE) : FI := fun env m => (φ env m).bind fun a m1 => iOf a fun n => if -(2 ^ 62) ≤ n ∧ n < 2 ^ 62 then .ok (rangeA n, []) m1 else .bad
def pIZp (ψ : FEs) : FI := fun env m => (ψ env m).bind fun as m1 => match as with
  | [x, y] => match vsq m1 x, vsq m1 y with
    | some (true, l, ks), some (true, u, qs) => .ok (zipA l u, ks ++ qs) m1
    | some (false, l, ks), some (false, u, qs) => .ok (zipA l u, ks ++ qs) m1
    | _, _ => .bad
  | _ => .bad
section
variable {K : PySem.W.Frag} {ξ : Xi}
theorem PostI.mono {loose : Bool} {ρ ρ' : List Addr} {U : Mem} {r : R (List A × Kps)} {Q : List D → (Mem → Prop) → Mem → Prop} {X : XD} (h : PostI K loose ρ U r Q X) (l : Le ρ ρ') : PostI K loose ρ' U r Q X := by
  cases r with
  | ok a am => exact fun ρ2 d Kp M' l2 => h ρ2 d Kp M' (l.trans l2)
  | ex x am => exact fun ρ2 fs M' l2 => h ρ2 fs M' (l.trans l2)
  | bad => exact h
theorem Ok.useI {α δ : Type} {rel : List Addr → Mem → α → δ → Prop} {loose : Bool} {f : EnvD → Mem → (δ → Mem → Prop) → XD → Prop} {φ : AEnv → AM → R α} {ρ : List Addr} {U : Mem} {aenv : AEnv} {env : EnvD} {am : AM} {M : Mem} {Q : List D → (Mem → Prop) → Mem → Prop} {Qf : δ → Mem → Prop} {X : XD} {k : α → AM → R (List A × Kps)}
    (h : Ok K ξ rel f φ) (re : EnvR K ρ U ξ aenv env) (rm : MemR K ρ U am M) (p : PostI K loose ρ U ((φ aenv am).bind k) Q X)
    (q : ∀ (ρ' : List Addr) (a : α) (d : δ) (am1 : AM) (M1 : Mem), Le ρ ρ' → rel ρ' U a d → EnvR K ρ' U ξ aenv env → MemR K ρ' U am1 M1 → PostI K loose ρ' U (k a am1) Q X → Qf d M1) : f env M Qf X := by
  refine h ρ U aenv env am M _ X re rm ?_
  cases e : φ aenv am with
  | ok a am1 =>
    intro ρ' d M' l ra rm'
    rw [e] at p
    exact q ρ' a d am1 M' l ra (re.mono l) rm' (PostI.mono (r := k a am1) p l)
  | ex x am1 =>
    rw [e] at p
    exact p
  | bad =>
    rw [e] at p
    exact p
/-- it stays -/
abbrev Kept (K : PySem.W.Frag) (ρ : List Addr) (ks : Kps) (P : Mem → Prop) : Prop := ∀ (ρ2 : List Addr) (U2 : Mem) (am2 : AM) (M2 : Mem), Le ρ ρ2 → MemR K ρ2 U2 am2 M2 → kpA ks am2 = true → P M2
theorem vsq_of {ρ : List Addr} {U : Mem} {am : AM} {M : Mem} {a : A} {d : D} {w : Bool} {l : List A} {ks : Kps} (m : MemR K ρ U am M) (r : relA K ρ a d) (h : vsq am a = some (w, l, ks)) : ∃ l', seqD M d = some (w, l') ∧ relAs K ρ l l' ∧ Kept K ρ ks (keepOf M d) := by
  cases a with
  | lst l0 =>
    cases h
    obtain ⟨l', rfl, q⟩ := r
    exact ⟨l', rfl, q, fun _ _ _ _ _ _ _ => True.intro⟩
  | tup l0 =>
    cases h
    obtain ⟨l', rfl, q⟩ := r
    exact ⟨l', rfl, q, fun _ _ _ _ _ _ _ => True.intro⟩
  | loc n =>
    obtain ⟨c, e, rfl⟩ := r
    simp only [vsq] at h
    split at h
    · rename_i l2 e2
      cases h
      obtain ⟨l', h1, h2⟩ := m.at_loc e2 e
      refine ⟨l', by simp only [seqD, h1], h2, fun ρ2 U2 am2 M2 le m2 hk => ?_⟩
      show M2 c = M c
      simp only [kpA, List.all_cons, List.all_nil, Bool.and_true] at hk
      split at hk
      · rename_i u eu
        have := beqAs_eq _ _ hk
        subst this
        obtain ⟨l2', k1, k2⟩ := m2.at_loc eu (le _ _ e)
        rw [k1, h1, relAs.inj _ _ _ k2 (relAs.mono le _ _ h2)]
      · cases hk
    · cases h
  | _ => cases h
theorem vsq_ofB {ρ : List Addr} {U : Mem} {am : AM} {M : Mem} {a : A} {d : D} {w : Bool} {l : List A} {ks : Kps} (m : MemR K ρ U am M) (r : rB K ρ U a d) (h : vsq am a = some (w, l, ks)) : ∃ l', seqD M d = some (w, l') ∧ relAs K ρ l l' ∧ Kept K ρ ks fun M2 => (∀ b u, U b = some u → M2 b = some u) → keepOf M d M2 := by
  rcases r with r | ⟨l0, c, l', rfl, rfl, hu, r⟩
  · obtain ⟨l', h1, h2, h3⟩ := vsq_of m r h
    exact ⟨l', h1, h2, fun ρ2 U2 am2 M2 le m2 hk _ => h3 ρ2 U2 am2 M2 le m2 hk⟩
  · cases h
    refine ⟨l', by simp only [seqD, m.un _ _ hu], r, fun ρ2 U2 am2 M2 le m2 hk q => ?_⟩
    show M2 c = M c
    rw [m.un _ _ hu, q _ _ hu]
theorem oki_sq {f : DF} {φ : FE} (h : OkE K ξ f φ) : OkI K ξ false (iSq f) (pISq φ) := fun ρ U aenv env am M Q X re rm p =>
  h.useI re rm p fun ρ1 a d am1 M1 l1 ra re1 rm1 p1 => by
    cases e : vsq am1 a with
    | none => simp only [e] at p1; exact p1.elim
    | some z =>
      obtain ⟨w, l, ks⟩ := z
      simp only [e] at p1
      obtain ⟨l', h1, h2, h3⟩ := vsq_of rm1 ra e
      rw [h1]
      exact p1 ρ1 l' _ M1 (Le.refl _) h2 rm1 fun ρ2 U2 am2 M2 le m2 hk _ => h3 ρ2 U2 am2 M2 le m2 hk
theorem oki_sqB {f : DF} {φ : FE} (h : OkB K ξ f φ) : OkI K ξ true (iSq f) (pISq φ) := fun ρ U aenv env am M Q X re rm p =>
  h.useI re rm p fun ρ1 a d am1 M1 l1 ra re1 rm1 p1 => by
    cases e : vsq am1 a with
    | none => simp only [e] at p1; exact p1.elim
    | some z =>
      obtain ⟨w, l, ks⟩ := z
      simp only [e] at p1
      obtain ⟨l', h1, h2, h3⟩ := vsq_ofB rm1 ra e
      rw [h1]
      exact p1 ρ1 l' _ M1 (Le.refl _) h2 rm1 fun ρ2 U2 am2 M2 le m2 hk q => h3 ρ2 U2 am2 M2 le m2 hk (q rfl)
theorem relAs.enum {ρ : List Addr} : ∀ {l : List A} {l' : List D}, relAs K ρ l l' → relAs K ρ (enumA l) (enumD l') := by
  intro l l' h
  unfold enumA enumD
  have key : ∀ (l : List A) (l' : List D) (f : Nat → A → A) (g : Nat → D → D), (∀ i a d, relA K ρ a d → relA K ρ (f i a) (g i d)) → relAs K ρ l l' → relAs K ρ (l.mapIdx f) (l'.mapIdx g) := by
    intro l
    induction l with
    | nil =>
      intro l' f g _ h
      cases h
      simp [relAs]
    | cons a l ih =>
      intro l' f g hfg h
      obtain ⟨d, t, rfl, h2, h3⟩ := h
      rw [List.mapIdx_cons, List.mapIdx_cons]
      exact ⟨_, _, rfl, hfg 0 a d h2, ih t _ _ (fun i => hfg (i + 1)) h3⟩
  exact key l l' _ _ (fun i a d r => ⟨_, rfl, _, _, rfl, rfl, _, _, rfl, r, rfl⟩) h
theorem oki_en {f : DF} {φ : FE} (h : OkE K ξ f φ) : OkI K ξ false (iEn f) (pIEn φ) := fun ρ U aenv env am M Q X re rm p =>
  h.useI re rm p fun ρ1 a d am1 M1 l1 ra re1 rm1 p1 => by
    cases e : vsq am1 a with
    | none => simp only [e] at p1; exact p1.elim
    | some z =>
      obtain ⟨w, l, ks⟩ := z
      simp only [e] at p1
      obtain ⟨l', h1, h2, h3⟩ := vsq_of rm1 ra e
      rw [h1]
      exact p1 ρ1 _ _ M1 (Le.refl _) h2.enum rm1 fun ρ2 U2 am2 M2 le m2 hk _ => h3 ρ2 U2 am2 M2 le m2 hk
theorem oki_enB {f : DF} {φ : FE} (h : OkB K ξ f φ) : OkI K ξ true (iEn f) (pIEn φ) := fun ρ U aenv env am M Q X re rm p =>
  h.useI re rm p fun ρ1 a d am1 M1 l1 ra re1 rm1 p1 => by
    cases e : vsq am1 a with
    | none => simp only [e] at p1; exact p1.elim
    | some z =>
      obtain ⟨w, l, ks⟩ := z
      simp only [e] at p1
      obtain ⟨l', h1, h2, h3⟩ := vsq_ofB rm1 ra e
      rw [h1]
      exact p1 ρ1 _ _ M1 (Le.refl _) h2.enum rm1 fun ρ2 U2 am2 M2 le m2 hk q => h3 ρ2 U2 am2 M2 le m2 hk (q rfl)
theorem range_of {ρ : List Addr} (n : Int) : relAs K ρ (rangeA n) (rangeD n) := by
  unfold rangeA rangeD
  generalize List.range n.toNat = l
  induction l with
  | nil => rfl
  | cons i l ih => exact ⟨_, _, rfl, rfl, ih⟩
theorem oki_rg {loose : Bool} {f : DF} {φ : FE} (h : OkB K ξ f φ) : OkI K ξ loose (iRg f) (pIRg φ) := fun ρ U aenv env am M Q X re rm p =>
  h.useI re rm p fun ρ1 a d am1 M1 l1 ra re1 rm1 p1 => by
    cases a with
    | int n =>
      cases int_of ra
      simp only [iOf] at p1
      split at p1
      · rename_i hn
        exact ⟨hn, p1 ρ1 _ _ M1 (Le.refl _) (range_of n) rm1 fun _ _ _ _ _ _ _ _ => True.intro⟩
      · exact p1.elim
    | _ => exact p1.elim
theorem kp_app {ks qs : Kps} {m : AM} (h : kpA (ks ++ qs) m = true) : kpA ks m = true ∧ kpA qs m = true := by
  unfold kpA at h ⊢
  rw [List.all_append, Bool.and_eq_true] at h
  exact h
theorem zip_use {ρ1 : List Addr} {U : Mem} {am1 : AM} {M1 : Mem} {dx dy : D} {l' u' : List D} {w : Bool} {l u : List A} {ks qs : Kps} {Q : List D → (Mem → Prop) → Mem → Prop} {X : XD} {x y : A} (rm1 : MemR K ρ1 U am1 M1) (p1 : PostI K false ρ1 U (.ok (zipA l u, ks ++ qs) am1) Q X) (h1 : relA K ρ1 x dx) (h2 : relA K ρ1 y dy) (ex : vsq am1 x = some (w, l, ks)) (ey : vsq am1 y = some (w, u, qs)) :
    ∃ x y b l u, [dx, dy] = [x, y] ∧ seqD M1 x = some (b, l) ∧ seqD M1 y = some (b, u) ∧ Q (zipD l u) (fun M2 => keepOf M1 x M2 ∧ keepOf M1 y M2) M1 := by
  obtain ⟨l', k1, k2, k3⟩ := vsq_of rm1 h1 ex
  obtain ⟨u', j1, j2, j3⟩ := vsq_of rm1 h2 ey
  exact ⟨_, _, w, l', u', rfl, k1, j1, p1 ρ1 _ _ M1 (Le.refl _) (k2.zip j2) rm1 fun ρ2 U2 am2 M2 le m2 hk _ => ⟨k3 ρ2 U2 am2 M2 le m2 (kp_app hk).1, j3 ρ2 U2 am2 M2 le m2 (kp_app hk).2⟩⟩
theorem oki_zp {fs : DFs} {φs : FEs} (h : OkA K ξ fs φs) : OkI K ξ false (iZp fs) (pIZp φs) := fun ρ U aenv env am M Q X re rm p =>
  h.useI re rm p fun ρ1 a d am1 M1 l1 ra re1 rm1 p1 => by
    match a, ra, p1 with
    | [x, y], ra, p1 =>
      obtain ⟨dx, r1, rfl, h1, dy, r2, rfl, h2, h3⟩ := ra
      cases h3
      simp only at p1
      split at p1
      · rename_i l ks u qs ex ey
        exact zip_use (l' := []) (u' := []) rm1 p1 h1 h2 ex ey
      · rename_i l ks u qs ex ey
        exact zip_use (l' := []) (u' := []) rm1 p1 h1 h2 ex ey
      · exact p1.elim
end

/-! ### comprehensions -/
def noex {α : Type} (r : R α) : R α := match r with
  | .ok a m => .ok a m
  | _ => .bad
def pYes : FT := fun _ m => .ok true m
def wipeA (env : AEnv) : List Nat → AEnv
  | [] => env
  | v :: vs => (wipeA env vs).set v .no
def compA (γ : FG) (env : AEnv) (φt : FT) (φe : FE) : List A → AM → R (List A)
  | [], m => .ok [] m
  | d :: ds, m => match γ d env with
    | some env1 => (noex (φt env1 m)).bind fun b m2 => bif b then (noex (φe env1 m2)).bind fun y m3 => (compA γ env φt φe ds m3).bind fun ys m4 => .ok (y :: ys) m4 else compA γ env φt φe ds m2
    | none => .bad
/-- the same, while the lists stay -/
def compK (ks : Kps) (γ : FG) (env : AEnv) (φt : FT) (φe : FE) : List A → AM → R (List A)
  | [], m => if kpA ks m = true then .ok [] m else .bad
  | d :: ds, m => if kpA ks m = true then (match γ d env with
    | some env1 => (noex (φt env1 m)).bind fun b m2 => bif b then (noex (φe env1 m2)).bind fun y m3 => (compK ks γ env φt φe ds m3).bind fun ys m4 => .ok (y :: ys) m4 else compK ks γ env φt φe ds m2
    | none => .bad) else .bad
theorem compK_nil (γ : FG) (env : AEnv) (φt : FT) (φe : FE) : ∀ (ds : List A) (m : AM), compK [] γ env φt φe ds m = compA γ env φt φe ds m
  | [], m => by simp [compK, compA, kpA]
  | d :: ds, m => by
    have ih := compK_nil γ env φt φe ds
    simp only [compK, compA, kpA, List.all_nil, if_true]
    cases γ d env with
    | none => rfl
    | some env1 => simp only [ih]
def pLcV (φi : FI) (γ : FG) (vs : List Nat) (φt : FT) (φe : FE) : AEnv → AM → R (List A) := fun env m => (φi env m).bind fun dk m1 => if dk.1.length < 1000000 then compK dk.2 γ (wipeA env vs) φt φe dk.1 m1 else .bad
/-- frozen -/
def pLcF (φi : FI) (γ : FG) (vs : List Nat) (φt : FT) (φe : FE) : FE := fun env m => (pLcV φi γ vs φt φe env m).bind fun l m1 => .ok (.lst l) m1
/-- to be changed -/
def pLcM (φi : FI) (γ : FG) (vs : List Nat) (φt : FT) (φe : FE) : FE := fun env m => (pLcV φi γ vs φt φe env m).bind fun l m1 => .ok (.loc m1.length) (m1 ++ [.lst l])
def qLcO (i : Nat) (φi : FI) (γ : FG) (vs : List Nat) (φt : FT) (φe : FE) : FS := fun env m => bindS (pLcV φi γ vs φt φe env m) env fun l m1 => .nx (env.set i (.own l)) m1
section
variable {K : PySem.W.Frag} {ξ : Xi} {fi : DFi} {φi : FI} {g : DG} {γ : FG} {vs : List Nat} {ft : DFt} {φt : FT} {fe : DF} {φe : FE}
theorem wipe_rel {ρ : List Addr} {U : Mem} {aenv : AEnv} {env : EnvD} (r : EnvR K ρ U ξ aenv env) : ∀ vs : List Nat, EnvR K ρ U ξ (wipeA aenv vs) (wipeD env vs)
  | [] => r
  | v :: vs => (wipe_rel r vs).set v True.intro
theorem noex_bind {α β δ ε : Type} {rel : List Addr → Mem → α → δ → Prop} {rel' : List Addr → Mem → β → ε → Prop} {f : EnvD → Mem → (δ → Mem → Prop) → XD → Prop} {φ : AEnv → AM → R α} {ρ : List Addr} {U : Mem} {aenv : AEnv} {env : EnvD} {am : AM} {M : Mem} {Q : ε → Mem → Prop} {Qf : δ → Mem → Prop} {X X' : XD} {k : α → AM → R β}
    (h : Ok K ξ rel f φ) (re : EnvR K ρ U ξ aenv env) (rm : MemR K ρ U am M) (p : Post K rel' ρ U ((noex (φ aenv am)).bind k) Q X)
    (q : ∀ (ρ' : List Addr) (a : α) (d : δ) (am1 : AM) (M1 : Mem), Le ρ ρ' → rel ρ' U a d → EnvR K ρ' U ξ aenv env → MemR K ρ' U am1 M1 → Post K rel' ρ' U (k a am1) Q X → Qf d M1) : f env M Qf X' := by
  refine h ρ U aenv env am M _ X' re rm ?_
  cases e : φ aenv am with
  | ok a am1 =>
    intro ρ' d M' l ra rm'
    rw [e] at p
    exact q ρ' a d am1 M' l ra (re.mono l) rm' (Post.mono (r := k a am1) p l)
  | ex x am1 =>
    rw [e] at p
    exact p.elim
  | bad =>
    rw [e] at p
    exact p.elim
theorem comp_ok (hg : OkG K ξ g γ) (ht : OkT K ξ ft φt) (he : OkE K ξ fe φe) {n : Addr} {X : XD} {Q : QD} {Kp : Mem → Prop} {U : Mem} (hU : U n = none) {ks : Kps} {ρ0 : List Addr} (hk : ∀ (ρ2 : List Addr) (U2 : Mem) (am2 : AM) (M2 : Mem), Le ρ0 ρ2 → MemR K ρ2 U2 am2 M2 → kpA ks am2 = true → (∀ b u, U b = some u → M2 b = some u) → Kp M2) {aenv : AEnv} {env : EnvD} :
    ∀ (ds : List A) (ds' : List D) (ρ : List Addr) (am : AM) (M : Mem) (acc : List A) (acc' : List D), Le ρ0 ρ → relAs K ρ ds ds' → acc.length + ds.length < 1000000 → relAs K ρ acc acc' → EnvR K ρ U ξ aenv env → MemR K ρ (mput U n (.lst acc')) am M →
      Post K (fun ρ U' ys d => d = D.ref n ∧ True) ρ U (compK ks γ aenv φt φe ds am) (fun _ _ => True) X →
      (∀ ρ' ys am' acc'' M', compK ks γ aenv φt φe ds am = .ok ys am' → Le ρ ρ' → relAs K ρ' (acc ++ ys) acc'' → MemR K ρ' (mput U n (.lst acc'')) am' M' → Q (.ref n) M') → compL Kp n g env ft fe Q ds' M := by
  have mono : ∀ {acc' : List D} b u, U b = some u → mput U n (.lst acc') b = some u := fun b u h => by
    rw [mput_ne (fun z => by rw [z, hU] at h; cases h)]
    exact h
  intro ds
  induction ds with
  | nil =>
    intro ds' ρ am M acc acc' l0 rd hl ra re rm p q
    cases rd
    simp only [compK] at p q
    by_cases hkp : kpA ks am = true
    · simp only [hkp, if_true] at q
      exact ⟨hk ρ _ am M l0 rm hkp fun b u h => rm.un _ _ (mono b u h), q ρ [] am acc' M rfl (Le.refl _) (by rw [List.append_nil]; exact ra) rm⟩
    · rw [if_neg hkp] at p
      exact p.elim
  | cons a ds ih =>
    intro ds' ρ am M acc acc' l0 rd hl ra re rm p q
    obtain ⟨d, t, rfl, r1, r2⟩ := rd
    simp only [compK] at p q
    by_cases hkp : kpA ks am = true
    case neg =>
      rw [if_neg hkp] at p
      exact p.elim
    simp only [hkp, if_true] at p q
    refine ⟨hk ρ _ am M l0 rm hkp fun b u h => rm.un _ _ (mono b u h), ?_⟩
    have re' : EnvR K ρ (mput U n (.lst acc')) ξ aenv env := re.else_ fun i l c h1 h2 => by
      obtain ⟨c', l', e1, e2, _⟩ := own_U re h1
      rw [h2] at e1
      cases e1
      exact mput_ne (fun z => by rw [z, hU] at e2; cases e2)
    refine hg ρ (mput U n (.lst acc')) aenv env M a d _ re' r1 ?_
    cases eg : γ a aenv with
    | none =>
      simp only [eg] at p
      exact p.elim
    | some aenv1 =>
      simp only [eg] at p q
      intro env1 re1 _
      -- the test
      have bad : ∀ {r : R (List A)}, r = .bad → Post K (fun ρ U' ys d => d = D.ref n ∧ True) ρ U r (fun _ _ => True) X → False := fun e h => by rw [e] at h; exact h
      refine ht ρ _ aenv1 env1 am M _ _ re1 rm ?_
      cases et : φt aenv1 am with
      | bad => rw [et] at p; exact p
      | ex _ _ => rw [et] at p; exact p.elim
      | ok b am2 =>
        simp only [et, noex, R.bind] at p q
        intro ρ2 b' M2 l2 rb rm2
        cases rb
        cases b with
        | false =>
          refine ⟨fun z => (by cases z), fun _ => ?_⟩
          simp only [cond_false] at p q
          exact ih t ρ2 am2 M2 acc acc' (l0.trans l2) (relAs.mono l2 _ _ r2) (by rw [List.length_cons] at hl; omega) (relAs.mono l2 _ _ ra) (re.mono l2) rm2 (Post.mono (r := compK ks γ aenv φt φe ds am2) p l2)
            fun ρ' ys am' acc'' M' e l => q ρ' ys am' acc'' M' e (l2.trans l)
        | true =>
          refine ⟨fun _ => ?_, fun z => (by cases z)⟩
          simp only [cond_true] at p q
          refine he ρ2 _ aenv1 env1 am2 M2 _ _ (re1.mono l2) rm2 ?_
          cases ee : φe aenv1 am2 with
          | bad => rw [ee] at p; exact p
          | ex _ _ => rw [ee] at p; exact p.elim
          | ok y am3 =>
            simp only [ee] at p q
            intro ρ3 y' M3 l3 ry rm3
            have l23 := l2.trans l3
            rw [n_lat (rm3.un _ _ mput_same)]
            have rac := relAs.mono l23 _ _ ra
            refine ⟨by rw [rac.length]; rw [List.length_cons] at hl; omega, ?_⟩
            have rm4 := rm3.ownUpd (a := n) (u := .lst (acc' ++ [y'])) mput_same
            rw [mput_mput] at rm4
            refine ih t ρ3 am3 _ (acc ++ [y]) (acc' ++ [y']) (l0.trans l23) (relAs.mono l23 _ _ r2) (by rw [List.length_append, List.length_singleton]; rw [List.length_cons] at hl; omega) (rac.append (.one ry)) (re.mono l23) rm4 ?_ ?_
            · cases ec : compK ks γ aenv φt φe ds am3 with
              | bad => rw [ec] at p; exact p
              | ex x m' =>
                rw [ec] at p
                exact fun ρ' fs M' l h1 h2 => p ρ' fs M' (l23.trans l) h1 h2
              | ok ys m' => exact fun _ _ _ _ _ _ => True.intro
            · intro ρ' ys am' acc'' M' e l h1 h2
              refine q ρ' (y :: ys) am' acc'' M' ?_ (l23.trans l) (by rw [List.append_assoc] at h1; exact h1) h2
              simp only [e]
theorem compK_ex (ks : Kps) (γ : FG) (env : AEnv) (φt : FT) (φe : FE) : ∀ (ds : List A) (m : AM) (x : AX) (m' : AM), compK ks γ env φt φe ds m ≠ .ex x m'
  | [], m, x, m' => by
    simp only [compK]
    split <;> simp
  | d :: ds, m, x, m' => by
    simp only [compK]
    by_cases hkp : kpA ks m = true
    case neg => rw [if_neg hkp]; simp
    rw [if_pos hkp]
    cases γ d env with
    | none => simp
    | some env1 =>
      simp only
      cases φt env1 m with
      | bad => simp [noex, R.bind]
      | ex _ _ => simp [noex, R.bind]
      | ok b m2 =>
        simp only [noex, R.bind]
        cases b with
        | false => exact compK_ex ks γ env φt φe ds m2 x m'
        | true =>
          simp only [cond_true]
          cases φe env1 m2 with
          | bad => simp
          | ex _ _ => simp
          | ok y m3 =>
            simp only
            have ih := compK_ex ks γ env φt φe ds m3
            cases e : compK ks γ env φt φe ds m3 with
            | bad => simp
            | ex x2 m4 => exact absurd e (ih x2 m4)
            | ok _ _ => simp
theorem lc_use (hi : OkI K ξ true fi φi) (hg : OkG K ξ g γ) (ht : OkT K ξ ft φt) (he : OkE K ξ fe φe) {ρ : List Addr} {U : Mem} {aenv : AEnv} {env : EnvD} {am : AM} {M : Mem} {Q : QD} {X : XD} (re : EnvR K ρ U ξ aenv env) (rm : MemR K ρ U am M)
    (pb : pLcV φi γ vs φt φe aenv am ≠ .bad) (pe : ∀ x m, pLcV φi γ vs φt φe aenv am = .ex x m → ∀ ρ' fs M', Le ρ ρ' → relF K ρ' x.fs fs → MemR K ρ' U m M' → X ⟨.ref (He.ga K x.cls), fs⟩ M')
    (q : ∀ ρ' ys am' ys' n M', pLcV φi γ vs φt φe aenv am = .ok ys am' → Le ρ ρ' → relAs K ρ' ys ys' → U n = none → MemR K ρ' (mput U n (.lst ys')) am' M' → M' n = some (.lst ys') → Q (.ref n) M') : dLc fi g vs ft fe env M Q X := by
  refine hi ρ U aenv env am M _ X re rm ?_
  unfold pLcV at pb pe q
  cases ei : φi aenv am with
  | bad => rw [ei] at pb; exact pb rfl
  | ex x m => rw [ei] at pe; exact pe x m rfl
  | ok dk am1 =>
    obtain ⟨ds, ks⟩ := dk
    simp only [ei, R.bind] at pb pe q
    intro ρ1 ds' Kp M1 l1 rd rm1 hk n hn
    have hU := rm1.fresh hn
    split at pb
    · rename_i hlen
      simp only [hlen, if_true] at pe q
      have rm2 := rm1.own (u := .lst []) hn
      refine comp_ok (X := X) (ks := ks) (ρ0 := ρ1) hg ht he hU (fun ρ2 U2 am2 M2 le m2 hkp h => hk ρ2 U2 am2 M2 le m2 hkp fun _ => h) ds ds' ρ1 am1 _ [] [] (Le.refl _) rd (by simpa using hlen) rfl (wipe_rel (re.mono l1) vs) rm2 ?_ ?_
      · cases ec : compK ks γ (wipeA aenv vs) φt φe ds am1 with
        | bad => exact absurd ec pb
        | ex x m => exact absurd ec (compK_ex _ _ _ _ _ _ _ _ _)
        | ok _ _ => exact fun _ _ _ _ _ _ => True.intro
      · intro ρ' ys am' acc'' M' e l h1 h2
        exact q ρ' ys am' acc'' n M' e (l1.trans l) h1 hU h2 (h2.un _ _ mput_same)
    · exact absurd rfl pb
theorem ok_lcF (hi : OkI K ξ true fi φi) (hg : OkG K ξ g γ) (ht : OkT K ξ ft φt) (he : OkE K ξ fe φe) : OkE K ξ (dFrz (dLc fi g vs ft fe)) (pLcF φi γ vs φt φe) := fun ρ U aenv env am M Q X re rm p => by
  unfold pLcF at p
  refine lc_use (vs := vs) hi hg ht he re rm (fun e => by rw [e] at p; exact p) (fun x m e => by rw [e] at p; exact p) fun ρ' ys am' ys' n M' e l r hU rm' hM => ?_
  rw [e] at p
  show lstAt M' n _
  rw [n_lat hM]
  have z := rm'.ownDel (a := n) mput_same
  rw [mdel_mput hU] at z
  exact p ρ' _ _ l ⟨ys', rfl, r⟩ z
theorem track {ρ : List Addr} {U : Mem} {am : AM} {M : Mem} {n : Addr} {o : AO} {u : MO} (hU : U n = none) (m : MemR K ρ (mput U n u) am M) (r : relO K ρ o u) (hd : o ≠ .dead) : MemR K (ρ ++ [n]) U (am ++ [o]) M := by
  have m0 : MemR K ρ U am (mdel M n) := by
    have := m.ownDel (a := n) mput_same
    rw [mdel_mput hU] at this
    exact this
  have h := m0.put (a := n) mdel_same r
  have e : mput (mdel M n) n u = M := by
    funext b
    by_cases z : b = n
    · subst z
      rw [mput_same, m.un _ _ mput_same]
    · rw [mput_ne z, mdel_ne z]
  rw [e] at h
  exact h
theorem ok_lcM (hi : OkI K ξ true fi φi) (hg : OkG K ξ g γ) (ht : OkT K ξ ft φt) (he : OkE K ξ fe φe) : OkE K ξ (dLc fi g vs ft fe) (pLcM φi γ vs φt φe) := fun ρ U aenv env am M Q X re rm p => by
  unfold pLcM at p
  refine lc_use (vs := vs) hi hg ht he re rm (fun e => by rw [e] at p; exact p) (fun x m e => by rw [e] at p; exact p) fun ρ' ys am' ys' n M' e l r hU rm' hM => ?_
  rw [e] at p
  exact p (ρ' ++ [n]) _ _ (l.trans (Le.snoc _ _)) ⟨n, by rw [← rm'.len]; simp, rfl⟩ (track hU rm' ⟨ys', rfl, r⟩ (by simp))
theorem oks_lcO {i : Nat} (hi : OkI K ξ true fi φi) (hg : OkG K ξ g γ) (ht : OkT K ξ ft φt) (he : OkE K ξ fe φe) : OkS K ξ (sAsg (dLc fi g vs ft fe) (gNm i)) (qLcO i φi γ vs φt φe) := fun B ρ U aenv env am M E st p => by
  unfold qLcO at p
  refine lc_use (vs := vs) (X := fun xn M1 => E.ex xn env M1) hi hg ht he st.e st.m (fun e => by rw [e] at p; exact p) (fun x m e => ?_) fun ρ' ys am' ys' n M' e l r hU rm' hM => ?_
  · rw [e] at p
    exact fun ρ' fs M' l rf rm' => p ρ' U fs env M' l rf (st.to l rm')
  · rw [e] at p
    -- the new list stands at n
    have m0 : MemR K ρ' U am' (mdel M' n) := by
      have := rm'.ownDel (a := n) mput_same
      rw [mdel_mput hU] at this
      exact this
    have s0 := (st.to l m0).putOwn i (a := n) (l := ys) (l' := ys') mdel_same r
    have e2 : mput (mdel M' n) n (.lst ys') = M' := by
      funext b
      by_cases z : b = n
      · subst z
        rw [mput_same, hM]
      · rw [mput_ne z, mdel_ne z]
    rw [e2] at s0
    exact p ρ' _ _ _ l s0
theorem ok_yes : OkT K ξ dYes pYes := fun ρ U aenv env am M Q X re rm p => p.now rm rfl
end

/-! ### for -/
def forA (γ : FG) (β : FS) : List A → AEnv → AM → RS
  | [], env, m => .nx env m
  | d :: ds, env, m => match γ d env with
    | some env1 => match β env1 m with
      | .nx e m1 => forA γ β ds e m1
      | .ct e m1 => forA γ β ds e m1
      | .bk e m1 => .nx e m1
      | .rt a m1 => .rt a m1
      | .ex x e m1 => .ex x e m1
      | .bad => .bad
    | none => .bad
/-- the same, while the lists stay -/
def forK (ks : Kps) (γ : FG) (β : FS) : List A → AEnv → AM → RS
  | [], env, m => if kpA ks m = true then .nx env m else .bad
  | d :: ds, env, m => if kpA ks m = true then (match γ d env with
    | some env1 => match β env1 m with
      | .nx e m1 => forK ks γ β ds e m1
      | .ct e m1 => forK ks γ β ds e m1
      | .bk e m1 => .nx e m1
      | .rt a m1 => .rt a m1
      | .ex x e m1 => .ex x e m1
      | .bad => .bad
    | none => .bad) else .bad
theorem forK_nil (γ : FG) (β : FS) : ∀ (ds : List A) (env : AEnv) (m : AM), forK [] γ β ds env m = forA γ β ds env m
  | [], env, m => by simp [forK, forA, kpA]
  | d :: ds, env, m => by
    have ih := forK_nil γ β ds
    simp only [forK, forA, kpA, List.all_nil, if_true, ih]
def qFor (φi : FI) (γ : FG) (β : FS) : FS := fun env m => bindS (φi env m) env fun dk m1 => forK dk.2 γ β dk.1 env m1
section
variable {K : PySem.W.Frag} {ξ : Xi} {fi : DFi} {φi : FI} {g : DG} {γ : FG} {b : SF} {β : FS}
theorem forA_ok (hg : OkG K ξ g γ) (hb : OkS K ξ b β) {B : Mem} {E : EndsD} {Kp : Mem → Prop} {ks : Kps} {ρ0 : List Addr} (hk : ∀ (ρ2 : List Addr) (U2 : Mem) (am2 : AM) (M2 : Mem), Le ρ0 ρ2 → MemR K ρ2 U2 am2 M2 → kpA ks am2 = true → Kp M2) : ∀ (ds : List A) (ds' : List D) (ρ : List Addr) (U : Mem) (aenv : AEnv) (env : EnvD) (am : AM) (M : Mem), Le ρ0 ρ → relAs K ρ ds ds' → StR K B ρ U ξ aenv env am M → PostS K B ρ ξ (forK ks γ β ds aenv am) E → forL Kp g b E ds' env M := by
  intro ds
  induction ds with
  | nil =>
    intro ds' ρ U aenv env am M l0 rd st p
    cases rd
    simp only [forK] at p
    by_cases hkp : kpA ks am = true
    · rw [if_pos hkp] at p
      exact ⟨hk ρ U am M l0 st.m hkp, p ρ U env M (Le.refl _) st⟩
    · rw [if_neg hkp] at p
      exact p.elim
  | cons a ds ih =>
    intro ds' ρ U aenv env am M l0 rd st p
    obtain ⟨d, t, rfl, r1, r2⟩ := rd
    simp only [forK] at p
    by_cases hkp : kpA ks am = true
    case neg =>
      rw [if_neg hkp] at p
      exact p.elim
    rw [if_pos hkp] at p
    refine ⟨hk ρ U am M l0 st.m hkp, hg ρ U aenv env M a d _ st.e r1 ?_⟩
    cases eg : γ a aenv with
    | none => simp only [eg] at p; exact p.elim
    | some aenv1 =>
      simp only [eg] at p
      intro env1 re1 ow
      refine hb B ρ U aenv1 env1 am M _ (st.sub re1 ow) ?_
      cases eb : β aenv1 am with
      | nx e m1 =>
        simp only [eb] at p
        exact fun ρ' U' env' M' l st' => ih t ρ' U' e env' m1 M' (l0.trans l) (relAs.mono l _ _ r2) st' (PostS.mono (r := forK ks γ β ds e m1) p l)
      | ct e m1 =>
        simp only [eb] at p
        exact fun ρ' U' env' M' l st' => ih t ρ' U' e env' m1 M' (l0.trans l) (relAs.mono l _ _ r2) st' (PostS.mono (r := forK ks γ β ds e m1) p l)
      | bk e m1 => simp only [eb] at p; exact p
      | rt a m1 => simp only [eb] at p; exact p
      | ex x e m1 => simp only [eb] at p; exact p
      | bad => simp only [eb] at p; exact p
theorem oks_for (hi : OkI K ξ false fi φi) (hg : OkG K ξ g γ) (hb : OkS K ξ b β) : OkS K ξ (sFor fi g b) (qFor φi γ β) := fun B ρ U aenv env am M E st p => by
  unfold qFor at p
  refine hi ρ U aenv env am M _ _ st.e st.m ?_
  cases ei : φi aenv am with
  | bad => rw [ei] at p; exact p
  | ex x m =>
    rw [ei] at p
    exact fun ρ' fs M' l rf rm' => p ρ' U fs env M' l rf (st.to l rm')
  | ok dk am1 =>
    obtain ⟨ds, ks⟩ := dk
    rw [ei] at p
    exact fun ρ' ds' Kp M' l rd rm' hk => forA_ok (ks := ks) (ρ0 := ρ') hg hb (fun ρ2 U2 am2 M2 le m2 hkp => hk ρ2 U2 am2 M2 le m2 hkp fun z => (by cases z)) ds ds' ρ' U aenv env am1 M' (Le.refl _) rd (st.to l rm') (PostS.mono (r := forK ks γ β ds aenv am1) p l)
end

/-! ### try -/
inductive ClA where
  | out
  | bad
  | one (c : Str) (i : Option Nat) (φ : FS) (r : ClA)
def noExn (env : AEnv) : Bool := env.all fun v => match v with
  | .exn _ _ => false
  | _ => true
def inA (i : Option Nat) (x : AX) (env : AEnv) : AEnv := match i with
  | none => env
  | some i => env.set i (match x.fs with
    | [] => .no
    | _ :: _ => .exn x.cls x.fs)
def unA (i : Option Nat) (env : AEnv) : AEnv := match i with
  | none => env
  | some i => env.set i .no
def hdl (xm : Str → Str → Option Bool) : ClA → AX → AEnv → AM → RS
  | .out, x, env, m => .ex x env m
  | .bad, _, _, _ => .bad
  | .one c i φ r, x, env, m => match xm x.cls c with
    | some true => if noExn env = true then (match φ (inA i x env) m with
      | .nx e m1 => if noExn (unA i e) = true then .nx (unA i e) m1 else .bad
      | .bk e m1 => if noExn (unA i e) = true then .bk (unA i e) m1 else .bad
      | .ct e m1 => if noExn (unA i e) = true then .ct (unA i e) m1 else .bad
      | .rt a m1 => .rt a m1
      | _ => .bad) else .bad
    | some false => hdl xm r x env m
    | none => .bad
def qTry (xm : Str → Str → Option Bool) (φ : FS) (cl : ClA) : FS := fun env m => match φ env m with
  | .ex x e m1 => hdl xm cl x e m1
  | .nx e m1 => .nx e m1
  | .rt a m1 => .rt a m1
  | .bk e m1 => .bk e m1
  | .ct e m1 => .ct e m1
  | .bad => .bad
inductive OkCl (K : PySem.W.Frag) : ClD → ClA → Prop
  | out : OkCl K .out .out
  | bad : OkCl K .bad .bad
  | one {c : Str} {i : Option Nat} {f : Addr → Value → Option Addr → SF} {φ : FS} {r : ClD} {s : ClA} (h : ∀ a cls d, OkS K (some (a, cls, d)) (f a cls d) φ) (hr : OkCl K r s) : OkCl K (.one (.ref (He.ga K c)) i f r) (.one c i φ s)
section
variable {K : PySem.W.Frag} {ξ : Xi}
theorem EnvR.other {ρ : List Addr} {U : Mem} {aenv : AEnv} {env : EnvD} (r : EnvR K ρ U ξ aenv env) (h : noExn aenv = true) (ξ' : Xi) : EnvR K ρ U ξ' aenv env := by
  refine ⟨r.len, fun i v e => ?_⟩
  obtain ⟨s, h1, h2⟩ := r.get i v e
  refine ⟨s, h1, ?_⟩
  cases v with
  | exn c fs =>
    have := List.all_eq_true.mp h _ (List.mem_of_getElem? e)
    cases this
  | no => exact h2
  | val _ => exact h2
  | own _ => exact h2
theorem StR.other {B : Mem} {ρ : List Addr} {U : Mem} {aenv : AEnv} {env : EnvD} {am : AM} {M : Mem} (s : StR K B ρ U ξ aenv env am M) (h : noExn aenv = true) (ξ' : Xi) : StR K B ρ U ξ' aenv env am M := ⟨s.e.other h ξ', s.m, s.b, s.own⟩
theorem StR.unA_ {B : Mem} {ρ : List Addr} {U : Mem} {aenv : AEnv} {env : EnvD} {am : AM} {M : Mem} (s : StR K B ρ U ξ aenv env am M) (i : Option Nat) : StR K B ρ U ξ (unA i aenv) (unD i env) am M := by
  cases i with
  | none => exact s
  | some i => exact s.unset i none
theorem hdl_ok {xm : Str → Str → Option Bool} (hx : ∀ c d b, xm c d = some b → PySem.W.exmOne K (.ref (He.ga K c)) (.ref (He.ga K d)) = some b) {B : Mem} {E : EndsD} : ∀ {cl : ClD} {ca : ClA}, OkCl K cl ca → ∀ (ρ : List Addr) (U : Mem) (x : AX) (fs : List (Str × D)) (aenv : AEnv) (env : EnvD) (am : AM) (M : Mem),
    relF K ρ x.fs fs → StR K B ρ U ξ aenv env am M → PostS K B ρ ξ (hdl xm ca x aenv am) E → xCl K E cl ⟨.ref (He.ga K x.cls), fs⟩ env M := by
  intro cl ca h
  induction h with
  | out =>
    intro ρ U x fs aenv env am M rf st p
    exact p ρ U fs env M (Le.refl _) rf st
  | bad =>
    intro ρ U x fs aenv env am M rf st p
    exact p
  | @one c i f φ r s h hr ih =>
    intro ρ U x fs aenv env am M rf st p
    simp only [hdl] at p
    cases e : xm x.cls c with
    | none => simp only [e] at p; exact p.elim
    | some b =>
      refine ⟨b, hx _ _ _ e, fun hb a d hd => ?_, fun hb => ?_⟩
      · subst hb
        simp only [e] at p
        split at p
        · rename_i hn
          have s1 := st.other hn (some (a, .ref (He.ga K x.cls), d))
          have s2 : StR K B ρ U (some (a, .ref (He.ga K x.cls), d)) (inA i x aenv) (inD i a d fs env) am M := by
            cases i with
            | none => exact s1
            | some i =>
              cases d with
              | none =>
                have ef : fs = [] := hd rfl
                have ex : x.fs = [] := by
                  cases q : x.fs with
                  | nil => rfl
                  | cons z zs =>
                    rw [q, ef] at rf
                    obtain ⟨_, _, w, _⟩ := rf
                    cases w
                show StR K B ρ U _ (aenv.set i _) (env.set i _) am M
                rw [ex]
                exact s1.unset i _
              | some dd =>
                show StR K B ρ U _ (aenv.set i _) (env.set i _) am M
                cases q : x.fs with
                | nil => exact s1.unset i _
                | cons z zs =>
                  exact s1.sub (s1.e.set i ⟨a, dd, fs, rfl, rfl, by rw [← q]; exact rf⟩) (own_set fun l => by simp)
          refine h a (.ref (He.ga K x.cls)) d B ρ U _ _ am M _ s2 ?_
          cases er : φ (inA i x aenv) am with
          | nx e1 m1 =>
            simp only [er] at p
            split at p
            · rename_i hn2
              exact fun ρ' U' env' M' l st' => p ρ' U' _ M' l ((st'.unA_ i).other hn2 ξ)
            · exact p.elim
          | bk e1 m1 =>
            simp only [er] at p
            split at p
            · rename_i hn2
              exact fun ρ' U' env' M' l st' => p ρ' U' _ M' l ((st'.unA_ i).other hn2 ξ)
            · exact p.elim
          | ct e1 m1 =>
            simp only [er] at p
            split at p
            · rename_i hn2
              exact fun ρ' U' env' M' l st' => p ρ' U' _ M' l ((st'.unA_ i).other hn2 ξ)
            · exact p.elim
          | rt a1 m1 => simp only [er] at p; exact p
          | ex _ _ _ => simp only [er] at p; exact p.elim
          | bad => simp only [er] at p; exact p
        · exact p.elim
      · subst hb
        simp only [e] at p
        exact ih ρ U x fs aenv env am M rf st p
theorem oks_try {xm : Str → Str → Option Bool} (hx : ∀ c d b, xm c d = some b → PySem.W.exmOne K (.ref (He.ga K c)) (.ref (He.ga K d)) = some b) {f : SF} {φ : FS} {cl : ClD} {ca : ClA} (hf : OkS K ξ f φ) (hc : OkCl K cl ca) : OkS K ξ (sTry K f cl) (qTry xm φ ca) := fun B ρ U aenv env am M E st p => by
  refine hf B ρ U aenv env am M _ st ?_
  unfold qTry at p
  cases e : φ aenv am with
  | ex x e1 m1 =>
    rw [e] at p
    exact fun ρ' U' fs env' M' l rf st' => hdl_ok hx hc ρ' U' x fs e1 env' m1 M' rf st' (PostS.mono (r := hdl xm ca x e1 m1) p l)
  | nx _ _ => rw [e] at p; exact p
  | rt _ _ => rw [e] at p; exact p
  | bk _ _ => rw [e] at p; exact p
  | ct _ _ => rw [e] at p; exact p
  | bad => rw [e] at p; exact p

/-! ### a def by its body -/
def startA (n : Nat) (as : List A) : AEnv := as.map .val ++ List.replicate (n - as.length) .no
def bodyA (n : Nat) (φ : FS) : FF := fun as m => match φ (startA n as) m with
  | .nx _ m1 => .ok .non m1
  | .rt a m1 => .ok a m1
  | .ex x _ m1 => .ex x m1
  | _ => .bad
theorem start_get : ∀ {as : List A} {ds : List D} (n : Nat) {ρ : List Addr} {U : Mem}, relAs K ρ as ds → ∀ (i : Nat) (v : SV), (as.map SV.val ++ List.replicate n .no)[i]? = some v → ∃ s, (ds.map some ++ List.replicate n (none : Option D))[i]? = some s ∧ relS K ρ U none v s
  | [], ds, n, ρ, U, h, i, v, e => by
    cases h
    simp only [List.map_nil, List.nil_append] at e ⊢
    rw [List.getElem?_replicate] at e ⊢
    split at e
    · rename_i hi
      cases e
      exact ⟨none, by rw [if_pos hi], True.intro⟩
    · cases e
  | a :: as, ds, n, ρ, U, h, i, v, e => by
    obtain ⟨d, t, rfl, h2, h3⟩ := h
    cases i with
    | zero =>
      simp at e
      subst e
      exact ⟨some d, by simp, d, rfl, h2⟩
    | succ i =>
      obtain ⟨s, e1, e2⟩ := start_get n h3 i v (by simpa using e)
      exact ⟨s, by simpa using e1, e2⟩
theorem okf_body {N : List Str} {f : SF} {φ : FS} (h : OkS K none f φ) : OkF K (bodyF N f) (bodyA N.length φ) := fun ρ U am M as ds P Z ra rm p => by
  unfold bodyA at p
  have hs : StR K U ρ U none (startA N.length as) (startD N ds) am M := by
    refine ⟨⟨?_, fun i v e => ?_⟩, rm, fun _ _ h => h, fun i l a h1 _ => ?_⟩
    · unfold startA startD
      simp [ra.length]
    · unfold startA at e
      unfold startD
      rw [← ra.length] at e
      exact start_get _ ra i v e
    · exfalso
      unfold startA at h1
      have := List.mem_of_getElem? h1
      simp at this
  refine h U ρ U _ _ am M _ hs ?_
  cases e : φ (startA N.length as) am with
  | nx e1 m1 =>
    simp only [e] at p
    exact fun ρ' U' env' M' l st' => p ρ' _ M' l rfl (st'.m.less st'.b)
  | rt a m1 => simp only [e] at p; exact p
  | ex x e1 m1 =>
    simp only [e] at p
    exact fun ρ' U' fs env' M' l rf st' => p ρ' fs M' l rf (st'.m.less st'.b)
  | bk _ _ => simp only [e] at p; exact p.elim
  | ct _ _ => simp only [e] at p; exact p.elim
  | bad => simp only [e] at p; exact p
end
end FL
set_option maxHeartbeats 4000001
namespace FL
open PySem PySem.Spec
open PyProof.Rows L2 DL

/-! ### a new list -/
def PostV (K : PySem.W.Frag) (ρ : List Addr) (U : Mem) (r : R (List A)) (Q : QD) (X : XD) : Prop := match r with
  | .ok a am => ∀ ρ' d n M', Le ρ ρ' → relAs K ρ' a d → U n = none → MemR K ρ' (mput U n (.lst d)) am M' → Q (.ref n) M'
  | .ex x am => ∀ ρ' fs M', Le ρ ρ' → relF K ρ' x.fs fs → MemR K ρ' U am M' → X ⟨.ref (He.ga K x.cls), fs⟩ M'
  | .bad => False
def OkV (K : PySem.W.Frag) (ξ : Xi) (f : DF) (ψ : FEs) : Prop := ∀ (ρ : List Addr) (U : Mem) (aenv : AEnv) (env : EnvD) (am : AM) (M : Mem) (Q : QD) (X : XD), EnvR K ρ U ξ aenv env → MemR K ρ U am M → PostV K ρ U (ψ aenv am) Q X → f env M Q X
theorem PostV.mono {K : PySem.W.Frag} {ρ ρ' : List Addr} {U : Mem} {r : R (List A)} {Q : QD} {X : XD} (h : PostV K ρ U r Q X) (l : Le ρ ρ') : PostV K ρ' U r Q X := by
  cases r with
  | ok a am => exact fun ρ2 d n M' l2 => h ρ2 d n M' (l.trans l2)
  | ex x am => exact fun ρ2 fs M' l2 => h ρ2 fs M' (l.trans l2)
  | bad => exact h
def pLstV (ψ : FEs) : FE := fun env m => (ψ env m).bind fun l m1 => .ok (.lst l) m1
def pNew (ψ : FEs) : FE := fun env m => (ψ env m).bind fun l m1 => .ok (.loc m1.length) (m1 ++ [.lst l])
def qOwnV (i : Nat) (ψ : FEs) : FS := fun env m => bindS (ψ env m) env fun l m1 => .nx (env.set i (.own l)) m1
def vLst (ψ : FEs) : FEs := fun env m => (ψ env m).bind fun l m1 => if l.length ≤ 1000 then .ok l m1 else .bad
def vCat (φ ψ : FE) : FEs := fun env m => (φ env m).bind fun a m1 => (ψ env m1).bind fun b m2 => match seqA m2 a, seqA m2 b with
  | some (true, l), some (true, u) => if l.length + u.length ≤ 1000000 then .ok (l ++ u) m2 else .bad
  | _, _ => .bad
def vSl (φ : FE) (lo hi : FO) : FEs := fun env m => (φ env m).bind fun a m1 => (lo env m1).bind fun l m2 => (hi env m2).bind fun u m3 => match seqA m3 a with
  | some (true, xs) => .ok (cutA xs l u) m3
  | _ => .bad
def vList (φ : FE) : FEs := fun env m => (φ env m).bind fun a m1 => match seqA m1 a with
  | some (_, xs) => .ok xs m1
  | none => .bad
def vRep (ψ : FEs) (φ : FE) : FEs := fun env m => (ψ env m).bind fun l m1 => (φ env m1).bind fun b m2 => iOf b fun n => if 0 ≤ n ∧ n ≤ 1000 ∧ l.length ≤ 1000 then .ok (List.replicate n.toNat l).flatten m2 else .bad
section
variable {K : PySem.W.Frag} {ξ : Xi} {f g : DF} {ψ : FEs} {φ χ : FE}
theorem MemR.drop {ρ : List Addr} {U : Mem} {am : AM} {M : Mem} {n : Addr} {u : MO} (hU : U n = none) (m : MemR K ρ (mput U n u) am M) : MemR K ρ U am M := m.less fun a v h => by
  rw [mput_ne (fun z => by rw [z, hU] at h; cases h)]
  exact h
theorem okv_frz (h : OkV K ξ f ψ) : OkE K ξ (dFrz f) (pLstV ψ) := fun ρ U aenv env am M Q X re rm p => by
  refine h ρ U aenv env am M _ X re rm ?_
  unfold pLstV at p
  cases e : ψ aenv am with
  | bad => rw [e] at p; exact p
  | ex _ _ => rw [e] at p; exact p
  | ok l m1 =>
    rw [e] at p
    intro ρ' d n M' l' r hU rm'
    show lstAt M' n _
    rw [n_lat (rm'.un _ _ mput_same)]
    have z := rm'.ownDel (a := n) mput_same
    rw [mdel_mput hU] at z
    exact p ρ' _ _ l' ⟨d, rfl, r⟩ z
theorem okv_new (h : OkV K ξ f ψ) : OkE K ξ f (pNew ψ) := fun ρ U aenv env am M Q X re rm p => by
  refine h ρ U aenv env am M _ X re rm ?_
  unfold pNew at p
  cases e : ψ aenv am with
  | bad => rw [e] at p; exact p
  | ex _ _ => rw [e] at p; exact p
  | ok l m1 =>
    rw [e] at p
    intro ρ' d n M' l' r hU rm'
    exact p (ρ' ++ [n]) _ _ (l'.trans (Le.snoc _ _)) ⟨n, by rw [← rm'.len]; simp, rfl⟩ (track hU rm' ⟨d, rfl, r⟩ (by simp))
theorem oks_ownV {i : Nat} (h : OkV K ξ f ψ) : OkS K ξ (sAsg f (gNm i)) (qOwnV i ψ) := fun B ρ U aenv env am M E st p => by
  unfold qOwnV at p
  refine h ρ U aenv env am M _ (fun xn M1 => E.ex xn env M1) st.e st.m ?_
  cases e : ψ aenv am with
  | bad => rw [e] at p; exact p
  | ex x m =>
    rw [e] at p
    exact fun ρ' fs M' l rf rm' => p ρ' U fs env M' l rf (st.to l rm')
  | ok l m1 =>
    rw [e] at p
    intro ρ' d n M' l' r hU rm'
    have m0 : MemR K ρ' U m1 (mdel M' n) := by
      have := rm'.ownDel (a := n) mput_same
      rw [mdel_mput hU] at this
      exact this
    have s0 := (st.to l' m0).putOwn i (a := n) (l := l) (l' := d) mdel_same r
    have e2 : mput (mdel M' n) n (.lst d) = M' := by
      funext b
      by_cases z : b = n
      · subst z
        rw [mput_same, rm'.un _ _ mput_same]
      · rw [mput_ne z, mdel_ne z]
    rw [e2] at s0
    exact p ρ' _ _ _ l' s0
theorem okv_lst {fs : DFs} (h : OkA K ξ fs ψ) : OkV K ξ (dLst fs) (vLst ψ) := fun ρ U aenv env am M Q X re rm p => by
  unfold vLst at p
  refine h ρ U aenv env am M _ X re rm ?_
  cases e : ψ aenv am with
  | bad => rw [e] at p; exact p
  | ex _ _ => rw [e] at p; exact p
  | ok l m1 =>
    simp only [e, R.bind] at p
    intro ρ' d M' l' r rm'
    split at p
    · rename_i hl
      exact ⟨by rw [relAs.length r]; exact hl, fun n hn => p ρ' d n _ l' r (rm'.fresh hn) (rm'.own hn)⟩
    · exact p.elim
theorem okv_lc {fi : DFi} {φi : FI} {dg : DG} {γ : FG} {vs : List Nat} {ft : DFt} {φt : FT} {fe : DF} {φe : FE} (hi : OkI K ξ true fi φi) (hg : OkG K ξ dg γ) (ht : OkT K ξ ft φt) (he : OkE K ξ fe φe) : OkV K ξ (dLc fi dg vs ft fe) (pLcV φi γ vs φt φe) := fun ρ U aenv env am M Q X re rm p => by
  refine lc_use (vs := vs) hi hg ht he re rm (fun e => by rw [e] at p; exact p) (fun x m e => by rw [e] at p; exact p) fun ρ' ys am' ys' n M' e l r hU rm' hM => ?_
  rw [e] at p
  exact p ρ' ys' n M' l r hU rm'
theorem okv_cat (h1 : OkB K ξ f φ) (h2 : OkB K ξ g χ) : OkV K ξ (dOp (gCatL false) f g) (vCat φ χ) := fun ρ U aenv env am M Q X re rm p => by
  unfold vCat at p
  refine h1 ρ U aenv env am M _ X re rm ?_
  cases e : φ aenv am with
  | bad => rw [e] at p; exact p
  | ex _ _ => rw [e] at p; exact p
  | ok a m1 =>
    simp only [e, R.bind] at p
    intro ρ1 x M1 l1 ra rm1
    refine h2 ρ1 U aenv env m1 M1 _ X (re.mono l1) rm1 ?_
    cases e2 : χ aenv m1 with
    | bad => rw [e2] at p; exact p
    | ex _ _ =>
      rw [e2] at p
      exact fun ρ' fs M' l => p ρ' fs M' (l1.trans l)
    | ok b m2 =>
      simp only [e2] at p
      intro ρ2 y M2 l2 rb rm2
      split at p
      · rename_i l u q1 q2
        obtain ⟨l', k1, r1⟩ := seq_ofB rm2 (ra.mono l2) q1
        obtain ⟨u', k2, r2⟩ := seq_ofB rm2 rb q2
        split at p
        · rename_i hl
          exact ⟨l', u', k1, k2, by rw [r1.length, r2.length]; exact hl, fun z => (by cases z), fun _ n hn => p ρ2 _ n _ (l1.trans l2) (r1.append r2) (rm2.fresh hn) (rm2.own hn)⟩
        · exact p.elim
      · exact p.elim
theorem okv_list (h : OkB K ξ f φ) : OkV K ξ (dCB gListM (dOne f)) (vList φ) := fun ρ U aenv env am M Q X re rm p => by
  unfold vList at p
  refine h ρ U aenv env am M _ X re rm ?_
  cases e : φ aenv am with
  | bad => rw [e] at p; exact p
  | ex _ _ => rw [e] at p; exact p
  | ok a m1 =>
    simp only [e, R.bind] at p
    intro ρ1 x M1 l1 ra rm1
    split at p
    · rename_i w l q
      obtain ⟨l', k1, r1⟩ := seq_ofB rm1 ra q
      exact ⟨x, w, l', rfl, k1, fun n hn => p ρ1 l' n _ l1 r1 (rm1.fresh hn) (rm1.own hn)⟩
    · exact p.elim
theorem okv_sl {lo hi : DFo} {τlo τhi : FO} (h1 : OkB K ξ f φ) (h2 : OkO K ξ lo τlo) (h3 : OkO K ξ hi τhi) : OkV K ξ (dSlM f lo hi) (vSl φ τlo τhi) := fun ρ U aenv env am M Q X re rm p => by
  unfold vSl at p
  refine h1 ρ U aenv env am M _ X re rm ?_
  cases e : φ aenv am with
  | bad => rw [e] at p; exact p
  | ex _ _ => rw [e] at p; exact p
  | ok a m1 =>
    simp only [e, R.bind] at p
    intro ρ1 x M1 l1 ra rm1
    refine h2 ρ1 U aenv env m1 M1 _ X (re.mono l1) rm1 ?_
    cases e2 : τlo aenv m1 with
    | bad => rw [e2] at p; exact p
    | ex _ _ =>
      rw [e2] at p
      exact fun ρ' fs M' l => p ρ' fs M' (l1.trans l)
    | ok b m2 =>
      simp only [e2] at p
      intro ρ2 y M2 l2 rb rm2
      cases rb
      refine h3 ρ2 U aenv env m2 M2 _ X (re.mono (l1.trans l2)) rm2 ?_
      cases e3 : τhi aenv m2 with
      | bad => rw [e3] at p; exact p
      | ex _ _ =>
        rw [e3] at p
        exact fun ρ' fs M' l => p ρ' fs M' ((l1.trans l2).trans l)
      | ok c m3 =>
        simp only [e3] at p
        intro ρ3 z M3 l3 rc rm3
        cases rc
        split at p
        · rename_i l q
          obtain ⟨l', k1, r1⟩ := seq_ofB rm3 (ra.mono (l2.trans l3)) q
          exact ⟨l', k1, fun n hn => p ρ3 _ n _ ((l1.trans l2).trans l3) (cut_of r1 _ _) (rm3.fresh hn) (rm3.own hn)⟩
        · exact p.elim
theorem rep_rel {ρ : List Addr} {l : List A} {l' : List D} (h : relAs K ρ l l') : ∀ n : Nat, relAs K ρ (List.replicate n l).flatten (List.replicate n l').flatten
  | 0 => rfl
  | n + 1 => by
    rw [(List.replicate_succ), List.replicate_succ, List.flatten_cons, List.flatten_cons]
    exact h.append (rep_rel h n)
theorem rep_use (h1 : OkV K ξ f ψ) (h2 : OkB K ξ g φ) {ρ : List Addr} {U : Mem} {aenv : AEnv} {env : EnvD} {am : AM} {M : Mem} {X : XD} {G : D → D → Mem → Prop} (re : EnvR K ρ U ξ aenv env) (rm : MemR K ρ U am M)
    (pb : vRep ψ φ aenv am ≠ .bad) (pe : ∀ x m, vRep ψ φ aenv am = .ex x m → ∀ ρ' fs M', Le ρ ρ' → relF K ρ' x.fs fs → MemR K ρ' U m M' → X ⟨.ref (He.ga K x.cls), fs⟩ M')
    (q : ∀ ρ' (n : Int) l l' c am' M', vRep ψ φ aenv am = .ok (List.replicate n.toNat l).flatten am' → Le ρ ρ' → relAs K ρ' l l' → 0 ≤ n → n ≤ 1000 → l.length ≤ 1000 → U c = none → MemR K ρ' (mput U c (.lst l')) am' M' → G (.ref c) (.int n) M') :
    f env M (fun x M1 => g env M1 (fun y M2 => G x y M2) X) X := by
  refine h1 ρ U aenv env am M _ X re rm ?_
  unfold vRep at pb pe q
  cases e : ψ aenv am with
  | bad => rw [e] at pb; exact absurd rfl pb
  | ex x m => rw [e] at pe; exact pe x m rfl
  | ok l m1 =>
    simp only [e, R.bind] at pb pe q
    intro ρ1 l' c M1 l1 ra hU rm1
    have re1 : EnvR K ρ1 (mput U c (.lst l')) ξ aenv env := (re.mono l1).else_ fun i k a h1 h2 => by
      obtain ⟨c', l2, e1, e2, _⟩ := own_U re h1
      rw [h2] at e1
      cases e1
      exact mput_ne (fun z => by rw [z, hU] at e2; cases e2)
    refine h2 ρ1 _ aenv env m1 M1 _ X re1 rm1 ?_
    cases e2 : φ aenv m1 with
    | bad => rw [e2] at pb; exact absurd rfl pb
    | ex x m =>
      rw [e2] at pe
      exact fun ρ' fs M' l2 rf rm2 => pe x m rfl ρ' fs M' (l1.trans l2) rf (rm2.drop hU)
    | ok b m2 =>
      simp only [e2] at pb q
      intro ρ2 y M2 l2 rb rm2
      cases b with
      | int n =>
        cases int_of rb
        simp only [iOf] at pb q
        split at pb
        · rename_i hn
          simp only [hn, and_self, if_true] at q
          exact q ρ2 n l l' c m2 M2 rfl (l1.trans l2) (relAs.mono l2 _ _ ra) hn.1 hn.2.1 hn.2.2 hU rm2
        · exact absurd rfl pb
      | _ => exact absurd rfl pb
theorem ok_rep (h1 : OkV K ξ f ψ) (h2 : OkB K ξ g φ) : OkE K ξ (dOp gRepF f g) (pLstV (vRep ψ φ)) := fun ρ U aenv env am M Q X re rm p => by
  unfold pLstV at p
  refine rep_use (G := fun x y M2 => gRepF x y M2 Q) h1 h2 re rm (fun e => by rw [e] at p; exact p) (fun x m e => by rw [e] at p; exact p) fun ρ' n l l' c am' M' e le ra n0 n1 hl hU rm' => ?_
  rw [e] at p
  show lstAt M' c _
  rw [n_lat (rm'.un _ _ mput_same)]
  exact ⟨⟨n0, n1, by rw [ra.length]; exact hl⟩, p ρ' _ _ le ⟨_, rfl, rep_rel ra _⟩ (rm'.drop hU)⟩
theorem okv_rep (h1 : OkV K ξ f ψ) (h2 : OkB K ξ g φ) : OkV K ξ (dOp gRepM f g) (vRep ψ φ) := fun ρ U aenv env am M Q X re rm p => by
  refine rep_use (G := fun x y M2 => gRepM x y M2 Q) h1 h2 re rm (fun e => by rw [e] at p; exact p) (fun x m e => by rw [e] at p; exact p) fun ρ' n l l' c am' M' e le ra n0 n1 hl hU rm' => ?_
  rw [e] at p
  show lstAt M' c _
  rw [n_lat (rm'.un _ _ mput_same)]
  have rm2 := rm'.drop hU
  exact ⟨⟨n0, n1, by rw [ra.length]; exact hl⟩, fun k hk => p ρ' _ k _ le (rep_rel ra _) (rm2.fresh hk) (rm2.own hk)⟩

theorem okk_int {i : Int} : OkE K ξ (dC (.int i)) (pC (.int i)) := ok_c fun _ => rfl
theorem okk_str {i : Str} : OkE K ξ (dC (.str i)) (pC (.str i)) := ok_c fun _ => rfl
theorem okk_bl {i : Bool} : OkE K ξ (dC (.bl i)) (pC (.bl i)) := ok_c fun _ => rfl
theorem okk_non : OkE K ξ (dC .non) (pC .non) := ok_c fun _ => rfl
theorem okk_ty {i : String} : OkE K ξ (dC (.v (.ty i))) (pC (.ty i)) := ok_c fun _ => rfl
theorem oki_loose {fi : DFi} {φi : FI} (h : OkI K ξ false fi φi) : OkI K ξ true fi φi := fun ρ U aenv env am M Q X re rm p => by
  refine h ρ U aenv env am M Q X re rm ?_
  cases e : φi aenv am with
  | bad => rw [e] at p; exact p
  | ex _ _ => rw [e] at p; exact p
  | ok l m1 =>
    rw [e] at p
    exact fun ρ' d Kp M' l r rm' hk => p ρ' d Kp M' l r rm' fun ρ2 U2 am2 M2 le m2 hkp _ => hk ρ2 U2 am2 M2 le m2 hkp fun z => (by cases z)

/-! ### the classes of what is caught -/
def xmOf (t : List (Str × Str × Bool)) (c d : Str) : Option Bool := match t.find? fun e => e.1 == c && e.2.1 == d with
  | some e => some e.2.2
  | none => none
theorem xm_ok {t : List (Str × Str × Bool)} (h : (t.all fun e => (He.Fa.exm e.1 e.2.1 e.2.2).ok K) = true) : ∀ c d b, xmOf t c d = some b → PySem.W.exmOne K (.ref (He.ga K c)) (.ref (He.ga K d)) = some b := fun c d b e => by
  unfold xmOf at e
  split at e
  · rename_i x ex
    cases e
    have h1 := List.find?_some ex
    have h2 := List.mem_of_find?_eq_some ex
    simp only [Bool.and_eq_true, beq_iff_eq] at h1
    obtain ⟨rfl, rfl⟩ := h1
    exact He.exm_ok (List.all_eq_true.mp h x h2)
  · cases e
end
end FL
set_option maxHeartbeats 4000001
namespace FL
open PySem PySem.Spec
open PyProof.Rows L2 DL

/-! ### the functions as equations -/
def seqS (r : RS) (ψ : FS) : RS := match r with
  | .nx e m1 => ψ e m1
  | .rt a m1 => .rt a m1
  | .bk e m1 => .bk e m1
  | .ct e m1 => .ct e m1
  | .ex x e m1 => .ex x e m1
  | .bad => .bad
def finS (r : RS) : R A := match r with
  | .nx _ m1 => .ok .non m1
  | .rt a m1 => .ok a m1
  | .ex x _ m1 => .ex x m1
  | _ => .bad
section
variable {α β : Type} {a b : A} {m m1 : AM} {k : α → AM → R β} {x : AX} {env e : AEnv} {i j : Nat} {v s : SV} {φ ψ χ : FE} {τ σ : FT} {φs ψs : FEs} {γ : P2} {γ1 : P1} {u w : Int} {l : List A} {t z : Str} {c d : Bool} {ks : α → AM → RS} {f g : FS} {n : Nat} {φi : FI} {ls : List A}
theorem e_ok {r : α} : (R.ok r m).bind k = k r m := (Eq.refl _).trans rfl
theorem e_ex : (R.ex x m : R α).bind k = .ex x m := (Eq.refl _).trans rfl
theorem e_bad : (R.bad : R α).bind k = .bad := (Eq.refl _).trans rfl
theorem e_sok {r : α} : bindS (R.ok r m) env ks = ks r m := (Eq.refl _).trans rfl
theorem e_sex : bindS (R.ex x m : R α) env ks = .ex x env m := (Eq.refl _).trans rfl
theorem e_sbad : bindS (R.bad : R α) env ks = .bad := (Eq.refl _).trans rfl
theorem e_var0 : pVar 0 (.val a :: e) m = .ok a m := (Eq.refl _).trans rfl
theorem e_varS : pVar (i + 1) (v :: e) m = pVar i e m := by
  unfold pVar
  rw [List.getElem?_cons_succ]
theorem e_varB0 : pVarB 0 (.val a :: e) m = .ok a m := (Eq.refl _).trans rfl
theorem e_varB1 : pVarB 0 (.own l :: e) m = .ok (.lst l) m := (Eq.refl _).trans rfl
theorem e_varBS : pVarB (i + 1) (v :: e) m = pVarB i e m := by
  unfold pVarB
  rw [List.getElem?_cons_succ]
theorem e_c : pC a env m = .ok a m := (Eq.refl _).trans rfl
theorem e_nil : pNil env m = .ok [] m := (Eq.refl _).trans rfl
theorem e_cons : pCons φ φs env m = (φ env m).bind fun x m1 => (φs env m1).bind fun xs m2 => .ok (x :: xs) m2 := (Eq.refl _).trans rfl
theorem e_op : pOp γ φ ψ env m = (φ env m).bind fun x m1 => (ψ env m1).bind fun y m2 => ofO (γ x y m2) := (Eq.refl _).trans rfl
theorem e_some : ofO (some (a, m)) = .ok a m := (Eq.refl _).trans rfl
theorem e_none : ofO none = .bad := (Eq.refl _).trans rfl
theorem e_cb : pCB γ1 φs env m = (φs env m).bind fun xs m1 => ofO (γ1 xs m1) := (Eq.refl _).trans rfl
theorem e_tup : pTup φs env m = (φs env m).bind fun xs m1 => if xs.length ≤ 1000 then .ok (.tup xs) m1 else .bad := (Eq.refl _).trans rfl
theorem e_lstF : pLstF φs env m = (φs env m).bind fun xs m1 => if xs.length ≤ 1000 then .ok (.lst xs) m1 else .bad := (Eq.refl _).trans rfl
theorem e_val : pVal φ env m = (φ env m).bind fun a m1 => bOf a fun b => .ok b m1 := (Eq.refl _).trans rfl
theorem e_bOf {kb : Bool → R β} : bOf (.bl c) kb = kb c := (Eq.refl _).trans rfl
theorem e_iOf {kb : Int → R β} : iOf (.int u) kb = kb u := (Eq.refl _).trans rfl
theorem e_andT : pAndT τ σ env m = (τ env m).bind fun b m1 => bif b then σ env m1 else .ok false m1 := (Eq.refl _).trans rfl
theorem e_orT : pOrT τ σ env m = (τ env m).bind fun b m1 => bif b then .ok true m1 else σ env m1 := (Eq.refl _).trans rfl
theorem e_notT : pNotT τ env m = (τ env m).bind fun b m1 => .ok (!b) m1 := (Eq.refl _).trans rfl
theorem e_and : pAnd φ ψ env m = (φ env m).bind fun a m1 => bOf a fun b => bif b then ψ env m1 else .ok (.bl false) m1 := (Eq.refl _).trans rfl
theorem e_or : pOr φ ψ env m = (φ env m).bind fun a m1 => bOf a fun b => bif b then .ok (.bl true) m1 else ψ env m1 := (Eq.refl _).trans rfl
theorem e_not : pNot φ env m = (φ env m).bind fun a m1 => bOf a fun b => .ok (.bl (!b)) m1 := (Eq.refl _).trans rfl
theorem e_if : pIf τ φ ψ env m = (τ env m).bind fun b m1 => bif b then φ env m1 else ψ env m1 := (Eq.refl _).trans rfl
theorem e_chain {γ2 : P2} : pChain γ γ2 φ ψ χ env m = (φ env m).bind fun x m1 => (ψ env m1).bind fun y m2 => (ofO (γ x y m2)).bind fun z m3 => bOf z fun b => bif b then (χ env m3).bind fun w m4 => ofO (γ2 y w m4) else .ok (.bl false) m3 := (Eq.refl _).trans rfl
theorem e_neg : pNeg φ env m = (φ env m).bind fun a m1 => iOf a fun i => .ok (.int (-i)) m1 := (Eq.refl _).trans rfl
theorem e_dct0 : pDct0 env m = .ok (.dct []) m := (Eq.refl _).trans rfl
theorem e_isi2 {c1 c2 : String} : pIsi2 c1 c2 φ env m = (φ env m).bind fun a m1 => match tyA m1 a with
  | some t => .ok (.bl (isiB t c1 || isiB t c2)) m1
  | none => .bad := (Eq.refl _).trans rfl
theorem e_noP : pNoP env m = .ok none m := (Eq.refl _).trans rfl
theorem e_pt : pPt φ env m = (φ env m).bind fun a m1 => iOf a fun i => .ok (some i) m1 := (Eq.refl _).trans rfl
theorem e_sl {lo hi : FO} : pSl φ lo hi env m = (φ env m).bind fun a m1 => (lo env m1).bind fun l m2 => (hi env m2).bind fun u m3 => ofP1 (aSl a l u m3) m3 := (Eq.refl _).trans rfl
theorem e_P1 : ofP1 (some a) m = .ok a m := (Eq.refl _).trans rfl
theorem e_slL {o q : Option Int} : aSl (.lst l) o q m = some (.lst (cutA l o q)) := (Eq.refl _).trans rfl
theorem e_slT {o q : Option Int} : aSl (.tup l) o q m = some (.tup (cutA l o q)) := (Eq.refl _).trans rfl
theorem e_rev : pRev φ env m = (φ env m).bind fun a m1 => match seqA m1 a with
  | some (true, l) => .ok (.lst l.reverse) m1
  | _ => .bad := (Eq.refl _).trans rfl
theorem e_call {F : FF} : pCall F φs env m = (φs env m).bind fun xs m1 => F xs m1 := (Eq.refl _).trans rfl
theorem e_callK {F : FF} {gA : List A → List A → List A} : pCallK F gA φs ψs env m = (φs env m).bind fun xs m1 => (ψs env m1).bind fun ys m2 => F (gA xs ys) m2 := (Eq.refl _).trans rfl
theorem e_lstV : pLstV φs env m = (φs env m).bind fun l m1 => .ok (.lst l) m1 := (Eq.refl _).trans rfl
theorem e_new : pNew φs env m = (φs env m).bind fun l m1 => .ok (.loc m1.length) (m1 ++ [.lst l]) := (Eq.refl _).trans rfl
theorem e_vLst : vLst φs env m = (φs env m).bind fun l m1 => if l.length ≤ 1000 then .ok l m1 else .bad := (Eq.refl _).trans rfl
theorem e_vCat : vCat φ ψ env m = (φ env m).bind fun a m1 => (ψ env m1).bind fun b m2 => match seqA m2 a, seqA m2 b with
  | some (true, l), some (true, u) => if l.length + u.length ≤ 1000000 then .ok (l ++ u) m2 else .bad
  | _, _ => .bad := (Eq.refl _).trans rfl
theorem e_vSl {lo hi : FO} : vSl φ lo hi env m = (φ env m).bind fun a m1 => (lo env m1).bind fun l m2 => (hi env m2).bind fun u m3 => match seqA m3 a with
  | some (true, xs) => .ok (cutA xs l u) m3
  | _ => .bad := (Eq.refl _).trans rfl
theorem e_vList : vList φ env m = (φ env m).bind fun a m1 => match seqA m1 a with
  | some (_, xs) => .ok xs m1
  | none => .bad := (Eq.refl _).trans rfl
theorem e_vRep : vRep φs φ env m = (φs env m).bind fun l m1 => (φ env m1).bind fun b m2 => iOf b fun n => if 0 ≤ n ∧ n ≤ 1000 ∧ l.length ≤ 1000 then .ok (List.replicate n.toNat l).flatten m2 else .bad := (Eq.refl _).trans rfl
theorem e_lcV {γg : FG} {vs : List Nat} {φt : FT} : pLcV φi γg vs φt φ env m = (φi env m).bind fun dk m1 => if dk.1.length < 1000000 then compK dk.2 γg (wipeA env vs) φt φ dk.1 m1 else .bad := (Eq.refl _).trans rfl
theorem e_compK {γg : FG} {φt : FT} : compK [] γg env φt φ l m = compA γg env φt φ l m := compK_nil _ _ _ _ _ _
theorem e_forK {γg : FG} : forK [] γg f l env m = forA γg f l env m := forK_nil _ _ _ _ _
theorem e_iSq : pISq φ env m = (φ env m).bind fun a m1 => match vsq m1 a with
  | some (_, l, ks) => .ok (l, ks) m1
  | none => .bad := (Eq.refl _).trans rfl
theorem e_iEn : pIEn φ env m = (φ env m).bind fun a m1 => match vsq m1 a with
  | some (_, l, ks) => .ok (enumA l, ks) m1
  | none => .bad := (Eq.refl _).trans rfl
theorem e_iRg : pIRg φ env m = (φ env m).bind fun a m1 => iOf a fun n => if -(2 ^ 62) ≤ n ∧ n < 2 ^ 62 then .ok (rangeA n, []) m1 else .bad := (Eq.refl _).trans rfl
theorem e_vsqL : vsq m (.lst l) = some (true, l, []) := (Eq.refl _).trans rfl
theorem e_vsqT : vsq m (.tup l) = some (false, l, []) := (Eq.refl _).trans rfl
theorem vsq_loc (h : m[n]? = some (.lst l)) : vsq m (.loc n) = some (true, l, [(n, l)]) := by
  simp only [vsq, h]
theorem e_iZp : pIZp φs env m = (φs env m).bind fun as m1 => match as with
  | [x, y] => match vsq m1 x, vsq m1 y with
    | some (true, l, ks), some (true, u, qs) => .ok (zipA l u, ks ++ qs) m1
    | some (false, l, ks), some (false, u, qs) => .ok (zipA l u, ks ++ qs) m1
    | _, _ => .bad
  | _ => .bad := (Eq.refl _).trans rfl
/-! steps -/
theorem e_catLL : aCatL true (.lst l) (.lst ls) m = if l.length + ls.length ≤ 1000000 then some (.lst (l ++ ls), m) else none := (Eq.refl _).trans rfl
theorem e_catTT : aCatT (.tup l) (.tup ls) m = if l.length + ls.length ≤ 1000000 then some (.tup (l ++ ls), m) else none := (Eq.refl _).trans rfl
theorem e_aI0 {h : Int → Int → A} : aI0 h (.int u) (.int w) m = some (h u w, m) := (Eq.refl _).trans rfl
theorem e_aI {h : Int → Int → A} {cc : Int → Int → Bool} : aI cc h (.int u) (.int w) m = if cc u w = true then some (h u w, m) else none := (Eq.refl _).trans rfl
theorem e_seqL : seqA m (.lst l) = some (true, l) := (Eq.refl _).trans rfl
theorem e_seqT : seqA m (.tup l) = some (false, l) := (Eq.refl _).trans rfl
theorem e_seqN (h : m[n]? = some (.lst l)) : seqA m (.loc n) = some (true, l) := by
  simp only [seqA, h]
theorem e_ixL : aIx (.lst l) (.int u) m = match atI l u with
  | some d => some (d, m)
  | none => none := (Eq.refl _).trans rfl
theorem e_ixT : aIx (.tup l) (.int u) m = match atI l u with
  | some d => some (d, m)
  | none => none := (Eq.refl _).trans rfl
theorem e_ixN (h : m[n]? = some (.lst l)) : aIx (.loc n) (.int u) m = match atI l u with
  | some d => some (d, m)
  | none => none := by
  simp only [aIx, seqA, h]
  try (cases atI l u <;> rfl)
theorem e_lenL : aLen [.lst l] m = some (.int l.length, m) := (Eq.refl _).trans rfl
theorem e_lenT : aLen [.tup l] m = some (.int l.length, m) := (Eq.refl _).trans rfl
theorem e_lenN (h : m[n]? = some (.lst l)) : aLen [.loc n] m = some (.int l.length, m) := by
  simp only [aLen, seqA, h]
theorem e_isi {ty : String} : aIsi [a, .ty ty] m = match tyA m a with
  | some t => if tyNs.contains ty = true then some (.bl (isiB t ty), m) else none
  | none => none := (Eq.refl _).trans rfl
theorem e_max : aMax2 [.int u, .int w] m = some (.int (if w > u then w else u), m) := (Eq.refl _).trans rfl
theorem e_min : aMin2 [.int u, .int w] m = some (.int (if w < u then w else u), m) := (Eq.refl _).trans rfl
theorem e_tupL : aTupOf [.lst l] m = some (.tup l, m) := (Eq.refl _).trans rfl
theorem e_tupT : aTupOf [.tup l] m = some (.tup l, m) := (Eq.refl _).trans rfl
theorem e_intI : aInt [.int u] m = some (.int u, m) := (Eq.refl _).trans rfl
theorem e_intB : aInt [.bl c] m = some (.int (if c then 1 else 0), m) := (Eq.refl _).trans rfl
theorem e_listL : aListF [.lst l] m = some (.lst l, m) := (Eq.refl _).trans rfl
theorem e_listT : aListF [.tup l] m = some (.lst l, m) := (Eq.refl _).trans rfl
theorem bls_map : ∀ bs : List Bool, blsOf (bs.map A.bl) = some bs
  | [] => rfl
  | b :: bs => by simp only [List.map_cons, blsOf, bls_map bs]
theorem ints_map : ∀ bs : List Int, intsOf (bs.map A.int) = some bs
  | [] => rfl
  | b :: bs => by simp only [List.map_cons, intsOf, ints_map bs]
theorem e_all {bs : List Bool} : aAll [.lst (bs.map A.bl)] m = some (.bl (bs.all id), m) := by
  simp only [aAll, seqA, bls_map]
theorem e_any {bs : List Bool} : aAny [.lst (bs.map A.bl)] m = some (.bl (bs.any id), m) := by
  simp only [aAny, seqA, bls_map]
theorem e_sum {bs : List Int} : aSum [.lst (bs.map A.int)] m = some (.int bs.sum, m) := by
  simp only [aSum, seqA, ints_map]
theorem e_all' {α : Type} {xs : List α} {h : α → Bool} : aAll [.lst (xs.map fun x => A.bl (h x))] m = some (.bl (xs.all h), m) := by
  have e : (xs.map fun x => A.bl (h x)) = (xs.map h).map A.bl := by rw [List.map_map]; rfl
  rw [e, e_all, List.all_map]
  rfl
theorem e_eqII {neg : Bool} : aEq neg (.int u) (.int w) m = some (.bl (if neg then !decide (u = w) else decide (u = w)), m) := by
  have e : PyData.eqv (.int u) (.int w) = decide (u = w) := by rw [Bool.eq_iff_iff]; simp [PyData.eqv]
  simp [aEq, pd, pdWA, scalP, e]
theorem e_eqSS {neg : Bool} : aEq neg (.str t) (.str z) m = some (.bl (if neg then !decide (t = z) else decide (t = z)), m) := by
  have e : PyData.eqv (.str t) (.str z) = decide (t = z) := by rw [Bool.eq_iff_iff]; simp [PyData.eqv]
  simp [aEq, pd, pdWA, scalP, e]
theorem t_non : tyA m .non = some "NoneType" := (Eq.refl _).trans rfl
theorem t_bl : tyA m (.bl c) = some "bool" := (Eq.refl _).trans rfl
theorem t_int : tyA m (.int u) = some "int" := (Eq.refl _).trans rfl
theorem t_str : tyA m (.str t) = some "str" := (Eq.refl _).trans rfl
theorem t_lst : tyA m (.lst l) = some "list" := (Eq.refl _).trans rfl
theorem t_tup : tyA m (.tup l) = some "tuple" := (Eq.refl _).trans rfl
theorem t_dct {kv : List (Key × A)} : tyA m (.dct kv) = some "dict" := (Eq.refl _).trans rfl
theorem t_locL (h : m[n]? = some (.lst l)) : tyA m (.loc n) = some "list" := by
  simp only [tyA, h]
/-! statements -/
theorem e_next : qNext env m = .nx env m := (Eq.refl _).trans rfl
theorem e_seq : qSeq f g env m = seqS (f env m) g := by
  unfold qSeq seqS
  cases f env m <;> rfl
theorem e_snx : seqS (.nx env m) g = g env m := (Eq.refl _).trans rfl
theorem e_srt : seqS (.rt a m) g = .rt a m := (Eq.refl _).trans rfl
theorem e_sbk : seqS (.bk env m) g = .bk env m := (Eq.refl _).trans rfl
theorem e_sct : seqS (.ct env m) g = .ct env m := (Eq.refl _).trans rfl
theorem e_sxx : seqS (.ex x env m) g = .ex x env m := (Eq.refl _).trans rfl
theorem e_sbd : seqS .bad g = .bad := (Eq.refl _).trans rfl
theorem e_drop : qDrop φ env m = bindS (φ env m) env fun _ m1 => .nx env m1 := (Eq.refl _).trans rfl
theorem e_ret : qRet φ env m = bindS (φ env m) env fun a m1 => .rt a m1 := (Eq.refl _).trans rfl
theorem e_retN : qRetN env m = .rt .non m := (Eq.refl _).trans rfl
theorem e_qif : qIf τ f g env m = bindS (τ env m) env fun b m1 => bif b then f env m1 else g env m1 := (Eq.refl _).trans rfl
theorem e_break : qBreak env m = .bk env m := (Eq.refl _).trans rfl
theorem e_cont : qCont env m = .ct env m := (Eq.refl _).trans rfl
theorem e_asg : qAsg φ (tNm i) env m = bindS (φ env m) env fun a m1 => .nx (env.set i (.val a)) m1 := (Eq.refl _).trans rfl
theorem e_asgT {γs : FGs} : qAsg φ (tTup n γs) env m = bindS (φ env m) env fun a m1 => match tTup n γs a env with
  | some e => .nx e m1
  | none => .bad := (Eq.refl _).trans rfl
theorem e_ownV : qOwnV i φs env m = bindS (φs env m) env fun l m1 => .nx (env.set i (.own l)) m1 := (Eq.refl _).trans rfl
theorem e_app : qApp i φ env m = match env[i]? with
  | some (.own l) => bindS (φ env m) env fun a m1 => if l.length < 1000000 then .nx (env.set i (.own (l ++ [a]))) m1 else .bad
  | _ => .bad := (Eq.refl _).trans rfl
theorem e_par : qPar i j φs env m = bindS (φs env m) env fun xs m1 => match xs with
  | [x, y] => .nx ((env.set i (.val x)).set j (.val y)) m1
  | _ => .bad := (Eq.refl _).trans rfl
theorem e_raise {cn : Str} {ns : List Str} : qRaise cn ns φs env m = bindS (φs env m) env fun xs m1 => .ex ⟨cn, (ns.zip xs).reverse⟩ env m1 := (Eq.refl _).trans rfl
theorem e_for {γg : FG} : qFor φi γg f env m = bindS (φi env m) env fun dk m1 => forK dk.2 γg f dk.1 env m1 := (Eq.refl _).trans rfl
def tryS (xm : Str → Str → Option Bool) (cl : ClA) (r : RS) : RS := match r with
  | .ex x e m1 => hdl xm cl x e m1
  | .nx e m1 => .nx e m1
  | .rt a m1 => .rt a m1
  | .bk e m1 => .bk e m1
  | .ct e m1 => .ct e m1
  | .bad => .bad
theorem e_try {xm : Str → Str → Option Bool} {cl : ClA} : qTry xm f cl env m = tryS xm cl (f env m) := by
  unfold qTry tryS
  cases f env m <;> rfl
theorem e_txx {xm : Str → Str → Option Bool} {cl : ClA} : tryS xm cl (.ex x env m) = hdl xm cl x env m := (Eq.refl _).trans rfl
theorem e_tnx {xm : Str → Str → Option Bool} {cl : ClA} : tryS xm cl (.nx env m) = .nx env m := (Eq.refl _).trans rfl
theorem e_trt {xm : Str → Str → Option Bool} {cl : ClA} : tryS xm cl (.rt a m) = .rt a m := (Eq.refl _).trans rfl
def hdlS (i : Option Nat) (r : RS) : RS := match r with
  | .nx e m1 => if noExn (unA i e) = true then .nx (unA i e) m1 else .bad
  | .bk e m1 => if noExn (unA i e) = true then .bk (unA i e) m1 else .bad
  | .ct e m1 => if noExn (unA i e) = true then .ct (unA i e) m1 else .bad
  | .rt a m1 => .rt a m1
  | _ => .bad
theorem e_hT {xm : Str → Str → Option Bool} {cn c0 : Str} {fs : List (Str × A)} {o : Option Nat} {rr : ClA} (h : xm c0 cn = some true) : hdl xm (.one cn o f rr) ⟨c0, fs⟩ env m = if noExn env = true then hdlS o (f (inA o ⟨c0, fs⟩ env) m) else .bad := by
  unfold hdl
  simp only [h]
  unfold hdlS
  cases f (inA o ⟨c0, fs⟩ env) m <;> rfl
theorem e_hF {xm : Str → Str → Option Bool} {cn c0 : Str} {fs : List (Str × A)} {o : Option Nat} {rr : ClA} (h : xm c0 cn = some false) : hdl xm (.one cn o f rr) ⟨c0, fs⟩ env m = hdl xm rr ⟨c0, fs⟩ env m := by
  conv => lhs; unfold hdl
  simp only [h]
theorem e_hrt {o : Option Nat} : hdlS o (.rt a m) = .rt a m := (Eq.refl _).trans rfl
theorem e_body : bodyA n f l m = finS (f (startA n l) m) := by
  unfold bodyA finS
  cases f (startA n l) m <;> rfl
theorem e_fnx : finS (.nx env m) = .ok .non m := (Eq.refl _).trans rfl
theorem e_frt : finS (.rt a m) = .ok a m := (Eq.refl _).trans rfl
theorem e_fex : finS (.ex x env m) = .ex x m := (Eq.refl _).trans rfl
theorem e_start0 : startA n [] = List.replicate n .no := by
  unfold startA
  simp
theorem e_startS : startA (n + 1) (a :: l) = .val a :: startA n l := by
  unfold startA
  simp
theorem e_rep0 {v : SV} : List.replicate 0 v = [] := (Eq.refl _).trans rfl
theorem e_repS {v : SV} : List.replicate (n + 1) v = v :: List.replicate n v := (Eq.refl _).trans rfl
/-! ways that part and meet -/
theorem e_condB {r q : R α} : (cond c r q).bind k = cond c (r.bind k) (q.bind k) := by cases c <;> rfl
theorem e_condS {r q : R α} : bindS (cond c r q) env ks = cond c (bindS r env ks) (bindS q env ks) := by cases c <;> rfl
theorem e_condQ {r q : RS} : seqS (cond c r q) g = cond c (seqS r g) (seqS q g) := by cases c <;> rfl
theorem e_condF {r q : RS} : finS (cond c r q) = cond c (finS r) (finS q) := by cases c <;> rfl
theorem e_condT {xm : Str → Str → Option Bool} {cl : ClA} {r q : RS} : tryS xm cl (cond c r q) = cond c (tryS xm cl r) (tryS xm cl q) := by cases c <;> rfl
theorem e_condO {r q : α} : cond c (R.ok r m) (R.ok q m) = .ok (cond c r q) m := by cases c <;> rfl
theorem e_condBl : cond c (A.bl d) (A.bl true) = .bl (!c || d) := by cases c <;> cases d <;> rfl
theorem e_cc : cond c (A.bl d) (A.bl false) = .bl (c && d) := by cases c <;> cases d <;> rfl
theorem e_condAA {y : Bool} : cond c (A.bl d) (A.bl y) = .bl (cond c d y) := by cases c <;> rfl
end
end FL
set_option maxHeartbeats 4000001
namespace FL
open PySem PySem.Spec
open PyProof.Rows L2 DL

/-! ### loops, comprehensions -/
section
variable {γ : FG} {env : AEnv} {φt : FT} {φe : FE} {m : AM} {β : FS}
theorem compA_nil : compA γ env φt φe [] m = .ok [] m := by rw [compA]
theorem noex_ok {α : Type} {a : α} {m : AM} : noex (R.ok a m) = .ok a m := (Eq.refl _).trans rfl
theorem compA_one {i : Nat} {d : A} {ds : List A} : compA (tNm i) env pYes φe (d :: ds) m = (noex (φe (env.set i (.val d)) m)).bind fun y m3 => (compA (tNm i) env pYes φe ds m3).bind fun ys m4 => .ok (y :: ys) m4 := by
  rw [compA]
  simp only [tNm, pYes, noex, R.bind, cond_true]
theorem compA_pure {v : A → A} : ∀ {ds : List A}, (∀ d ∈ ds, ∃ e1, γ d env = some e1 ∧ φe e1 m = .ok (v d) m) → compA γ env pYes φe ds m = .ok (ds.map v) m
  | [], _ => by rw [compA]; rfl
  | d :: ds, h => by
    obtain ⟨e1, h1, h2⟩ := h d List.mem_cons_self
    rw [compA, h1]
    simp only [pYes, noex, R.bind, cond_true, h2, compA_pure fun x hx => h x (List.mem_cons_of_mem _ hx), List.map_cons]
theorem kp_one {n : Nat} {l : List A} (h : m[n]? = some (.lst l)) : kpA [(n, l)] m = true := by
  simp only [kpA, List.all_cons, List.all_nil, Bool.and_true, h, beqAs_refl]
theorem compK_pure {ks : Kps} {v : A → A} (hk : kpA ks m = true) : ∀ {ds : List A}, (∀ d ∈ ds, ∃ e1, γ d env = some e1 ∧ φe e1 m = .ok (v d) m) → compK ks γ env pYes φe ds m = .ok (ds.map v) m
  | [], _ => by rw [compK, if_pos hk]; rfl
  | d :: ds, h => by
    obtain ⟨e1, h1, h2⟩ := h d List.mem_cons_self
    rw [compK, if_pos hk, h1]
    simp only [pYes, noex, R.bind, cond_true, h2, compK_pure hk fun x hx => h x (List.mem_cons_of_mem _ hx), List.map_cons]
theorem vsq_seq {a : A} {w : Bool} {l : List A} {ks : Kps} (h : vsq m a = some (w, l, ks)) : seqA m a = some (w, l) ∧ kpA ks m = true := by
  cases a with
  | lst _ => cases h; exact ⟨rfl, rfl⟩
  | tup _ => cases h; exact ⟨rfl, rfl⟩
  | loc n =>
    simp only [vsq] at h
    split at h
    · rename_i l e
      cases h
      exact ⟨by simp only [seqA, e], kp_one e⟩
    · cases h
  | _ => cases h
theorem len_vsq {a : A} {w : Bool} {l : List A} {ks : Kps} (h : vsq m a = some (w, l, ks)) : aLen [a] m = some (.int l.length, m) := by
  simp only [aLen, (vsq_seq h).1]
theorem compA_filter {p : A → Bool} {v : A → A} : ∀ {ds : List A}, (∀ d ∈ ds, ∃ e1, γ d env = some e1 ∧ φt e1 m = .ok (p d) m ∧ (p d = true → φe e1 m = .ok (v d) m)) → compA γ env φt φe ds m = .ok ((ds.filter p).map v) m
  | [], _ => by rw [compA]; rfl
  | d :: ds, h => by
    obtain ⟨e1, h1, h2, h3⟩ := h d List.mem_cons_self
    have ih := compA_filter (ds := ds) fun x hx => h x (List.mem_cons_of_mem _ hx)
    rw [compA, h1]
    cases e : p d with
    | true =>
      simp only [h2, e, noex, R.bind, cond_true, h3 e, ih, List.filter_cons, if_true, List.map_cons]
    | false =>
      simp only [h2, e, noex, R.bind, cond_false, ih, List.filter_cons, Bool.false_eq_true, if_false]
theorem compA_inv (J : Nat → List A → AM → Prop) {ds : List A} (hs : ∀ i d acc m, ds[i]? = some d → J i acc m → ∃ e1 v m', γ d env = some e1 ∧ φe e1 m = .ok v m' ∧ J (i + 1) (acc ++ [v]) m') (h0 : J 0 [] m) :
    ∃ ys m', compA γ env pYes φe ds m = .ok ys m' ∧ J ds.length ys m' := by
  have key : ∀ (n i : Nat) (acc : List A) (m : AM), n = ds.length - i → i ≤ ds.length → J i acc m → ∃ ys m', compA γ env pYes φe (ds.drop i) m = .ok ys m' ∧ J ds.length (acc ++ ys) m' := by
    intro n
    induction n with
    | zero =>
      intro i acc m hn hi hj
      have e : i = ds.length := by omega
      subst e
      rw [List.drop_length]
      exact ⟨[], m, by rw [compA], by rw [List.append_nil]; exact hj⟩
    | succ n ih =>
      intro i acc m hn hi hj
      have hlt : i < ds.length := by omega
      obtain ⟨e1, v, m1, h1, h2, h3⟩ := hs i ds[i] acc m (by simp [hlt]) hj
      obtain ⟨ys, m2, h4, h5⟩ := ih (i + 1) (acc ++ [v]) m1 (by omega) (by omega) h3
      refine ⟨v :: ys, m2, ?_, by rw [List.append_assoc] at h5; exact h5⟩
      rw [List.drop_eq_getElem_cons hlt, compA, h1]
      simp only [pYes, noex, R.bind, cond_true, h2, h4]
  obtain ⟨ys, m', h1, h2⟩ := key ds.length 0 [] m rfl (Nat.zero_le _) h0
  exact ⟨ys, m', h1, h2⟩
theorem forA_inv (J : Nat → AEnv → AM → Prop) {ds : List A} {m : AM} {env : AEnv} (hs : ∀ i d env m, ds[i]? = some d → J i env m → ∃ e1 e2 m', γ d env = some e1 ∧ (β e1 m = .nx e2 m' ∨ β e1 m = .ct e2 m') ∧ J (i + 1) e2 m') (h0 : J 0 env m) :
    ∃ e' m', forA γ β ds env m = .nx e' m' ∧ J ds.length e' m' := by
  have key : ∀ (n i : Nat) (env : AEnv) (m : AM), n = ds.length - i → i ≤ ds.length → J i env m → ∃ e' m', forA γ β (ds.drop i) env m = .nx e' m' ∧ J ds.length e' m' := by
    intro n
    induction n with
    | zero =>
      intro i env m hn hi hj
      have e : i = ds.length := by omega
      subst e
      rw [List.drop_length]
      exact ⟨env, m, by rw [forA], hj⟩
    | succ n ih =>
      intro i env m hn hi hj
      have hlt : i < ds.length := by omega
      obtain ⟨e1, e2, m1, h1, h2, h3⟩ := hs i ds[i] env m (by simp [hlt]) hj
      obtain ⟨e', m2, h4, h5⟩ := ih (i + 1) e2 m1 (by omega) (by omega) h3
      refine ⟨e', m2, ?_, h5⟩
      rw [List.drop_eq_getElem_cons hlt, forA, h1]
      rcases h2 with h2 | h2 <;> simp only [h2, h4]
  exact key ds.length 0 env m rfl (Nat.zero_le _) h0
end
theorem rangeA_length (n : Int) : (rangeA n).length = n.toNat := by simp [rangeA]
theorem rangeA_mem {n : Int} {d : A} (h : d ∈ rangeA n) : ∃ i : Nat, d = .int i ∧ (i : Int) < n := by
  unfold rangeA at h
  obtain ⟨i, h1, rfl⟩ := List.mem_map.mp h
  exact ⟨i, rfl, by have := List.mem_range.mp h1; omega⟩
theorem rangeA_get {n : Int} {i : Nat} {d : A} (h : (rangeA n)[i]? = some d) : d = .int i ∧ (i : Int) < n := by
  have hl : i < n.toNat := by
    rcases Nat.lt_or_ge i n.toNat with z | z
    · exact z
    · rw [List.getElem?_eq_none (by rw [rangeA_length]; exact z)] at h
      cases h
  unfold rangeA at h
  rw [List.getElem?_map, List.getElem?_range hl] at h
  cases h
  exact ⟨rfl, by omega⟩
theorem enumA_length (l : List A) : (enumA l).length = l.length := by simp [enumA]
theorem zipA_length (l u : List A) : (zipA l u).length = min l.length u.length := by simp [zipA]
theorem e_at0 {x0 : A} {l : List A} : atI (x0 :: l) 0 = some x0 := by
  unfold atI ixN
  rw [if_pos (by decide), if_pos (by simp only [List.length_cons]; omega)]
  rfl
theorem e_at1 {x0 x1 : A} {l : List A} : atI (x0 :: x1 :: l) 1 = some x1 := by
  unfold atI ixN
  rw [if_pos (by decide), if_pos (by simp only [List.length_cons]; omega)]
  rfl
theorem e_at2 {x0 x1 x2 : A} {l : List A} : atI (x0 :: x1 :: x2 :: l) 2 = some x2 := by
  unfold atI ixN
  rw [if_pos (by decide), if_pos (by simp only [List.length_cons]; omega)]
  rfl
theorem e_at3 {x0 x1 x2 x3 : A} {l : List A} : atI (x0 :: x1 :: x2 :: x3 :: l) 3 = some x3 := by
  unfold atI ixN
  rw [if_pos (by decide), if_pos (by simp only [List.length_cons]; omega)]
  rfl
theorem e_at4 {x0 x1 x2 x3 x4 : A} {l : List A} : atI (x0 :: x1 :: x2 :: x3 :: x4 :: l) 4 = some x4 := by
  unfold atI ixN
  rw [if_pos (by decide), if_pos (by simp only [List.length_cons]; omega)]
  rfl
theorem e_at5 {x0 x1 x2 x3 x4 x5 : A} {l : List A} : atI (x0 :: x1 :: x2 :: x3 :: x4 :: x5 :: l) 5 = some x5 := by
  unfold atI ixN
  rw [if_pos (by decide), if_pos (by simp only [List.length_cons]; omega)]
  rfl
theorem e_at6 {x0 x1 x2 x3 x4 x5 x6 : A} {l : List A} : atI (x0 :: x1 :: x2 :: x3 :: x4 :: x5 :: x6 :: l) 6 = some x6 := by
  unfold atI ixN
  rw [if_pos (by decide), if_pos (by simp only [List.length_cons]; omega)]
  rfl
theorem e_at7 {x0 x1 x2 x3 x4 x5 x6 x7 : A} {l : List A} : atI (x0 :: x1 :: x2 :: x3 :: x4 :: x5 :: x6 :: x7 :: l) 7 = some x7 := by
  unfold atI ixN
  rw [if_pos (by decide), if_pos (by simp only [List.length_cons]; omega)]
  rfl
theorem e_at8 {x0 x1 x2 x3 x4 x5 x6 x7 x8 : A} {l : List A} : atI (x0 :: x1 :: x2 :: x3 :: x4 :: x5 :: x6 :: x7 :: x8 :: l) 8 = some x8 := by
  unfold atI ixN
  rw [if_pos (by decide), if_pos (by simp only [List.length_cons]; omega)]
  rfl
theorem e_at9 {x0 x1 x2 x3 x4 x5 x6 x7 x8 x9 : A} {l : List A} : atI (x0 :: x1 :: x2 :: x3 :: x4 :: x5 :: x6 :: x7 :: x8 :: x9 :: l) 9 = some x9 := by
  unfold atI ixN
  rw [if_pos (by decide), if_pos (by simp only [List.length_cons]; omega)]
  rfl
theorem e_at10 {x0 x1 x2 x3 x4 x5 x6 x7 x8 x9 x10 : A} {l : List A} : atI (x0 :: x1 :: x2 :: x3 :: x4 :: x5 :: x6 :: x7 :: x8 :: x9 :: x10 :: l) 10 = some x10 := by
  unfold atI ixN
  rw [if_pos (by decide), if_pos (by simp only [List.length_cons]; omega)]
  rfl
theorem e_at11 {x0 x1 x2 x3 x4 x5 x6 x7 x8 x9 x10 x11 : A} {l : List A} : atI (x0 :: x1 :: x2 :: x3 :: x4 :: x5 :: x6 :: x7 :: x8 :: x9 :: x10 :: x11 :: l) 11 = some x11 := by
  unfold atI ixN
  rw [if_pos (by decide), if_pos (by simp only [List.length_cons]; omega)]
  rfl
theorem e_atm1 {x0 : A} : atI [x0] (-1) = some x0 := (Eq.refl _).trans rfl
theorem e_atm2 {x0 x1 : A} : atI [x0, x1] (-1) = some x1 := rfl
theorem e_atm3 {x0 x1 x2 : A} : atI [x0, x1, x2] (-1) = some x2 := rfl
theorem e_atm4 {x0 x1 x2 x3 : A} : atI [x0, x1, x2, x3] (-1) = some x3 := rfl
theorem e_atm5 {x0 x1 x2 x3 x4 : A} : atI [x0, x1, x2, x3, x4] (-1) = some x4 := rfl
theorem nc0 : ((0 : Nat) : Int) = 0 := (Eq.refl _).trans rfl
theorem nc1 : ((1 : Nat) : Int) = 1 := (Eq.refl _).trans rfl
theorem nc2 : ((2 : Nat) : Int) = 2 := (Eq.refl _).trans rfl
theorem nc3 : ((3 : Nat) : Int) = 3 := (Eq.refl _).trans rfl
theorem nc4 : ((4 : Nat) : Int) = 4 := (Eq.refl _).trans rfl
theorem nc5 : ((5 : Nat) : Int) = 5 := (Eq.refl _).trans rfl
theorem nc6 : ((6 : Nat) : Int) = 6 := (Eq.refl _).trans rfl
theorem nc7 : ((7 : Nat) : Int) = 7 := (Eq.refl _).trans rfl
theorem nc8 : ((8 : Nat) : Int) = 8 := (Eq.refl _).trans rfl
theorem nc9 : ((9 : Nat) : Int) = 9 := (Eq.refl _).trans rfl
theorem nc10 : ((10 : Nat) : Int) = 10 := (Eq.refl _).trans rfl
theorem nc11 : ((11 : Nat) : Int) = 11 := (Eq.refl _).trans rfl
theorem nc12 : ((12 : Nat) : Int) = 12 := (Eq.refl _).trans rfl
theorem c_F {c d : Bool} : cond c d false = (c && d) := by cases c <;> rfl
theorem c_T {c d : Bool} : cond c true d = (c || d) := by cases c <;> rfl
theorem c_nF {c d : Bool} : cond c false d = (!c && d) := by cases c <;> rfl
theorem c_nT {c d : Bool} : cond c d true = (!c || d) := by cases c <;> rfl
/-- a place that is there -/
theorem atA {l : List A} {k : Int} (h0 : 0 ≤ k) (h : k < l.length) : ∃ d, atI l k = some d ∧ d ∈ l := by
  have hn : k.toNat < l.length := by omega
  refine ⟨l[k.toNat], ?_, List.getElem_mem hn⟩
  unfold atI ixN
  rw [if_pos h0, if_pos h]
  show l[k.toNat]? = _
  exact List.getElem?_eq_getElem hn

/-! ### trees -/
mutual
def ofPA : PyData → A
  | .none => .non
  | .bool b => .bl b
  | .int i => .int i
  | .str x => .str x
  | .list l => .lst (ofPAs l)
  | .tuple l => .tup (ofPAs l)
  | .dict _ => .dct []
def ofPAs : List PyData → List A
  | [] => []
  | p :: ps => ofPA p :: ofPAs ps
end
mutual
theorem pdW_ofPA (res : Nat → Option PyData) : ∀ p : PyData, plainP p = true → pdWA res (ofPA p) = some p
  | .none, _ => rfl
  | .bool _, _ => rfl
  | .int _, _ => rfl
  | .str _, _ => rfl
  | .list l, h => by
    have e := pdsW_ofPA res l h
    simp only [ofPA, pdWA, e]
  | .tuple l, h => by
    have e := pdsW_ofPA res l h
    simp only [ofPA, pdWA, e]
  | .dict [], _ => rfl
  | .dict (_ :: _), h => by cases h
theorem pdsW_ofPA (res : Nat → Option PyData) : ∀ l : List PyData, plainPs l = true → pdsWA res (ofPAs l) = some l
  | [], _ => rfl
  | p :: ps, h => by
    simp only [plainPs, Bool.and_eq_true] at h
    simp only [ofPAs, pdsWA, pdW_ofPA res p h.1, pdsW_ofPA res ps h.2]
end
theorem pd_tree {m : AM} {p : PyData} (h : plainP p = true) : pd m (ofPA p) = some p := pdW_ofPA _ p h
theorem ofPAs_map : ∀ l : List PyData, ofPAs l = l.map ofPA
  | [] => rfl
  | p :: ps => by rw [ofPAs, ofPAs_map ps]; rfl
theorem ofPAs_length (l : List PyData) : (ofPAs l).length = l.length := by rw [ofPAs_map, List.length_map]
theorem ofPAs_ints : ∀ ns : List Int, ofPAs (ns.map .int) = ns.map A.int
  | [] => rfl
  | n :: ns => congrArg (A.int n :: ·) (ofPAs_ints ns)
theorem pd_ints {m : AM} (ns : List Int) : pd m (.lst (ns.map A.int)) = some (.list (ns.map .int)) := by
  have h := pd_tree (m := m) (p := .list (ns.map .int)) (by simpa only [plainP] using plain_ints ns)
  simpa only [ofPA, ofPAs_ints] using h
theorem pd_intsT {m : AM} (ns : List Int) : pd m (.tup (ns.map A.int)) = some (.tuple (ns.map .int)) := by
  have h := pd_tree (m := m) (p := .tuple (ns.map .int)) (by simpa only [plainP] using plain_ints ns)
  simpa only [ofPA, ofPAs_ints] using h
/-- repr of a tree that is not too large -/
theorem e_repr {m : AM} {a : A} {p : PyData} {b k : Nat} (h : pd m a = some p) (t : Tame b k p) (hb : b ≤ 100000) (hk : k ≤ 100) : aRepr [a] m = some (.str p.shown, m) := by
  have c : (p.showable && decide (p.shown.length ≤ sizeLine) && decide (p.depth ≤ 100)) = true := by
    rw [t.sh, decide_eq_true (t.len hb), decide_eq_true (Nat.le_trans t.dp hk)]
    rfl
  simp only [aRepr, h, c, if_true]
theorem e_eqP {m : AM} {neg : Bool} {a b : A} {p q : PyData} (h1 : pd m a = some p) (h2 : pd m b = some q) (s1 : SeqAt.shaped p = true) (s2 : SeqAt.shaped q = true) : aEq neg a b m = some (.bl (if neg then !PyData.eqv p q else PyData.eqv p q), m) := by
  simp only [aEq, h1, h2, s1, s2, Bool.and_self, Bool.or_true, if_true]

theorem cm1 {i j : Int} (h1 : -18446744073709551616 < i) (h2 : i < 18446744073709551616) : cMul i j = true := by
  simp only [cMul, Bool.or_eq_true, Bool.and_eq_true, decide_eq_true_eq]
  left
  omega
theorem cm2 {i j : Int} (h1 : -18446744073709551616 < j) (h2 : j < 18446744073709551616) : cMul i j = true := by
  simp only [cMul, Bool.or_eq_true, Bool.and_eq_true, decide_eq_true_eq]
  right
  omega
theorem cpw {i j : Int} (h1 : 0 ≤ j) (h2 : j ≤ 1000000) (h3 : -18446744073709551616 < i) (h4 : i < 18446744073709551616) : cPow i j = true := by
  simp only [cPow, Bool.and_eq_true, decide_eq_true_eq]
  omega
theorem cdv {i j : Int} (h1 : 0 < j) (h2 : j < 1073741824) : cDiv i j = true := by
  simp only [cDiv, Bool.and_eq_true, decide_eq_true_eq]
  omega
theorem cmd {i j : Int} (h1 : 0 < j) : cMod i j = true := by
  simp only [cMod, decide_eq_true_eq]
  omega
theorem csr {i j : Int} (h1 : 0 ≤ j) : cShr i j = true := by
  simp only [cShr, decide_eq_true_eq]
  omega
theorem bitAnd1 (i : Int) : Builtin.bitAnd i 1 = i % 2 := bitAnd_m1 i
theorem bits_range (n : Nat) (w : Int) : (List.range n).map (fun (i : Nat) => A.int (w / 2 ^ i % 2)) = (bitsI n w).map A.int := by
  unfold bitsI
  rw [List.map_map]
  rfl
/-! ### things: trees that are no lists, lists of trees that may change -/
structure ThingA (p : Nat) (m : AM) (x : A) (q : PyData) : Prop where
  tame : Tame 200 5 q
  is : (x = ofPA q ∧ plainP q = true ∧ ∀ ps, q ≠ .list ps) ∨ ∃ r ps, x = .loc r ∧ q = .list ps ∧ m[r]? = some (.lst (ofPAs ps)) ∧ plainPs ps = true ∧ r ≠ p ∧ ps.length ≤ 9 ∧ ∀ y ∈ ps, Tame 40 2 y
theorem ThingA.pd {p : Nat} {m : AM} {x : A} {q : PyData} (h : ThingA p m x q) : FL.pd m x = some q := by
  rcases h.is with ⟨rfl, h1, _⟩ | ⟨r, ps, rfl, rfl, h1, h2, _⟩
  · exact pd_tree h1
  · show resA m 2 r = _
    simp only [resA, h1, pdsW_ofPA _ _ h2]
theorem ThingA.ty {p : Nat} {m : AM} {x : A} {q : PyData} (h : ThingA p m x q) : tyA m x = some (tyP q) := by
  rcases h.is with ⟨rfl, h1, _⟩ | ⟨r, ps, rfl, rfl, h1, h2, _⟩
  · cases q <;> rfl
  · simp only [tyA, h1, tyP]
/-! ### a purse -/
/-- at p: a purse of which at most n draws were made behind its digits -/
def PuA (m : AM) (p : Nat) (n : Int) : Prop := ∃ x y z : Int, m[p]? = some (.lst [.int x, .int y, .int z]) ∧ 0 ≤ x ∧ 0 ≤ y ∧ y < 2147483629 ∧ 0 ≤ z ∧ z ≤ n
theorem PuA.le {m : AM} {p : Nat} {k n : Int} (h : PuA m p k) (hl : k ≤ n) : PuA m p n := let ⟨x, y, z, e, h1, h2, h3, h4, h5⟩ := h; ⟨x, y, z, e, h1, h2, h3, h4, by omega⟩
theorem PuA.at {m m' : AM} {p : Nat} {n : Int} (h : PuA m p n) (e : m'[p]? = m[p]?) : PuA m' p n := let ⟨x, y, z, q, r⟩ := h; ⟨x, y, z, e.trans q, r⟩
theorem PuA.lt {m : AM} {p : Nat} {n : Int} (h : PuA m p n) : p < m.length := by
  obtain ⟨x, y, z, e, _⟩ := h
  rcases Nat.lt_or_ge p m.length with q | q
  · exact q
  · rw [List.getElem?_eq_none q] at e
    cases e
theorem PuA.more {m : AM} {p : Nat} {n : Int} (h : PuA m p n) (o : AO) : PuA (m ++ [o]) p n := h.at (List.getElem?_append_left h.lt)
/-- nothing but p's has changed, what is new stands behind -/
structure ButA (p : Nat) (m m' : AM) : Prop where
  len : m.length ≤ m'.length
  get : ∀ q, q ≠ p → q < m.length → m'[q]? = m[q]?
theorem ButA.refl (p : Nat) (m : AM) : ButA p m m := ⟨Nat.le_refl _, fun _ _ _ => rfl⟩
theorem ButA.trans {p : Nat} {m m1 m2 : AM} (h : ButA p m m1) (k : ButA p m1 m2) : ButA p m m2 := ⟨Nat.le_trans h.len k.len, fun q hq hl => (k.get q hq (Nat.lt_of_lt_of_le hl h.len)).trans (h.get q hq hl)⟩
theorem ButA.set {p : Nat} {m : AM} {o : AO} : ButA p m (m.set p o) := ⟨by rw [List.length_set]; exact Nat.le_refl _, fun q hq _ => List.getElem?_set_ne (Ne.symm hq)⟩
theorem ButA.more {p : Nat} {m : AM} (o : AO) : ButA p m (m ++ [o]) := ⟨by simp, fun q _ hl => List.getElem?_append_left hl⟩
theorem ButA.keep {p q : Nat} {m m' : AM} {o : AO} (h : ButA p m m') (hq : q ≠ p) (e : m[q]? = some o) : m'[q]? = some o := by
  rw [h.get q hq ?_]
  · exact e
  · rcases Nat.lt_or_ge q m.length with z | z
    · exact z
    · rw [List.getElem?_eq_none z] at e
      cases e
theorem ThingA.to {p : Nat} {m m' : AM} {x : A} {q : PyData} (h : ThingA p m x q) (b : ButA p m m') : ThingA p m' x q := by
  refine ⟨h.tame, ?_⟩
  rcases h.is with h | ⟨r, ps, rfl, rfl, h1, h2, h3, h4, h5⟩
  · exact .inl h
  · exact .inr ⟨r, ps, rfl, rfl, b.keep h3 h1, h2, h3, h4, h5⟩
/-- a draw's contract -/
def TakeOk (F : FF) : Prop := ∀ (m : AM) (p : Nat) (n many : Int), PuA m p n → n ≤ 1000000000 → 0 < many → many < 1000000 → ∃ d m', F [.loc p, .int many] m = .ok (.int d) m' ∧ 0 ≤ d ∧ d < many ∧ PuA m' p (n + 1) ∧ ButA p m m'
end FL
set_option maxHeartbeats 4000001
/-! ### the walk of law_k03_words_of_reckoning -/
namespace L03
open PySem PySem.Spec
open PyProof.Rows L2 DL FL
abbrev oAdd : G2 := gI0 fun i j => .int (i + j)
abbrev oSub : G2 := gI0 fun i j => .int (i - j)
abbrev oMul : G2 := gI CMul fun i j => .int (i * j)
abbrev oDiv : G2 := gI CDiv fun i j => .int (i / j)
abbrev oMod : G2 := gI (fun _ j => 0 < j) fun i j => .int (i % j)
abbrev oPow : G2 := gI CPow fun i j => .int (i ^ j.toNat)
abbrev oShl : G2 := gI CPow fun i j => .int (i * 2 ^ j.toNat)
abbrev oShr : G2 := gI (fun _ j => 0 ≤ j) fun i j => .int (i / 2 ^ j.toNat)
abbrev oAnd : G2 := gI0 fun i j => .int (Builtin.bitAnd i j)
abbrev oOr : G2 := gI0 fun i j => .int (Builtin.bitOr i j)
abbrev oXor : G2 := gI0 fun i j => .int (Builtin.bitXor i j)
abbrev oLt : G2 := gI0 fun i j => .bl (decide (i < j))
abbrev oLe : G2 := gI0 fun i j => .bl (decide (i ≤ j))
abbrev oGt : G2 := gI0 fun i j => .bl (decide (j < i))
abbrev oGe : G2 := gI0 fun i j => .bl (decide (j ≤ i))
def top (i : Nat) : Stmt := PySem.Challenge.pw_beatflows_k03_words_of_reckoning.main.body.getD i (.Pass ⟨0, 0, 0, 0⟩)
def ini (i : Nat) : Stmt := match top i with
  | .ClassDef _ _ _ b _ _ _ _ _ _ _ => b.getD 0 (.Pass ⟨0, 0, 0, 0⟩)
  | s => s
def d_NoOp__init__ : He.DefD := ⟨("NoOp", some "__init__"), "__init__", "NoOp.__init__", defArgs (ini 8), defBody (ini 8), defScope (ini 8), [], []⟩
def d_NoWidth__init__ : He.DefD := ⟨("NoWidth", some "__init__"), "__init__", "NoWidth.__init__", defArgs (ini 5), defBody (ini 5), defScope (ini 5), [], []⟩
def d_NoWorths__init__ : He.DefD := ⟨("NoWorths", some "__init__"), "__init__", "NoWorths.__init__", defArgs (ini 6), defBody (ini 6), defScope (ini 6), [], []⟩
def d_NoKind__init__ : He.DefD := ⟨("NoKind", some "__init__"), "__init__", "NoKind.__init__", defArgs (ini 4), defBody (ini 4), defScope (ini 4), [], []⟩
def d_NoNumber__init__ : He.DefD := ⟨("NoNumber", some "__init__"), "__init__", "NoNumber.__init__", defArgs (ini 7), defBody (ini 7), defScope (ini 7), [], []⟩
def d__law_purse : He.DefD := ⟨("_law_purse", none), "_law_purse", "_law_purse", defArgs (top 23), defBody (top 23), defScope (top 23), [], []⟩
def d__law_cell : He.DefD := ⟨("_law_cell", none), "_law_cell", "_law_cell", defArgs (top 22), defBody (top 22), defScope (top 22), [], []⟩
def d__law_take : He.DefD := ⟨("_law_take", none), "_law_take", "_law_take", defArgs (top 24), defBody (top 24), defScope (top 24), [], []⟩
def d__law_worth : He.DefD := ⟨("_law_worth", none), "_law_worth", "_law_worth", defArgs (top 31), defBody (top 31), defScope (top 31), [], []⟩
def d_is_whole : He.DefD := ⟨("is_whole", none), "is_whole", "is_whole", defArgs (top 14), defBody (top 14), defScope (top 14), [], []⟩
def d_is_width : He.DefD := ⟨("is_width", none), "is_width", "is_width", defArgs (top 15), defBody (top 15), defScope (top 15), [], []⟩
def d_is_kind : He.DefD := ⟨("is_kind", none), "is_kind", "is_kind", defArgs (top 16), defBody (top 16), defScope (top 16), [], []⟩
def d_is_worth : He.DefD := ⟨("is_worth", none), "is_worth", "is_worth", defArgs (top 17), defBody (top 17), defScope (top 17), [], []⟩
def d_reckoned_single : He.DefD := ⟨("reckoned_single", none), "reckoned_single", "reckoned_single", defArgs (top 18), defBody (top 18), defScope (top 18), [], []⟩
def d_reckoned_two : He.DefD := ⟨("reckoned_two", none), "reckoned_two", "reckoned_two", defArgs (top 19), defBody (top 19), defScope (top 19), [], []⟩
def d_reckoned : He.DefD := ⟨("reckoned", none), "reckoned", "reckoned", defArgs (top 20), defBody (top 20), defScope (top 20), [], [("to", .int 1), ("at", .int 0)]⟩
def d__law_asked : He.DefD := ⟨("_law_asked", none), "_law_asked", "_law_asked", defArgs (top 30), defBody (top 30), defScope (top 30), [], []⟩
def d__law_bits : He.DefD := ⟨("_law_bits", none), "_law_bits", "_law_bits", defArgs (top 26), defBody (top 26), defScope (top 26), [], []⟩
def d__law_made : He.DefD := ⟨("_law_made", none), "_law_made", "_law_made", defArgs (top 27), defBody (top 27), defScope (top 27), [], []⟩
def d__law_carried : He.DefD := ⟨("_law_carried", none), "_law_carried", "_law_carried", defArgs (top 28), defBody (top 28), defScope (top 28), [], []⟩
def d__law_due : He.DefD := ⟨("_law_due", none), "_law_due", "_law_due", defArgs (top 29), defBody (top 29), defScope (top 29), [], []⟩
def d__law_refused_right : He.DefD := ⟨("_law_refused_right", none), "_law_refused_right", "_law_refused_right", defArgs (top 32), defBody (top 32), defScope (top 32), [], []⟩
def d_law : He.DefD := ⟨("law", none), "law", "law", defArgs (top 33), defBody (top 33), defScope (top 33), [], []⟩
def fns : List He.DefD := [d_NoOp__init__, d_NoWidth__init__, d_NoWorths__init__, d_NoKind__init__, d_NoNumber__init__, d__law_purse, d__law_cell, d__law_take, d__law_worth, d_is_whole, d_is_width, d_is_kind, d_is_worth, d_reckoned_single, d_reckoned_two, d_reckoned, d__law_asked, d__law_bits, d__law_made, d__law_carried, d__law_due, d__law_refused_right, d_law]
def xmT : List (Str × Str × Bool) := [("NoOp", "NoNumber", false), ("NoOp", "NoOp", true), ("NoOp", "NoWidth", false), ("NoOp", "NoWorths", false), ("NoWidth", "NoNumber", false), ("NoWidth", "NoOp", false), ("NoWidth", "NoWidth", true), ("NoWidth", "NoWorths", false), ("NoWorths", "NoNumber", false), ("NoWorths", "NoOp", false), ("NoWorths", "NoWidth", false), ("NoWorths", "NoWorths", true), ("NoKind", "NoNumber", false), ("NoKind", "NoOp", false), ("NoKind", "NoWidth", false), ("NoKind", "NoWorths", false), ("NoNumber", "NoNumber", true), ("NoNumber", "NoOp", false), ("NoNumber", "NoWidth", false), ("NoNumber", "NoWorths", false)]
def facts : List FB := [
  fun K => PySem.W.nsOkIn K sysModules,
  fun K => He.tupB K "WORDS" [.str "not", .str "and", .str "or", .str "xor", .str "add", .str "sub", .str "less", .str "same", .str "wide", .str "bit"],
  fun K => (He.Fa.glo "WORDS").ok K,
  fun K => (He.Fa.free "repr").ok K,
  fun K => (He.Fa.free "len").ok K,
  fun K => (He.Fa.free "min").ok K,
  fun K => (He.Fa.free "max").ok K,
  fun K => (He.Fa.free "range").ok K,
  fun K => (He.Fa.free "tuple").ok K,
  fun K => (He.Fa.free "isinstance").ok K,
  fun K => (He.Fa.free "str").ok K,
  xclB "NoOp" ["found"],
  fun K => (He.Fa.free "int").ok K,
  fun K => (He.Fa.free "bool").ok K,
  fun K => (He.Fa.int "MOST_WIDTH" 8).ok K,
  xclB "NoWidth" ["found"],
  fun K => He.tupB K "SINGLE" [.str "not", .str "wide", .str "bit"],
  fun K => (He.Fa.glo "SINGLE").ok K,
  fun K => (He.Fa.free "list").ok K,
  xclB "NoWorths" ["found"],
  fun K => (He.Fa.int "MOST_ROW" 4).ok K,
  xclB "NoKind" ["found"],
  fun K => (He.Fa.free "all").ok K,
  xclB "NoNumber" ["found"],
  fun K => (He.Fa.glo "NoNumber").ok K,
  fun K => (He.Fa.glo "NoWorths").ok K,
  fun K => (He.Fa.glo "NoWidth").ok K,
  fun K => (He.Fa.glo "NoOp").ok K,
  fun K => (He.Fa.free "enumerate").ok K,
  fun K => (He.Fa.free "sum").ok K,
  fun K => (He.Fa.free "zip").ok K,
  fun K => (He.Fa.glo "NoKind").ok K,
  fun K => xmT.all fun e => (He.Fa.exm e.1 e.2.1 e.2.2).ok K,
  fun K => (He.Fa.glo "_law_purse").ok K,
  fun K => (He.Fa.glo "_law_cell").ok K,
  fun K => (He.Fa.glo "_law_take").ok K,
  fun K => (He.Fa.glo "_law_worth").ok K,
  fun K => (He.Fa.glo "is_whole").ok K,
  fun K => (He.Fa.glo "is_width").ok K,
  fun K => (He.Fa.glo "is_kind").ok K,
  fun K => (He.Fa.glo "is_worth").ok K,
  fun K => (He.Fa.glo "reckoned_single").ok K,
  fun K => (He.Fa.glo "reckoned_two").ok K,
  fun K => (He.Fa.glo "reckoned").ok K,
  fun K => (He.Fa.glo "_law_asked").ok K,
  fun K => (He.Fa.glo "_law_bits").ok K,
  fun K => (He.Fa.glo "_law_made").ok K,
  fun K => (He.Fa.glo "_law_carried").ok K,
  fun K => (He.Fa.glo "_law_due").ok K,
  fun K => (He.Fa.glo "_law_refused_right").ok K,
  fun K => (He.Fa.glo "law").ok K]
structure Tx (K : PySem.W.Frag) (mg : Str → Option Value) (base : Heap) : Prop where
  inn : K.In base
  g : base.Ns mainGlobals mg
  sys : Sys base
  says : SaysB facts fns K
def xm : Str → Str → Option Bool := xmOf xmT
theorem xm_NoOp_NoNumber : xm "NoOp" "NoNumber" = some false := by decide +kernel
theorem xm_NoOp_NoOp : xm "NoOp" "NoOp" = some true := by decide +kernel
theorem xm_NoOp_NoWidth : xm "NoOp" "NoWidth" = some false := by decide +kernel
theorem xm_NoOp_NoWorths : xm "NoOp" "NoWorths" = some false := by decide +kernel
theorem xm_NoWidth_NoNumber : xm "NoWidth" "NoNumber" = some false := by decide +kernel
theorem xm_NoWidth_NoOp : xm "NoWidth" "NoOp" = some false := by decide +kernel
theorem xm_NoWidth_NoWidth : xm "NoWidth" "NoWidth" = some true := by decide +kernel
theorem xm_NoWidth_NoWorths : xm "NoWidth" "NoWorths" = some false := by decide +kernel
theorem xm_NoWorths_NoNumber : xm "NoWorths" "NoNumber" = some false := by decide +kernel
theorem xm_NoWorths_NoOp : xm "NoWorths" "NoOp" = some false := by decide +kernel
theorem xm_NoWorths_NoWidth : xm "NoWorths" "NoWidth" = some false := by decide +kernel
theorem xm_NoWorths_NoWorths : xm "NoWorths" "NoWorths" = some true := by decide +kernel
theorem xm_NoKind_NoNumber : xm "NoKind" "NoNumber" = some false := by decide +kernel
theorem xm_NoKind_NoOp : xm "NoKind" "NoOp" = some false := by decide +kernel
theorem xm_NoKind_NoWidth : xm "NoKind" "NoWidth" = some false := by decide +kernel
theorem xm_NoKind_NoWorths : xm "NoKind" "NoWorths" = some false := by decide +kernel
theorem xm_NoNumber_NoNumber : xm "NoNumber" "NoNumber" = some true := by decide +kernel
theorem xm_NoNumber_NoOp : xm "NoNumber" "NoOp" = some false := by decide +kernel
theorem xm_NoNumber_NoWidth : xm "NoNumber" "NoWidth" = some false := by decide +kernel
theorem xm_NoNumber_NoWorths : xm "NoNumber" "NoWorths" = some false := by decide +kernel
theorem hx {K : PySem.W.Frag} {mg : Str → Option Value} {base : Heap} (T : Tx K mg base) : ∀ c d b, xm c d = some b → PySem.W.exmOne K (.ref (He.ga K c)) (.ref (He.ga K d)) = some b := xm_ok (T.says.fact 32 (f := fun K => xmT.all fun e => (He.Fa.exm e.1 e.2.1 e.2.2).ok K) rfl)
def l_WORDS : List D := [.str "not", .str "and", .str "or", .str "xor", .str "add", .str "sub", .str "less", .str "same", .str "wide", .str "bit"]
theorem t_WORDS {K : PySem.W.Frag} {mg : Str → Option Value} {base : Heap} (T : Tx K mg base) : He.tupB K "WORDS" [.str "not", .str "and", .str "or", .str "xor", .str "add", .str "sub", .str "less", .str "same", .str "wide", .str "bit"] = true := T.says.fact 1 (f := fun K => He.tupB K "WORDS" [.str "not", .str "and", .str "or", .str "xor", .str "add", .str "sub", .str "less", .str "same", .str "wide", .str "bit"]) rfl
theorem r_WORDS {K : PySem.W.Frag} (G : Hp) : reps K G l_WORDS (([.str "not", .str "and", .str "or", .str "xor", .str "add", .str "sub", .str "less", .str "same", .str "wide", .str "bit"] : List He.Dv).map (He.Dv.v K)) := ⟨_, _, rfl, rfl, ⟨_, _, rfl, rfl, ⟨_, _, rfl, rfl, ⟨_, _, rfl, rfl, ⟨_, _, rfl, rfl, ⟨_, _, rfl, rfl, ⟨_, _, rfl, rfl, ⟨_, _, rfl, rfl, ⟨_, _, rfl, rfl, ⟨_, _, rfl, rfl, rfl⟩⟩⟩⟩⟩⟩⟩⟩⟩⟩
theorem g_WORDS {K : PySem.W.Frag} {mg : Str → Option Value} {base : Heap} (T : Tx K mg base) : mg "WORDS" = some (.ref (He.ga K "WORDS")) := He.glo_ok (x := "WORDS") T.inn T.g (T.says.fact 2 (f := fun K => (He.Fa.glo "WORDS").ok K) rfl)
theorem m_repr {K : PySem.W.Frag} {mg : Str → Option Value} {base : Heap} (T : Tx K mg base) : mg "repr" = none := He.free_ok (x := "repr") T.inn T.g (T.says.fact 3 (f := fun K => (He.Fa.free "repr").ok K) rfl)
theorem m_len {K : PySem.W.Frag} {mg : Str → Option Value} {base : Heap} (T : Tx K mg base) : mg "len" = none := He.free_ok (x := "len") T.inn T.g (T.says.fact 4 (f := fun K => (He.Fa.free "len").ok K) rfl)
theorem m_min {K : PySem.W.Frag} {mg : Str → Option Value} {base : Heap} (T : Tx K mg base) : mg "min" = none := He.free_ok (x := "min") T.inn T.g (T.says.fact 5 (f := fun K => (He.Fa.free "min").ok K) rfl)
theorem m_max {K : PySem.W.Frag} {mg : Str → Option Value} {base : Heap} (T : Tx K mg base) : mg "max" = none := He.free_ok (x := "max") T.inn T.g (T.says.fact 6 (f := fun K => (He.Fa.free "max").ok K) rfl)
theorem m_range {K : PySem.W.Frag} {mg : Str → Option Value} {base : Heap} (T : Tx K mg base) : mg "range" = none := He.free_ok (x := "range") T.inn T.g (T.says.fact 7 (f := fun K => (He.Fa.free "range").ok K) rfl)
theorem m_tuple {K : PySem.W.Frag} {mg : Str → Option Value} {base : Heap} (T : Tx K mg base) : mg "tuple" = none := He.free_ok (x := "tuple") T.inn T.g (T.says.fact 8 (f := fun K => (He.Fa.free "tuple").ok K) rfl)
theorem m_isinstance {K : PySem.W.Frag} {mg : Str → Option Value} {base : Heap} (T : Tx K mg base) : mg "isinstance" = none := He.free_ok (x := "isinstance") T.inn T.g (T.says.fact 9 (f := fun K => (He.Fa.free "isinstance").ok K) rfl)
theorem m_str {K : PySem.W.Frag} {mg : Str → Option Value} {base : Heap} (T : Tx K mg base) : mg "str" = none := He.free_ok (x := "str") T.inn T.g (T.says.fact 10 (f := fun K => (He.Fa.free "str").ok K) rfl)
theorem xo_NoOp {K : PySem.W.Frag} {mg : Str → Option Value} {base : Heap} (T : Tx K mg base) : XclOk K "NoOp" ["found"] := xclB_ok (T.says.fact 11 (f := xclB "NoOp" ["found"]) rfl)
theorem si_NoOp : FnScope ["self", "found"] ["self", "found"] (defScope (ini 8)) := ⟨rfl, rfl, rfl, by decide +kernel, rfl, by decide +kernel, by decide +kernel⟩
theorem m_int {K : PySem.W.Frag} {mg : Str → Option Value} {base : Heap} (T : Tx K mg base) : mg "int" = none := He.free_ok (x := "int") T.inn T.g (T.says.fact 12 (f := fun K => (He.Fa.free "int").ok K) rfl)
theorem m_bool {K : PySem.W.Frag} {mg : Str → Option Value} {base : Heap} (T : Tx K mg base) : mg "bool" = none := He.free_ok (x := "bool") T.inn T.g (T.says.fact 13 (f := fun K => (He.Fa.free "bool").ok K) rfl)
theorem c_MOST_WIDTH {K : PySem.W.Frag} {mg : Str → Option Value} {base : Heap} (T : Tx K mg base) : ∃ t, mg "MOST_WIDTH" = some (.int 8 t) := He.int_ok (x := "MOST_WIDTH") T.inn T.g (T.says.fact 14 (f := fun K => (He.Fa.int "MOST_WIDTH" 8).ok K) rfl)
theorem xo_NoWidth {K : PySem.W.Frag} {mg : Str → Option Value} {base : Heap} (T : Tx K mg base) : XclOk K "NoWidth" ["found"] := xclB_ok (T.says.fact 15 (f := xclB "NoWidth" ["found"]) rfl)
theorem si_NoWidth : FnScope ["self", "found"] ["self", "found"] (defScope (ini 5)) := ⟨rfl, rfl, rfl, by decide +kernel, rfl, by decide +kernel, by decide +kernel⟩
def l_SINGLE : List D := [.str "not", .str "wide", .str "bit"]
theorem t_SINGLE {K : PySem.W.Frag} {mg : Str → Option Value} {base : Heap} (T : Tx K mg base) : He.tupB K "SINGLE" [.str "not", .str "wide", .str "bit"] = true := T.says.fact 16 (f := fun K => He.tupB K "SINGLE" [.str "not", .str "wide", .str "bit"]) rfl
theorem r_SINGLE {K : PySem.W.Frag} (G : Hp) : reps K G l_SINGLE (([.str "not", .str "wide", .str "bit"] : List He.Dv).map (He.Dv.v K)) := ⟨_, _, rfl, rfl, ⟨_, _, rfl, rfl, ⟨_, _, rfl, rfl, rfl⟩⟩⟩
theorem g_SINGLE {K : PySem.W.Frag} {mg : Str → Option Value} {base : Heap} (T : Tx K mg base) : mg "SINGLE" = some (.ref (He.ga K "SINGLE")) := He.glo_ok (x := "SINGLE") T.inn T.g (T.says.fact 17 (f := fun K => (He.Fa.glo "SINGLE").ok K) rfl)
theorem m_list {K : PySem.W.Frag} {mg : Str → Option Value} {base : Heap} (T : Tx K mg base) : mg "list" = none := He.free_ok (x := "list") T.inn T.g (T.says.fact 18 (f := fun K => (He.Fa.free "list").ok K) rfl)
theorem xo_NoWorths {K : PySem.W.Frag} {mg : Str → Option Value} {base : Heap} (T : Tx K mg base) : XclOk K "NoWorths" ["found"] := xclB_ok (T.says.fact 19 (f := xclB "NoWorths" ["found"]) rfl)
theorem si_NoWorths : FnScope ["self", "found"] ["self", "found"] (defScope (ini 6)) := ⟨rfl, rfl, rfl, by decide +kernel, rfl, by decide +kernel, by decide +kernel⟩
theorem c_MOST_ROW {K : PySem.W.Frag} {mg : Str → Option Value} {base : Heap} (T : Tx K mg base) : ∃ t, mg "MOST_ROW" = some (.int 4 t) := He.int_ok (x := "MOST_ROW") T.inn T.g (T.says.fact 20 (f := fun K => (He.Fa.int "MOST_ROW" 4).ok K) rfl)
theorem xo_NoKind {K : PySem.W.Frag} {mg : Str → Option Value} {base : Heap} (T : Tx K mg base) : XclOk K "NoKind" ["found"] := xclB_ok (T.says.fact 21 (f := xclB "NoKind" ["found"]) rfl)
theorem si_NoKind : FnScope ["self", "found"] ["self", "found"] (defScope (ini 4)) := ⟨rfl, rfl, rfl, by decide +kernel, rfl, by decide +kernel, by decide +kernel⟩
theorem m_all {K : PySem.W.Frag} {mg : Str → Option Value} {base : Heap} (T : Tx K mg base) : mg "all" = none := He.free_ok (x := "all") T.inn T.g (T.says.fact 22 (f := fun K => (He.Fa.free "all").ok K) rfl)
theorem xo_NoNumber {K : PySem.W.Frag} {mg : Str → Option Value} {base : Heap} (T : Tx K mg base) : XclOk K "NoNumber" ["found"] := xclB_ok (T.says.fact 23 (f := xclB "NoNumber" ["found"]) rfl)
theorem si_NoNumber : FnScope ["self", "found"] ["self", "found"] (defScope (ini 7)) := ⟨rfl, rfl, rfl, by decide +kernel, rfl, by decide +kernel, by decide +kernel⟩
theorem g_NoNumber {K : PySem.W.Frag} {mg : Str → Option Value} {base : Heap} (T : Tx K mg base) : mg "NoNumber" = some (.ref (He.ga K "NoNumber")) := He.glo_ok (x := "NoNumber") T.inn T.g (T.says.fact 24 (f := fun K => (He.Fa.glo "NoNumber").ok K) rfl)
theorem g_NoWorths {K : PySem.W.Frag} {mg : Str → Option Value} {base : Heap} (T : Tx K mg base) : mg "NoWorths" = some (.ref (He.ga K "NoWorths")) := He.glo_ok (x := "NoWorths") T.inn T.g (T.says.fact 25 (f := fun K => (He.Fa.glo "NoWorths").ok K) rfl)
theorem g_NoWidth {K : PySem.W.Frag} {mg : Str → Option Value} {base : Heap} (T : Tx K mg base) : mg "NoWidth" = some (.ref (He.ga K "NoWidth")) := He.glo_ok (x := "NoWidth") T.inn T.g (T.says.fact 26 (f := fun K => (He.Fa.glo "NoWidth").ok K) rfl)
theorem g_NoOp {K : PySem.W.Frag} {mg : Str → Option Value} {base : Heap} (T : Tx K mg base) : mg "NoOp" = some (.ref (He.ga K "NoOp")) := He.glo_ok (x := "NoOp") T.inn T.g (T.says.fact 27 (f := fun K => (He.Fa.glo "NoOp").ok K) rfl)
theorem m_enumerate {K : PySem.W.Frag} {mg : Str → Option Value} {base : Heap} (T : Tx K mg base) : mg "enumerate" = none := He.free_ok (x := "enumerate") T.inn T.g (T.says.fact 28 (f := fun K => (He.Fa.free "enumerate").ok K) rfl)
theorem m_sum {K : PySem.W.Frag} {mg : Str → Option Value} {base : Heap} (T : Tx K mg base) : mg "sum" = none := He.free_ok (x := "sum") T.inn T.g (T.says.fact 29 (f := fun K => (He.Fa.free "sum").ok K) rfl)
theorem m_zip {K : PySem.W.Frag} {mg : Str → Option Value} {base : Heap} (T : Tx K mg base) : mg "zip" = none := He.free_ok (x := "zip") T.inn T.g (T.says.fact 30 (f := fun K => (He.Fa.free "zip").ok K) rfl)
theorem g_NoKind {K : PySem.W.Frag} {mg : Str → Option Value} {base : Heap} (T : Tx K mg base) : mg "NoKind" = some (.ref (He.ga K "NoKind")) := He.glo_ok (x := "NoKind") T.inn T.g (T.says.fact 31 (f := fun K => (He.Fa.glo "NoKind").ok K) rfl)
theorem g__law_purse {K : PySem.W.Frag} {mg : Str → Option Value} {base : Heap} (T : Tx K mg base) : mg "_law_purse" = some (.ref (He.ga K "_law_purse")) := He.glo_ok (x := "_law_purse") T.inn T.g (T.says.fact 33 (f := fun K => (He.Fa.glo "_law_purse").ok K) rfl)
theorem g__law_cell {K : PySem.W.Frag} {mg : Str → Option Value} {base : Heap} (T : Tx K mg base) : mg "_law_cell" = some (.ref (He.ga K "_law_cell")) := He.glo_ok (x := "_law_cell") T.inn T.g (T.says.fact 34 (f := fun K => (He.Fa.glo "_law_cell").ok K) rfl)
theorem g__law_take {K : PySem.W.Frag} {mg : Str → Option Value} {base : Heap} (T : Tx K mg base) : mg "_law_take" = some (.ref (He.ga K "_law_take")) := He.glo_ok (x := "_law_take") T.inn T.g (T.says.fact 35 (f := fun K => (He.Fa.glo "_law_take").ok K) rfl)
theorem g__law_worth {K : PySem.W.Frag} {mg : Str → Option Value} {base : Heap} (T : Tx K mg base) : mg "_law_worth" = some (.ref (He.ga K "_law_worth")) := He.glo_ok (x := "_law_worth") T.inn T.g (T.says.fact 36 (f := fun K => (He.Fa.glo "_law_worth").ok K) rfl)
theorem g_is_whole {K : PySem.W.Frag} {mg : Str → Option Value} {base : Heap} (T : Tx K mg base) : mg "is_whole" = some (.ref (He.ga K "is_whole")) := He.glo_ok (x := "is_whole") T.inn T.g (T.says.fact 37 (f := fun K => (He.Fa.glo "is_whole").ok K) rfl)
theorem g_is_width {K : PySem.W.Frag} {mg : Str → Option Value} {base : Heap} (T : Tx K mg base) : mg "is_width" = some (.ref (He.ga K "is_width")) := He.glo_ok (x := "is_width") T.inn T.g (T.says.fact 38 (f := fun K => (He.Fa.glo "is_width").ok K) rfl)
theorem g_is_kind {K : PySem.W.Frag} {mg : Str → Option Value} {base : Heap} (T : Tx K mg base) : mg "is_kind" = some (.ref (He.ga K "is_kind")) := He.glo_ok (x := "is_kind") T.inn T.g (T.says.fact 39 (f := fun K => (He.Fa.glo "is_kind").ok K) rfl)
theorem g_is_worth {K : PySem.W.Frag} {mg : Str → Option Value} {base : Heap} (T : Tx K mg base) : mg "is_worth" = some (.ref (He.ga K "is_worth")) := He.glo_ok (x := "is_worth") T.inn T.g (T.says.fact 40 (f := fun K => (He.Fa.glo "is_worth").ok K) rfl)
theorem g_reckoned_single {K : PySem.W.Frag} {mg : Str → Option Value} {base : Heap} (T : Tx K mg base) : mg "reckoned_single" = some (.ref (He.ga K "reckoned_single")) := He.glo_ok (x := "reckoned_single") T.inn T.g (T.says.fact 41 (f := fun K => (He.Fa.glo "reckoned_single").ok K) rfl)
theorem g_reckoned_two {K : PySem.W.Frag} {mg : Str → Option Value} {base : Heap} (T : Tx K mg base) : mg "reckoned_two" = some (.ref (He.ga K "reckoned_two")) := He.glo_ok (x := "reckoned_two") T.inn T.g (T.says.fact 42 (f := fun K => (He.Fa.glo "reckoned_two").ok K) rfl)
theorem g_reckoned {K : PySem.W.Frag} {mg : Str → Option Value} {base : Heap} (T : Tx K mg base) : mg "reckoned" = some (.ref (He.ga K "reckoned")) := He.glo_ok (x := "reckoned") T.inn T.g (T.says.fact 43 (f := fun K => (He.Fa.glo "reckoned").ok K) rfl)
theorem g__law_asked {K : PySem.W.Frag} {mg : Str → Option Value} {base : Heap} (T : Tx K mg base) : mg "_law_asked" = some (.ref (He.ga K "_law_asked")) := He.glo_ok (x := "_law_asked") T.inn T.g (T.says.fact 44 (f := fun K => (He.Fa.glo "_law_asked").ok K) rfl)
theorem g__law_bits {K : PySem.W.Frag} {mg : Str → Option Value} {base : Heap} (T : Tx K mg base) : mg "_law_bits" = some (.ref (He.ga K "_law_bits")) := He.glo_ok (x := "_law_bits") T.inn T.g (T.says.fact 45 (f := fun K => (He.Fa.glo "_law_bits").ok K) rfl)
theorem g__law_made {K : PySem.W.Frag} {mg : Str → Option Value} {base : Heap} (T : Tx K mg base) : mg "_law_made" = some (.ref (He.ga K "_law_made")) := He.glo_ok (x := "_law_made") T.inn T.g (T.says.fact 46 (f := fun K => (He.Fa.glo "_law_made").ok K) rfl)
theorem g__law_carried {K : PySem.W.Frag} {mg : Str → Option Value} {base : Heap} (T : Tx K mg base) : mg "_law_carried" = some (.ref (He.ga K "_law_carried")) := He.glo_ok (x := "_law_carried") T.inn T.g (T.says.fact 47 (f := fun K => (He.Fa.glo "_law_carried").ok K) rfl)
theorem g__law_due {K : PySem.W.Frag} {mg : Str → Option Value} {base : Heap} (T : Tx K mg base) : mg "_law_due" = some (.ref (He.ga K "_law_due")) := He.glo_ok (x := "_law_due") T.inn T.g (T.says.fact 48 (f := fun K => (He.Fa.glo "_law_due").ok K) rfl)
theorem g__law_refused_right {K : PySem.W.Frag} {mg : Str → Option Value} {base : Heap} (T : Tx K mg base) : mg "_law_refused_right" = some (.ref (He.ga K "_law_refused_right")) := He.glo_ok (x := "_law_refused_right") T.inn T.g (T.says.fact 49 (f := fun K => (He.Fa.glo "_law_refused_right").ok K) rfl)
theorem g_law {K : PySem.W.Frag} {mg : Str → Option Value} {base : Heap} (T : Tx K mg base) : mg "law" = some (.ref (He.ga K "law")) := He.glo_ok (x := "law") T.inn T.g (T.says.fact 50 (f := fun K => (He.Fa.glo "law").ok K) rfl)
def a_SINGLE : List A := [.str "not", .str "wide", .str "bit"]
theorem rl_SINGLE (K : PySem.W.Frag) (ρ : List Addr) : relA K ρ (.tup a_SINGLE) (.tup l_SINGLE) := ⟨_, rfl, ⟨_, _, rfl, rfl, ⟨_, _, rfl, rfl, ⟨_, _, rfl, rfl, rfl⟩⟩⟩⟩
def a_WORDS : List A := [.str "not", .str "and", .str "or", .str "xor", .str "add", .str "sub", .str "less", .str "same", .str "wide", .str "bit"]
theorem rl_WORDS (K : PySem.W.Frag) (ρ : List Addr) : relA K ρ (.tup a_WORDS) (.tup l_WORDS) := ⟨_, rfl, ⟨_, _, rfl, rfl, ⟨_, _, rfl, rfl, ⟨_, _, rfl, rfl, ⟨_, _, rfl, rfl, ⟨_, _, rfl, rfl, ⟨_, _, rfl, rfl, ⟨_, _, rfl, rfl, ⟨_, _, rfl, rfl, ⟨_, _, rfl, rfl, ⟨_, _, rfl, rfl, rfl⟩⟩⟩⟩⟩⟩⟩⟩⟩⟩⟩
theorem xc_NoOp {P : Program} {w : World} {K : PySem.W.Frag} {mg : Str → Option Value} {base : Heap} (T : Tx K mg base) {X : Cx} (hP : X.prog = P) (hw : X.w = w) (hK : X.K = K) (hm : X.mg = mg) (hb : X.base = base) : Xcl X "NoOp" (He.ga K "NoOp") 1 ["found"] := by
  subst hP hw hK hm hb
  have O := xo_NoOp T
  obtain ⟨fd, F⟩ := T.says.defs.def_ 0 (d := d_NoOp__init__) rfl
  have F' : FunD X.K "__init__" "NoOp.__init__" (defArgs (ini 8)) (defBody (ini 8)) (defScope (ini 8)) [] [] (He.fAd X.K ("NoOp", some "__init__")) fd := F
  exact ⟨O.o, PySem.W.mg_of T.inn T.g O.glo, ⟨_, fd, _, O.init, O.fn, F'.bindsN (ps := ["self", "found"]) fun _ _ _ _ _ _ us hl => (match us, hl with | [_, _], _ => rfl), init1_ok F' si_NoOp O.o (O.no "found" (by simp)) (by decide) (by decide)⟩⟩
theorem xc_NoWidth {P : Program} {w : World} {K : PySem.W.Frag} {mg : Str → Option Value} {base : Heap} (T : Tx K mg base) {X : Cx} (hP : X.prog = P) (hw : X.w = w) (hK : X.K = K) (hm : X.mg = mg) (hb : X.base = base) : Xcl X "NoWidth" (He.ga K "NoWidth") 1 ["found"] := by
  subst hP hw hK hm hb
  have O := xo_NoWidth T
  obtain ⟨fd, F⟩ := T.says.defs.def_ 1 (d := d_NoWidth__init__) rfl
  have F' : FunD X.K "__init__" "NoWidth.__init__" (defArgs (ini 5)) (defBody (ini 5)) (defScope (ini 5)) [] [] (He.fAd X.K ("NoWidth", some "__init__")) fd := F
  exact ⟨O.o, PySem.W.mg_of T.inn T.g O.glo, ⟨_, fd, _, O.init, O.fn, F'.bindsN (ps := ["self", "found"]) fun _ _ _ _ _ _ us hl => (match us, hl with | [_, _], _ => rfl), init1_ok F' si_NoWidth O.o (O.no "found" (by simp)) (by decide) (by decide)⟩⟩
theorem xc_NoWorths {P : Program} {w : World} {K : PySem.W.Frag} {mg : Str → Option Value} {base : Heap} (T : Tx K mg base) {X : Cx} (hP : X.prog = P) (hw : X.w = w) (hK : X.K = K) (hm : X.mg = mg) (hb : X.base = base) : Xcl X "NoWorths" (He.ga K "NoWorths") 1 ["found"] := by
  subst hP hw hK hm hb
  have O := xo_NoWorths T
  obtain ⟨fd, F⟩ := T.says.defs.def_ 2 (d := d_NoWorths__init__) rfl
  have F' : FunD X.K "__init__" "NoWorths.__init__" (defArgs (ini 6)) (defBody (ini 6)) (defScope (ini 6)) [] [] (He.fAd X.K ("NoWorths", some "__init__")) fd := F
  exact ⟨O.o, PySem.W.mg_of T.inn T.g O.glo, ⟨_, fd, _, O.init, O.fn, F'.bindsN (ps := ["self", "found"]) fun _ _ _ _ _ _ us hl => (match us, hl with | [_, _], _ => rfl), init1_ok F' si_NoWorths O.o (O.no "found" (by simp)) (by decide) (by decide)⟩⟩
theorem xc_NoKind {P : Program} {w : World} {K : PySem.W.Frag} {mg : Str → Option Value} {base : Heap} (T : Tx K mg base) {X : Cx} (hP : X.prog = P) (hw : X.w = w) (hK : X.K = K) (hm : X.mg = mg) (hb : X.base = base) : Xcl X "NoKind" (He.ga K "NoKind") 1 ["found"] := by
  subst hP hw hK hm hb
  have O := xo_NoKind T
  obtain ⟨fd, F⟩ := T.says.defs.def_ 3 (d := d_NoKind__init__) rfl
  have F' : FunD X.K "__init__" "NoKind.__init__" (defArgs (ini 4)) (defBody (ini 4)) (defScope (ini 4)) [] [] (He.fAd X.K ("NoKind", some "__init__")) fd := F
  exact ⟨O.o, PySem.W.mg_of T.inn T.g O.glo, ⟨_, fd, _, O.init, O.fn, F'.bindsN (ps := ["self", "found"]) fun _ _ _ _ _ _ us hl => (match us, hl with | [_, _], _ => rfl), init1_ok F' si_NoKind O.o (O.no "found" (by simp)) (by decide) (by decide)⟩⟩
theorem xc_NoNumber {P : Program} {w : World} {K : PySem.W.Frag} {mg : Str → Option Value} {base : Heap} (T : Tx K mg base) {X : Cx} (hP : X.prog = P) (hw : X.w = w) (hK : X.K = K) (hm : X.mg = mg) (hb : X.base = base) : Xcl X "NoNumber" (He.ga K "NoNumber") 1 ["found"] := by
  subst hP hw hK hm hb
  have O := xo_NoNumber T
  obtain ⟨fd, F⟩ := T.says.defs.def_ 4 (d := d_NoNumber__init__) rfl
  have F' : FunD X.K "__init__" "NoNumber.__init__" (defArgs (ini 7)) (defBody (ini 7)) (defScope (ini 7)) [] [] (He.fAd X.K ("NoNumber", some "__init__")) fd := F
  exact ⟨O.o, PySem.W.mg_of T.inn T.g O.glo, ⟨_, fd, _, O.init, O.fn, F'.bindsN (ps := ["self", "found"]) fun _ _ _ _ _ _ us hl => (match us, hl with | [_, _], _ => rfl), init1_ok F' si_NoNumber O.o (O.no "found" (by simp)) (by decide) (by decide)⟩⟩
/-! _law_purse: 0 cell -/
theorem sc__law_purse : FnScope ["cell"] ["cell"] (defScope (top 23)) := ⟨rfl, rfl, rfl, by decide +kernel, rfl, by decide +kernel, by decide +kernel⟩
def f__law_purse (K : PySem.W.Frag) : SF := sRet (dLst (dCons (dCB gMax2 (dCons (dC (.int 0)) (dOne (dOp oSub (dVar 0) (dOp oPow (dC (.int 10)) (dC (.int 18))))))) (dCons (dOp oMod (dVar 0) (dC (.int 2147483629))) (dCons (dC (.int 0)) (dNil)))))
def F__law_purse (K : PySem.W.Frag) : FD := bodyF ["cell"] (f__law_purse K)
def q__law_purse : FS := qRet (pNew (vLst (pCons (pCB aMax2 (pCons (pC (.int 0)) (pCons (pOp aSub (pVar 0) (pOp aPow (pC (.int 10)) (pC (.int 18)))) pNil))) (pCons (pOp aMod (pVar 0) (pC (.int 2147483629))) (pCons (pC (.int 0)) (pNil))))))
def p__law_purse : FF := bodyA 1 q__law_purse
theorem k__law_purse {P : Program} {w : World} {K : PySem.W.Frag} {mg : Str → Option Value} {base : Heap} (T : Tx K mg base) : DefG P w K mg base "_law_purse" 1 (top 23) ["cell"] (F__law_purse K) := by
  obtain ⟨fd, FF⟩ := T.says.defs.def_ 5 (d := d__law_purse) rfl
  have FF' : FunD K "_law_purse" "_law_purse" (defArgs (top 23)) (defBody (top 23)) (defScope (top 23)) [] [] (He.ga K "_law_purse") fd := FF
  refine ⟨_, fd, g__law_purse T, FF', FF'.bindsN fun _ _ _ _ _ _ us hl => (match us, hl with | [_], _ => rfl), dfn_of FF' sc__law_purse fun cdv A outer s H E go => ?_⟩
  exact ds_one (s_ret (d_lst (da_cons (d_max2 rfl (m_max T) (d_int) (d_sub (d_var 0) (d_pow (d_int) (d_int)))) (da_cons (d_mod (d_var 0) (d_int)) (da_cons (d_int) (da_nil))))))
/-! _law_cell: 0 script, 1 k -/
theorem sc__law_cell : FnScope ["script", "k"] ["script", "k"] (defScope (top 22)) := ⟨rfl, rfl, rfl, by decide +kernel, rfl, by decide +kernel, by decide +kernel⟩
def f__law_cell (K : PySem.W.Frag) : SF := sSeq (sIf (dVal (dOp (oLt) (dVar 1) (dCB gLen (dOne (dVar 0))))) (sRet (dOp gIx (dVar 0) (dVar 1))) (sNext))
  (sRet (dOp oAdd (dOp oMul (dC (.int 6133)) (dVar 1)) (dC (.int 41))))
def F__law_cell (K : PySem.W.Frag) : FD := bodyF ["script", "k"] (f__law_cell K)
def q__law_cell : FS := qSeq (qIf (pVal (pOp (aLt) (pVar 1) (pCB aLen (pCons (pVar 0) pNil)))) (qRet (pOp aIx (pVar 0) (pVar 1))) (qNext))
  (qRet (pOp aAdd (pOp aMul (pC (.int 6133)) (pVar 1)) (pC (.int 41))))
def p__law_cell : FF := bodyA 2 q__law_cell
theorem k__law_cell {P : Program} {w : World} {K : PySem.W.Frag} {mg : Str → Option Value} {base : Heap} (T : Tx K mg base) : DefG P w K mg base "_law_cell" 1 (top 22) ["script", "k"] (F__law_cell K) := by
  obtain ⟨fd, FF⟩ := T.says.defs.def_ 6 (d := d__law_cell) rfl
  have FF' : FunD K "_law_cell" "_law_cell" (defArgs (top 22)) (defBody (top 22)) (defScope (top 22)) [] [] (He.ga K "_law_cell") fd := FF
  refine ⟨_, fd, g__law_cell T, FF', FF'.bindsN fun _ _ _ _ _ _ us hl => (match us, hl with | [_, _], _ => rfl), dfn_of FF' sc__law_cell fun cdv A outer s H E go => ?_⟩
  exact ds_cons (s_if (dt_lt (d_var 1) (d_len (m_len T) (d_var 0))) (ds_one (s_ret (d_ix (d_var 0) (d_var 1)))) (ds_nil))
    (ds_one (s_ret (d_add (d_mul (d_int) (d_var 1)) (d_int))))
/-! _law_take: 0 purse, 1 many, 2 digit, 3 one, 4 other -/
theorem sc__law_take : FnScope ["purse", "many", "digit", "one", "other"] ["purse", "many"] (defScope (top 24)) := ⟨rfl, rfl, rfl, by decide +kernel, rfl, by decide +kernel, by decide +kernel⟩
def f__law_take (K : PySem.W.Frag) : SF := sSeq (sIf (dVal (dOp (oGt) (dOp gIx (dVar 0) (dC (.int 0))) (dC (.int 0)))) (sSeq (sAsg (dOp oMod (dOp gIx (dVar 0) (dC (.int 0))) (dVar 1)) (gNm 2))
  (sSeq (sAsg (dOp oDiv (dOp gIx (dVar 0) (dC (.int 0))) (dVar 1)) (gSubD (dVar 0) (dC (.int 0))))
  (sRet (dVar 2)))) (sNext))
  (sSeq (sAsg (dOp oAdd (dOp gIx (dVar 0) (dC (.int 2))) (dC (.int 1))) (gSubD (dVar 0) (dC (.int 2))))
  (sSeq (sAsg (dOp oMod (dOp oPow (dOp oAdd (dOp oAdd (dOp gIx (dVar 0) (dC (.int 1))) (dOp oMul (dC (.int 6007)) (dOp gIx (dVar 0) (dC (.int 2))))) (dC (.int 29))) (dC (.int 5))) (dC (.int 2147483647))) (gNm 3))
  (sSeq (sAsg (dOp oMod (dOp oPow (dOp oAdd (dOp oMul (dOp gIx (dVar 0) (dC (.int 1))) (dOp gIx (dVar 0) (dC (.int 2)))) (dC (.int 91193))) (dC (.int 3))) (dC (.int 2147483587))) (gNm 4))
  (sRet (dOp oMod (dOp oDiv (dOp oAdd (dOp oMul (dVar 3) (dC (.int 2147483587))) (dVar 4)) (dC (.int 8))) (dVar 1))))))
def F__law_take (K : PySem.W.Frag) : FD := bodyF ["purse", "many", "digit", "one", "other"] (f__law_take K)
def q__law_take : FS := qSeq (qIf (pVal (pOp (aGt) (pOp aIx (pVar 0) (pC (.int 0))) (pC (.int 0)))) (qSeq (qAsg (pOp aMod (pOp aIx (pVar 0) (pC (.int 0))) (pVar 1)) (tNm 2))
  (qSeq (qStore (pOp aDiv (pOp aIx (pVar 0) (pC (.int 0))) (pVar 1)) (pVar 0) (pC (.int 0)))
  (qRet (pVar 2)))) (qNext))
  (qSeq (qStore (pOp aAdd (pOp aIx (pVar 0) (pC (.int 2))) (pC (.int 1))) (pVar 0) (pC (.int 2)))
  (qSeq (qAsg (pOp aMod (pOp aPow (pOp aAdd (pOp aAdd (pOp aIx (pVar 0) (pC (.int 1))) (pOp aMul (pC (.int 6007)) (pOp aIx (pVar 0) (pC (.int 2))))) (pC (.int 29))) (pC (.int 5))) (pC (.int 2147483647))) (tNm 3))
  (qSeq (qAsg (pOp aMod (pOp aPow (pOp aAdd (pOp aMul (pOp aIx (pVar 0) (pC (.int 1))) (pOp aIx (pVar 0) (pC (.int 2)))) (pC (.int 91193))) (pC (.int 3))) (pC (.int 2147483587))) (tNm 4))
  (qRet (pOp aMod (pOp aDiv (pOp aAdd (pOp aMul (pVar 3) (pC (.int 2147483587))) (pVar 4)) (pC (.int 8))) (pVar 1))))))
def p__law_take : FF := bodyA 5 q__law_take
theorem k__law_take {P : Program} {w : World} {K : PySem.W.Frag} {mg : Str → Option Value} {base : Heap} (T : Tx K mg base) : DefG P w K mg base "_law_take" 1 (top 24) ["purse", "many"] (F__law_take K) := by
  obtain ⟨fd, FF⟩ := T.says.defs.def_ 7 (d := d__law_take) rfl
  have FF' : FunD K "_law_take" "_law_take" (defArgs (top 24)) (defBody (top 24)) (defScope (top 24)) [] [] (He.ga K "_law_take") fd := FF
  refine ⟨_, fd, g__law_take T, FF', FF'.bindsN fun _ _ _ _ _ _ us hl => (match us, hl with | [_, _], _ => rfl), dfn_of FF' sc__law_take fun cdv A outer s H E go => ?_⟩
  exact ds_cons (s_if (dt_gt (d_ix (d_var 0) (d_int)) (d_int)) (ds_cons (s_set 2 (d_mod (d_ix (d_var 0) (d_int)) (d_var 1)) sc__law_take.nd)
    (ds_cons (s_asg (d_div (d_ix (d_var 0) (d_int)) (d_var 1)) (g_sub (d_var 0) (d_int)))
    (ds_one (s_ret (d_var 2))))) (ds_nil))
    (ds_cons (s_asg (d_add (d_ix (d_var 0) (d_int)) (d_int)) (g_sub (d_var 0) (d_int)))
    (ds_cons (s_set 3 (d_mod (d_pow (d_add (d_add (d_ix (d_var 0) (d_int)) (d_mul (d_int) (d_ix (d_var 0) (d_int)))) (d_int)) (d_int)) (d_int)) sc__law_take.nd)
    (ds_cons (s_set 4 (d_mod (d_pow (d_add (d_mul (d_ix (d_var 0) (d_int)) (d_ix (d_var 0) (d_int))) (d_int)) (d_int)) (d_int)) sc__law_take.nd)
    (ds_one (s_ret (d_mod (d_div (d_add (d_mul (d_var 3) (d_int)) (d_var 4)) (d_int)) (d_var 1)))))))
/-! _law_worth: 0 purse, 1 width -/
theorem sc__law_worth : FnScope ["purse", "width"] ["purse", "width"] (defScope (top 31)) := ⟨rfl, rfl, rfl, by decide +kernel, rfl, by decide +kernel, by decide +kernel⟩
def f__law_worth (K : PySem.W.Frag) : SF := sRet (dOp gIx (dLstF (dCons (dC (.int 0)) (dCons (dOp oSub (dOp oShl (dC (.int 1)) (dVar 1)) (dC (.int 1))) (dCons (dCall (F__law_take K) (dCons (dVar 0) (dCons (dOp oShl (dC (.int 1)) (dVar 1)) (dNil)))) (dNil))))) (dCall (F__law_take K) (dCons (dVar 0) (dCons (dC (.int 3)) (dNil)))))
def F__law_worth (K : PySem.W.Frag) : FD := bodyF ["purse", "width"] (f__law_worth K)
def q__law_worth : FS := qRet (pOp aIx (pLstF (pCons (pC (.int 0)) (pCons (pOp aSub (pOp aShl (pC (.int 1)) (pVar 1)) (pC (.int 1))) (pCons (pCall p__law_take (pCons (pVar 0) (pCons (pOp aShl (pC (.int 1)) (pVar 1)) (pNil)))) (pNil))))) (pCall p__law_take (pCons (pVar 0) (pCons (pC (.int 3)) (pNil)))))
def p__law_worth : FF := bodyA 2 q__law_worth
theorem k__law_worth {P : Program} {w : World} {K : PySem.W.Frag} {mg : Str → Option Value} {base : Heap} (T : Tx K mg base) : DefG P w K mg base "_law_worth" 2 (top 31) ["purse", "width"] (F__law_worth K) := by
  obtain ⟨fd, FF⟩ := T.says.defs.def_ 8 (d := d__law_worth) rfl
  have FF' : FunD K "_law_worth" "_law_worth" (defArgs (top 31)) (defBody (top 31)) (defScope (top 31)) [] [] (He.ga K "_law_worth") fd := FF
  refine ⟨_, fd, g__law_worth T, FF', FF'.bindsN fun _ _ _ _ _ _ us hl => (match us, hl with | [_, _], _ => rfl), dfn_of FF' sc__law_worth fun cdv A outer s H E go => ?_⟩
  exact ds_one (s_ret (d_ix (d_lstF (da_cons (d_int) (da_cons (d_sub (d_shl (d_int) (d_var 1)) (d_int)) (da_cons (d_callG (k__law_take T) (go.room.mono (by decide)) go.gd takes_cx (da_cons (d_var 0) (da_cons (d_shl (d_int) (d_var 1)) (da_nil)))) (da_nil))))) (d_callG (k__law_take T) (go.room.mono (by decide)) go.gd takes_cx (da_cons (d_var 0) (da_cons (d_int) (da_nil))))))
/-! is_whole: 0 thing, 1 low, 2 high -/
theorem sc_is_whole : FnScope ["thing", "low", "high"] ["thing", "low", "high"] (defScope (top 14)) := ⟨rfl, rfl, rfl, by decide +kernel, rfl, by decide +kernel, by decide +kernel⟩
def f_is_whole (K : PySem.W.Frag) : SF := sRet (dAnd (dCB gIsi (dCons (dVar 0) (dOne (dC (.v (.ty "int")))))) (dAnd (dNot (dCB gIsi (dCons (dVar 0) (dOne (dC (.v (.ty "bool"))))))) (dChain oLe oLe (dVar 1) (dVar 0) (dVar 2))))
def F_is_whole (K : PySem.W.Frag) : FD := bodyF ["thing", "low", "high"] (f_is_whole K)
def q_is_whole : FS := qRet (pAnd (pCB aIsi (pCons (pVar 0) (pCons (pC (.ty "int")) pNil))) (pAnd (pNot (pCB aIsi (pCons (pVar 0) (pCons (pC (.ty "bool")) pNil)))) (pChain aLe aLe (pVar 1) (pVar 0) (pVar 2))))
def p_is_whole : FF := bodyA 3 q_is_whole
theorem k_is_whole {P : Program} {w : World} {K : PySem.W.Frag} {mg : Str → Option Value} {base : Heap} (T : Tx K mg base) : DefG P w K mg base "is_whole" 1 (top 14) ["thing", "low", "high"] (F_is_whole K) := by
  obtain ⟨fd, FF⟩ := T.says.defs.def_ 9 (d := d_is_whole) rfl
  have FF' : FunD K "is_whole" "is_whole" (defArgs (top 14)) (defBody (top 14)) (defScope (top 14)) [] [] (He.ga K "is_whole") fd := FF
  refine ⟨_, fd, g_is_whole T, FF', FF'.bindsN fun _ _ _ _ _ _ us hl => (match us, hl with | [_, _, _], _ => rfl), dfn_of FF' sc_is_whole fun cdv A outer s H E go => ?_⟩
  exact ds_one (s_ret (d_andV (d_isi (m_isinstance T) (m_int T) rfl (d_var 0)) (d_andV (d_notV (d_isi (m_isinstance T) (m_bool T) rfl (d_var 0))) (d_one (d_leLe (d_var 1) (d_var 0) (d_var 2))))))
/-! is_width: 0 thing -/
theorem sc_is_width : FnScope ["thing"] ["thing"] (defScope (top 15)) := ⟨rfl, rfl, rfl, by decide +kernel, rfl, by decide +kernel, by decide +kernel⟩
def f_is_width (K : PySem.W.Frag) : SF := sRet (dCall (F_is_whole K) (dCons (dVar 0) (dCons (dC (.int 1)) (dCons (dC (.int 8)) (dNil)))))
def F_is_width (K : PySem.W.Frag) : FD := bodyF ["thing"] (f_is_width K)
def q_is_width : FS := qRet (pCall p_is_whole (pCons (pVar 0) (pCons (pC (.int 1)) (pCons (pC (.int 8)) (pNil)))))
def p_is_width : FF := bodyA 1 q_is_width
theorem k_is_width {P : Program} {w : World} {K : PySem.W.Frag} {mg : Str → Option Value} {base : Heap} (T : Tx K mg base) : DefG P w K mg base "is_width" 2 (top 15) ["thing"] (F_is_width K) := by
  obtain ⟨fd, FF⟩ := T.says.defs.def_ 10 (d := d_is_width) rfl
  have FF' : FunD K "is_width" "is_width" (defArgs (top 15)) (defBody (top 15)) (defScope (top 15)) [] [] (He.ga K "is_width") fd := FF
  refine ⟨_, fd, g_is_width T, FF', FF'.bindsN fun _ _ _ _ _ _ us hl => (match us, hl with | [_], _ => rfl), dfn_of FF' sc_is_width fun cdv A outer s H E go => ?_⟩
  exact ds_one (s_ret (d_callG (k_is_whole T) (go.room.mono (by decide)) go.gd takes_cx (da_cons (d_var 0) (da_cons (d_int) (da_cons (d_gint (c_MOST_WIDTH T)) (da_nil))))))
/-! is_kind: 0 thing -/
theorem sc_is_kind : FnScope ["thing"] ["thing"] (defScope (top 16)) := ⟨rfl, rfl, rfl, by decide +kernel, rfl, by decide +kernel, by decide +kernel⟩
def f_is_kind (K : PySem.W.Frag) : SF := sSeq (sIf (dNotT (dVal (dCB gIsi (dCons (dVar 0) (dOne (dC (.v (.ty "tuple")))))))) (sRet (dCall (F_is_width K) (dCons (dVar 0) (dNil)))) (sNext))
  (sRet (dAnd (dOp (gE false) (dCB gLen (dOne (dVar 0))) (dC (.int 2))) (dAnd (dCall (F_is_whole K) (dCons (dOp gIx (dVar 0) (dC (.int 0))) (dCons (dC (.int 2)) (dCons (dC (.int 4)) (dNil))))) (dCall (F_is_width K) (dCons (dOp gIx (dVar 0) (dC (.int 1))) (dNil))))))
def F_is_kind (K : PySem.W.Frag) : FD := bodyF ["thing"] (f_is_kind K)
def q_is_kind : FS := qSeq (qIf (pNotT (pVal (pCB aIsi (pCons (pVar 0) (pCons (pC (.ty "tuple")) pNil))))) (qRet (pCall p_is_width (pCons (pVar 0) (pNil)))) (qNext))
  (qRet (pAnd (pOp (aEq false) (pCB aLen (pCons (pVar 0) pNil)) (pC (.int 2))) (pAnd (pCall p_is_whole (pCons (pOp aIx (pVar 0) (pC (.int 0))) (pCons (pC (.int 2)) (pCons (pC (.int 4)) (pNil))))) (pCall p_is_width (pCons (pOp aIx (pVar 0) (pC (.int 1))) (pNil))))))
def p_is_kind : FF := bodyA 1 q_is_kind
theorem k_is_kind {P : Program} {w : World} {K : PySem.W.Frag} {mg : Str → Option Value} {base : Heap} (T : Tx K mg base) : DefG P w K mg base "is_kind" 3 (top 16) ["thing"] (F_is_kind K) := by
  obtain ⟨fd, FF⟩ := T.says.defs.def_ 11 (d := d_is_kind) rfl
  have FF' : FunD K "is_kind" "is_kind" (defArgs (top 16)) (defBody (top 16)) (defScope (top 16)) [] [] (He.ga K "is_kind") fd := FF
  refine ⟨_, fd, g_is_kind T, FF', FF'.bindsN fun _ _ _ _ _ _ us hl => (match us, hl with | [_], _ => rfl), dfn_of FF' sc_is_kind fun cdv A outer s H E go => ?_⟩
  exact ds_cons (s_if (dt_not (dt_val (d_isi (m_isinstance T) (m_tuple T) rfl (d_var 0)))) (ds_one (s_ret (d_callG (k_is_width T) (go.room.mono (by decide)) go.gd takes_cx (da_cons (d_var 0) (da_nil))))) (ds_nil))
    (ds_one (s_ret (d_andV (d_eq T.sys go.room (d_len (m_len T) (d_var 0)) (d_int)) (d_andV (d_callG (k_is_whole T) (go.room.mono (by decide)) go.gd takes_cx (da_cons (d_ix (d_var 0) (d_int)) (da_cons (d_int) (da_cons (d_gint (c_MOST_ROW T)) (da_nil))))) (d_one (d_callG (k_is_width T) (go.room.mono (by decide)) go.gd takes_cx (da_cons (d_ix (d_var 0) (d_int)) (da_nil))))))))
/-! is_worth: 0 thing, 1 kind, 2 many, 3 width, 4 one -/
theorem sc_is_worth : FnScope ["thing", "kind", "many", "width", "one"] ["thing", "kind"] (defScope (top 17)) := ⟨rfl, rfl, rfl, by decide +kernel, rfl, by decide +kernel, by decide +kernel⟩
def f_is_worth (K : PySem.W.Frag) : SF := sSeq (sIf (dNotT (dVal (dCall (F_is_kind K) (dCons (dVar 1) (dNil))))) (sRaise (He.ga K "NoKind") ["found"] (dCons (dVar 1) (dNil))) (sNext))
  (sSeq (sIf (dNotT (dVal (dCB gIsi (dCons (dVar 1) (dOne (dC (.v (.ty "tuple")))))))) (sRet (dCall (F_is_whole K) (dCons (dVar 0) (dCons (dC (.int 0)) (dCons (dOp oSub (dOp oShl (dC (.int 1)) (dVar 1)) (dC (.int 1))) (dNil)))))) (sNext))
  (sSeq (sAsg (dVar 1) (gTupD 2 (gsCons (gNm 2) (gsCons (gNm 3) (gsNil)))))
  (sSeq (sIf (dOrT (dNotT (dVal (dCB gIsi (dCons (dVar 0) (dOne (dC (.v (.ty "tuple")))))))) (dVal (dOp (gE true) (dCB gLen (dOne (dVar 0))) (dVar 2)))) (sRet (dC (.bl false))) (sNext))
  (sRet (dCB gAll (dOne (dFrz (dLc (iSq (dVar 0)) (gNm 4) [4] dYes (dCall (F_is_whole K) (dCons (dVar 4) (dCons (dC (.int 0)) (dCons (dOp oSub (dOp oShl (dC (.int 1)) (dVar 3)) (dC (.int 1))) (dNil)))))))))))))
def F_is_worth (K : PySem.W.Frag) : FD := bodyF ["thing", "kind", "many", "width", "one"] (f_is_worth K)
def q_is_worth : FS := qSeq (qIf (pNotT (pVal (pCall p_is_kind (pCons (pVar 1) (pNil))))) (qRaise "NoKind" ["found"] (pCons (pVar 1) (pNil))) (qNext))
  (qSeq (qIf (pNotT (pVal (pCB aIsi (pCons (pVar 1) (pCons (pC (.ty "tuple")) pNil))))) (qRet (pCall p_is_whole (pCons (pVar 0) (pCons (pC (.int 0)) (pCons (pOp aSub (pOp aShl (pC (.int 1)) (pVar 1)) (pC (.int 1))) (pNil)))))) (qNext))
  (qSeq (qAsg (pVar 1) (tTup 2 (tCons (tNm 2) (tCons (tNm 3) (tNil)))))
  (qSeq (qIf (pOrT (pNotT (pVal (pCB aIsi (pCons (pVar 0) (pCons (pC (.ty "tuple")) pNil))))) (pVal (pOp (aEq true) (pCB aLen (pCons (pVar 0) pNil)) (pVar 2)))) (qRet (pC (.bl false))) (qNext))
  (qRet (pCB aAll (pCons (pLstV (pLcV (pISq (pVar 0)) (tNm 4) [4] pYes (pCall p_is_whole (pCons (pVar 4) (pCons (pC (.int 0)) (pCons (pOp aSub (pOp aShl (pC (.int 1)) (pVar 3)) (pC (.int 1))) (pNil))))))) pNil))))))
def p_is_worth : FF := bodyA 5 q_is_worth
theorem k_is_worth {P : Program} {w : World} {K : PySem.W.Frag} {mg : Str → Option Value} {base : Heap} (T : Tx K mg base) : DefG P w K mg base "is_worth" 4 (top 17) ["thing", "kind"] (F_is_worth K) := by
  obtain ⟨fd, FF⟩ := T.says.defs.def_ 12 (d := d_is_worth) rfl
  have FF' : FunD K "is_worth" "is_worth" (defArgs (top 17)) (defBody (top 17)) (defScope (top 17)) [] [] (He.ga K "is_worth") fd := FF
  refine ⟨_, fd, g_is_worth T, FF', FF'.bindsN fun _ _ _ _ _ _ us hl => (match us, hl with | [_, _], _ => rfl), dfn_of FF' sc_is_worth fun cdv A outer s H E go => ?_⟩
  exact ds_cons (s_if (dt_not (dt_val (d_callG (k_is_kind T) (go.room.mono (by decide)) go.gd takes_cx (da_cons (d_var 1) (da_nil))))) (ds_one (s_raise (xc_NoKind T rfl rfl rfl rfl rfl) rfl (go.room.mono (by decide)) takes_cx (da_cons (d_var 1) (da_nil)))) (ds_nil))
    (ds_cons (s_if (dt_not (dt_val (d_isi (m_isinstance T) (m_tuple T) rfl (d_var 1)))) (ds_one (s_ret (d_callG (k_is_whole T) (go.room.mono (by decide)) go.gd takes_cx (da_cons (d_var 0) (da_cons (d_int) (da_cons (d_sub (d_shl (d_int) (d_var 1)) (d_int)) (da_nil))))))) (ds_nil))
    (ds_cons (s_asg (d_var 1) (g_tup rfl (gs_cons (g_name 2 sc_is_worth.nd) (gs_cons (g_name 3 sc_is_worth.nd) (gs_nil))) (n := 2)))
    (ds_cons (s_if (dt_w (dw_or (dt_not (dt_val (d_isi (m_isinstance T) (m_tuple T) rfl (d_var 0)))) (dw_or1 (dt_ne T.sys go.room (d_len (m_len T) (d_var 0)) (d_var 2))))) (ds_one (s_ret (d_bl))) (ds_nil))
    (ds_one (s_ret (d_all rfl (m_all T) (d_frz (d_lc [("one", 4)] (gName 4) rfl sc_is_worth.nd (di_seq (d_var 0)) (by rfl) (fun _ _ _ _ _ => pg_name (i := 4) sc_is_worth.nd rfl (by first | exact Or.inl rfl | exact Or.inr rfl) (by first | exact .inl rfl | exact .inr rfl)) (simg_nm) (only_name (by decide)) (fun _ _ _ _ _ => d_callG (k_is_whole T) (go.room.mono (by decide)) go.gd takes_none5 (da_cons (d_var 4) (da_cons (d_int) (da_cons (d_sub (d_shl (d_int) (d_var 3)) (d_int)) (da_nil)))))))))))))
/-! reckoned_single: 0 word, 1 width, 2 worth, 3 to, 4 at -/
theorem sc_reckoned_single : FnScope ["word", "width", "worth", "to", "at"] ["word", "width", "worth", "to", "at"] (defScope (top 18)) := ⟨rfl, rfl, rfl, by decide +kernel, rfl, by decide +kernel, by decide +kernel⟩
def f_reckoned_single (K : PySem.W.Frag) : SF := sSeq (sIf (dVal (dOp (gE false) (dVar 0) (dC (.str "not")))) (sRet (dOp oSub (dOp oSub (dOp oShl (dC (.int 1)) (dVar 1)) (dC (.int 1))) (dVar 2))) (sNext))
  (sSeq (sIf (dVal (dOp (gE false) (dVar 0) (dC (.str "wide")))) (sRet (dOp oMod (dVar 2) (dOp oShl (dC (.int 1)) (dVar 3)))) (sNext))
  (sRet (dOp oAnd (dOp oShr (dVar 2) (dVar 4)) (dC (.int 1)))))
def F_reckoned_single (K : PySem.W.Frag) : FD := bodyF ["word", "width", "worth", "to", "at"] (f_reckoned_single K)
def q_reckoned_single : FS := qSeq (qIf (pVal (pOp (aEq false) (pVar 0) (pC (.str "not")))) (qRet (pOp aSub (pOp aSub (pOp aShl (pC (.int 1)) (pVar 1)) (pC (.int 1))) (pVar 2))) (qNext))
  (qSeq (qIf (pVal (pOp (aEq false) (pVar 0) (pC (.str "wide")))) (qRet (pOp aMod (pVar 2) (pOp aShl (pC (.int 1)) (pVar 3)))) (qNext))
  (qRet (pOp aAnd (pOp aShr (pVar 2) (pVar 4)) (pC (.int 1)))))
def p_reckoned_single : FF := bodyA 5 q_reckoned_single
theorem k_reckoned_single {P : Program} {w : World} {K : PySem.W.Frag} {mg : Str → Option Value} {base : Heap} (T : Tx K mg base) : DefG P w K mg base "reckoned_single" 1 (top 18) ["word", "width", "worth", "to", "at"] (F_reckoned_single K) := by
  obtain ⟨fd, FF⟩ := T.says.defs.def_ 13 (d := d_reckoned_single) rfl
  have FF' : FunD K "reckoned_single" "reckoned_single" (defArgs (top 18)) (defBody (top 18)) (defScope (top 18)) [] [] (He.ga K "reckoned_single") fd := FF
  refine ⟨_, fd, g_reckoned_single T, FF', FF'.bindsN fun _ _ _ _ _ _ us hl => (match us, hl with | [_, _, _, _, _], _ => rfl), dfn_of FF' sc_reckoned_single fun cdv A outer s H E go => ?_⟩
  exact ds_cons (s_if (dt_eq T.sys go.room (d_var 0) (d_str)) (ds_one (s_ret (d_sub (d_sub (d_shl (d_int) (d_var 1)) (d_int)) (d_var 2)))) (ds_nil))
    (ds_cons (s_if (dt_eq T.sys go.room (d_var 0) (d_str)) (ds_one (s_ret (d_mod (d_var 2) (d_shl (d_int) (d_var 3))))) (ds_nil))
    (ds_one (s_ret (d_and (d_shr (d_var 2) (d_var 4)) (d_int)))))
/-! reckoned_two: 0 word, 1 width, 2 one, 3 other -/
theorem sc_reckoned_two : FnScope ["word", "width", "one", "other"] ["word", "width", "one", "other"] (defScope (top 19)) := ⟨rfl, rfl, rfl, by decide +kernel, rfl, by decide +kernel, by decide +kernel⟩
def f_reckoned_two (K : PySem.W.Frag) : SF := sSeq (sIf (dVal (dOp (gE false) (dVar 0) (dC (.str "and")))) (sRet (dOp oAnd (dVar 2) (dVar 3))) (sNext))
  (sSeq (sIf (dVal (dOp (gE false) (dVar 0) (dC (.str "or")))) (sRet (dOp oOr (dVar 2) (dVar 3))) (sNext))
  (sSeq (sIf (dVal (dOp (gE false) (dVar 0) (dC (.str "xor")))) (sRet (dOp oXor (dVar 2) (dVar 3))) (sNext))
  (sSeq (sIf (dVal (dOp (gE false) (dVar 0) (dC (.str "add")))) (sRet (dOp oMod (dOp oAdd (dVar 2) (dVar 3)) (dOp oShl (dC (.int 1)) (dVar 1)))) (sNext))
  (sSeq (sIf (dVal (dOp (gE false) (dVar 0) (dC (.str "sub")))) (sRet (dOp oMod (dOp oSub (dVar 2) (dVar 3)) (dOp oShl (dC (.int 1)) (dVar 1)))) (sNext))
  (sRet (dIf (dVal (dOp (gE false) (dVar 0) (dC (.str "less")))) (dCB gInt (dOne (dOp (oLt) (dVar 2) (dVar 3)))) (dCB gInt (dOne (dOp (gE false) (dVar 2) (dVar 3))))))))))
def F_reckoned_two (K : PySem.W.Frag) : FD := bodyF ["word", "width", "one", "other"] (f_reckoned_two K)
def q_reckoned_two : FS := qSeq (qIf (pVal (pOp (aEq false) (pVar 0) (pC (.str "and")))) (qRet (pOp aAnd (pVar 2) (pVar 3))) (qNext))
  (qSeq (qIf (pVal (pOp (aEq false) (pVar 0) (pC (.str "or")))) (qRet (pOp aOr (pVar 2) (pVar 3))) (qNext))
  (qSeq (qIf (pVal (pOp (aEq false) (pVar 0) (pC (.str "xor")))) (qRet (pOp aXor (pVar 2) (pVar 3))) (qNext))
  (qSeq (qIf (pVal (pOp (aEq false) (pVar 0) (pC (.str "add")))) (qRet (pOp aMod (pOp aAdd (pVar 2) (pVar 3)) (pOp aShl (pC (.int 1)) (pVar 1)))) (qNext))
  (qSeq (qIf (pVal (pOp (aEq false) (pVar 0) (pC (.str "sub")))) (qRet (pOp aMod (pOp aSub (pVar 2) (pVar 3)) (pOp aShl (pC (.int 1)) (pVar 1)))) (qNext))
  (qRet (pIf (pVal (pOp (aEq false) (pVar 0) (pC (.str "less")))) (pCB aInt (pCons (pOp (aLt) (pVar 2) (pVar 3)) pNil)) (pCB aInt (pCons (pOp (aEq false) (pVar 2) (pVar 3)) pNil))))))))
def p_reckoned_two : FF := bodyA 4 q_reckoned_two
theorem k_reckoned_two {P : Program} {w : World} {K : PySem.W.Frag} {mg : Str → Option Value} {base : Heap} (T : Tx K mg base) : DefG P w K mg base "reckoned_two" 1 (top 19) ["word", "width", "one", "other"] (F_reckoned_two K) := by
  obtain ⟨fd, FF⟩ := T.says.defs.def_ 14 (d := d_reckoned_two) rfl
  have FF' : FunD K "reckoned_two" "reckoned_two" (defArgs (top 19)) (defBody (top 19)) (defScope (top 19)) [] [] (He.ga K "reckoned_two") fd := FF
  refine ⟨_, fd, g_reckoned_two T, FF', FF'.bindsN fun _ _ _ _ _ _ us hl => (match us, hl with | [_, _, _, _], _ => rfl), dfn_of FF' sc_reckoned_two fun cdv A outer s H E go => ?_⟩
  exact ds_cons (s_if (dt_eq T.sys go.room (d_var 0) (d_str)) (ds_one (s_ret (d_and (d_var 2) (d_var 3)))) (ds_nil))
    (ds_cons (s_if (dt_eq T.sys go.room (d_var 0) (d_str)) (ds_one (s_ret (d_or (d_var 2) (d_var 3)))) (ds_nil))
    (ds_cons (s_if (dt_eq T.sys go.room (d_var 0) (d_str)) (ds_one (s_ret (d_xor (d_var 2) (d_var 3)))) (ds_nil))
    (ds_cons (s_if (dt_eq T.sys go.room (d_var 0) (d_str)) (ds_one (s_ret (d_mod (d_add (d_var 2) (d_var 3)) (d_shl (d_int) (d_var 1))))) (ds_nil))
    (ds_cons (s_if (dt_eq T.sys go.room (d_var 0) (d_str)) (ds_one (s_ret (d_mod (d_sub (d_var 2) (d_var 3)) (d_shl (d_int) (d_var 1))))) (ds_nil))
    (ds_one (s_ret (d_ifE (dt_eq T.sys go.room (d_var 0) (d_str)) (d_intOf (m_int T) (d_lt (d_var 2) (d_var 3))) (d_intOf (m_int T) (d_eq T.sys go.room (d_var 2) (d_var 3))))))))))
/-! reckoned: 0 word, 1 width, 2 worths, 3 to, 4 at, 5 many, 6 worth -/
theorem sc_reckoned : FnScope ["word", "width", "worths", "to", "at", "many", "worth"] ["word", "width", "worths", "to", "at"] (defScope (top 20)) := ⟨rfl, rfl, rfl, by decide +kernel, rfl, by decide +kernel, by decide +kernel⟩
def f_reckoned (K : PySem.W.Frag) : SF := sSeq (sIf (dOrT (dNotT (dVal (dCB gIsi (dCons (dVar 0) (dOne (dC (.v (.ty "str")))))))) (dVal (dOp (gIn true) (dVar 0) (dC (.tup l_WORDS))))) (sRaise (He.ga K "NoOp") ["found"] (dCons (dVar 0) (dNil))) (sNext))
  (sSeq (sIf (dNotT (dVal (dCall (F_is_width K) (dCons (dVar 1) (dNil))))) (sRaise (He.ga K "NoWidth") ["found"] (dCons (dVar 1) (dNil))) (sNext))
  (sSeq (sAsg (dIf (dVal (dOp (gIn false) (dVar 0) (dC (.tup l_SINGLE)))) (dC (.int 1)) (dC (.int 2))) (gNm 5))
  (sSeq (sIf (dOrT (dNotT (dVal (dIsi2 "list" "tuple" (dVar 2)))) (dVal (dOp (gE true) (dCB gLen (dOne (dVar 2))) (dVar 5)))) (sRaise (He.ga K "NoWorths") ["found"] (dCons (dVar 2) (dNil))) (sNext))
  (sSeq (sIf (dNotT (dVal (dCB gAll (dOne (dFrz (dLc (iSq (dVar 2)) (gNm 6) [6] dYes (dCall (F_is_worth K) (dCons (dVar 6) (dCons (dVar 1) (dNil)))))))))) (sRaise (He.ga K "NoWorths") ["found"] (dCons (dVar 2) (dNil))) (sNext))
  (sSeq (sIf (dAndT (dVal (dOp (gE false) (dVar 0) (dC (.str "wide")))) (dNotT (dVal (dCall (F_is_width K) (dCons (dVar 3) (dNil)))))) (sRaise (He.ga K "NoWidth") ["found"] (dCons (dVar 3) (dNil))) (sNext))
  (sSeq (sIf (dAndT (dVal (dOp (gE false) (dVar 0) (dC (.str "bit")))) (dNotT (dVal (dCall (F_is_whole K) (dCons (dVar 4) (dCons (dC (.int 0)) (dCons (dOp oSub (dVar 1) (dC (.int 1))) (dNil)))))))) (sRaise (He.ga K "NoNumber") ["found"] (dCons (dVar 4) (dNil))) (sNext))
  (sSeq (sIf (dVal (dOp (gE false) (dVar 5) (dC (.int 1)))) (sRet (dCall (F_reckoned_single K) (dCons (dVar 0) (dCons (dVar 1) (dCons (dOp gIx (dVar 2) (dC (.int 0))) (dCons (dVar 3) (dCons (dVar 4) (dNil)))))))) (sNext))
  (sRet (dCall (F_reckoned_two K) (dCons (dVar 0) (dCons (dVar 1) (dCons (dOp gIx (dVar 2) (dC (.int 0))) (dCons (dOp gIx (dVar 2) (dC (.int 1))) (dNil))))))))))))))
def F_reckoned (K : PySem.W.Frag) : FD := bodyF ["word", "width", "worths", "to", "at", "many", "worth"] (f_reckoned K)
def q_reckoned : FS := qSeq (qIf (pOrT (pNotT (pVal (pCB aIsi (pCons (pVar 0) (pCons (pC (.ty "str")) pNil))))) (pVal (pOp (aIn true) (pVar 0) (pC (.tup a_WORDS))))) (qRaise "NoOp" ["found"] (pCons (pVar 0) (pNil))) (qNext))
  (qSeq (qIf (pNotT (pVal (pCall p_is_width (pCons (pVar 1) (pNil))))) (qRaise "NoWidth" ["found"] (pCons (pVar 1) (pNil))) (qNext))
  (qSeq (qAsg (pIf (pVal (pOp (aIn false) (pVar 0) (pC (.tup a_SINGLE)))) (pC (.int 1)) (pC (.int 2))) (tNm 5))
  (qSeq (qIf (pOrT (pNotT (pVal (pIsi2 "list" "tuple" (pVar 2)))) (pVal (pOp (aEq true) (pCB aLen (pCons (pVar 2) pNil)) (pVar 5)))) (qRaise "NoWorths" ["found"] (pCons (pVar 2) (pNil))) (qNext))
  (qSeq (qIf (pNotT (pVal (pCB aAll (pCons (pLstV (pLcV (pISq (pVar 2)) (tNm 6) [6] pYes (pCall p_is_worth (pCons (pVar 6) (pCons (pVar 1) (pNil)))))) pNil)))) (qRaise "NoWorths" ["found"] (pCons (pVar 2) (pNil))) (qNext))
  (qSeq (qIf (pAndT (pVal (pOp (aEq false) (pVar 0) (pC (.str "wide")))) (pNotT (pVal (pCall p_is_width (pCons (pVar 3) (pNil)))))) (qRaise "NoWidth" ["found"] (pCons (pVar 3) (pNil))) (qNext))
  (qSeq (qIf (pAndT (pVal (pOp (aEq false) (pVar 0) (pC (.str "bit")))) (pNotT (pVal (pCall p_is_whole (pCons (pVar 4) (pCons (pC (.int 0)) (pCons (pOp aSub (pVar 1) (pC (.int 1))) (pNil)))))))) (qRaise "NoNumber" ["found"] (pCons (pVar 4) (pNil))) (qNext))
  (qSeq (qIf (pVal (pOp (aEq false) (pVar 5) (pC (.int 1)))) (qRet (pCall p_reckoned_single (pCons (pVar 0) (pCons (pVar 1) (pCons (pOp aIx (pVar 2) (pC (.int 0))) (pCons (pVar 3) (pCons (pVar 4) (pNil)))))))) (qNext))
  (qRet (pCall p_reckoned_two (pCons (pVar 0) (pCons (pVar 1) (pCons (pOp aIx (pVar 2) (pC (.int 0))) (pCons (pOp aIx (pVar 2) (pC (.int 1))) (pNil))))))))))))))
def p_reckoned : FF := bodyA 7 q_reckoned
theorem k_reckoned {P : Program} {w : World} {K : PySem.W.Frag} {mg : Str → Option Value} {base : Heap} (T : Tx K mg base) : DefK P w K mg base "reckoned" 5 (top 20) ["word", "width", "worths", "to", "at"] [("to", .int 1), ("at", .int 0)] (F_reckoned K) := by
  obtain ⟨fd, FF⟩ := T.says.defs.def_ 15 (d := d_reckoned) rfl
  have FF' : FunD K "reckoned" "reckoned" (defArgs (top 20)) (defBody (top 20)) (defScope (top 20)) [] [("to", .int 1), ("at", .int 0)] (He.ga K "reckoned") fd := FF
  refine ⟨_, fd, g_reckoned T, FF', dfn_of FF' sc_reckoned fun cdv A outer s H E go => ?_⟩
  exact ds_cons (s_if (dt_w (dw_or (dt_not (dt_val (d_isi (m_isinstance T) (m_str T) rfl (d_var 0)))) (dw_or1 (dt_nin (d_var 0) (d_gtup (g_WORDS T) (t_WORDS T) r_WORDS))))) (ds_one (s_raise (xc_NoOp T rfl rfl rfl rfl rfl) rfl (go.room.mono (by decide)) takes_cx (da_cons (d_var 0) (da_nil)))) (ds_nil))
    (ds_cons (s_if (dt_not (dt_val (d_callG (k_is_width T) (go.room.mono (by decide)) go.gd takes_cx (da_cons (d_var 1) (da_nil))))) (ds_one (s_raise (xc_NoWidth T rfl rfl rfl rfl rfl) rfl (go.room.mono (by decide)) takes_cx (da_cons (d_var 1) (da_nil)))) (ds_nil))
    (ds_cons (s_set 5 (d_ifE (dt_in (d_var 0) (d_gtup (g_SINGLE T) (t_SINGLE T) r_SINGLE)) (d_int) (d_int)) sc_reckoned.nd)
    (ds_cons (s_if (dt_w (dw_or (dt_not (dt_val (d_isi2 (m_isinstance T) rfl (m_list T) rfl (m_tuple T) rfl (d_var 2)))) (dw_or1 (dt_ne T.sys go.room (d_len (m_len T) (d_var 2)) (d_var 5))))) (ds_one (s_raise (xc_NoWorths T rfl rfl rfl rfl rfl) rfl (go.room.mono (by decide)) takes_cx (da_cons (d_var 2) (da_nil)))) (ds_nil))
    (ds_cons (s_if (dt_not (dt_val (d_all rfl (m_all T) (d_frz (d_lc [("worth", 6)] (gName 6) rfl sc_reckoned.nd (di_seq (d_var 2)) (by rfl) (fun _ _ _ _ _ => pg_name (i := 6) sc_reckoned.nd rfl (by first | exact Or.inl rfl | exact Or.inr rfl) (by first | exact .inl rfl | exact .inr rfl)) (simg_nm) (only_name (by decide)) (fun _ _ _ _ _ => d_callG (k_is_worth T) (go.room.mono (by decide)) go.gd takes_none5 (da_cons (d_var 6) (da_cons (d_var 1) (da_nil))))))))) (ds_one (s_raise (xc_NoWorths T rfl rfl rfl rfl rfl) rfl (go.room.mono (by decide)) takes_cx (da_cons (d_var 2) (da_nil)))) (ds_nil))
    (ds_cons (s_if (dt_w (dw_and (dt_eq T.sys go.room (d_var 0) (d_str)) (dw_and1 (dt_not (dt_val (d_callG (k_is_width T) (go.room.mono (by decide)) go.gd takes_cx (da_cons (d_var 3) (da_nil)))))))) (ds_one (s_raise (xc_NoWidth T rfl rfl rfl rfl rfl) rfl (go.room.mono (by decide)) takes_cx (da_cons (d_var 3) (da_nil)))) (ds_nil))
    (ds_cons (s_if (dt_w (dw_and (dt_eq T.sys go.room (d_var 0) (d_str)) (dw_and1 (dt_not (dt_val (d_callG (k_is_whole T) (go.room.mono (by decide)) go.gd takes_cx (da_cons (d_var 4) (da_cons (d_int) (da_cons (d_sub (d_var 1) (d_int)) (da_nil)))))))))) (ds_one (s_raise (xc_NoNumber T rfl rfl rfl rfl rfl) rfl (go.room.mono (by decide)) takes_cx (da_cons (d_var 4) (da_nil)))) (ds_nil))
    (ds_cons (s_if (dt_eq T.sys go.room (d_var 5) (d_int)) (ds_one (s_ret (d_callG (k_reckoned_single T) (go.room.mono (by decide)) go.gd takes_cx (da_cons (d_var 0) (da_cons (d_var 1) (da_cons (d_ix (d_var 2) (d_int)) (da_cons (d_var 3) (da_cons (d_var 4) (da_nil))))))))) (ds_nil))
    (ds_one (s_ret (d_callG (k_reckoned_two T) (go.room.mono (by decide)) go.gd takes_cx (da_cons (d_var 0) (da_cons (d_var 1) (da_cons (d_ix (d_var 2) (d_int)) (da_cons (d_ix (d_var 2) (d_int)) (da_nil)))))))))))))))
/-! _law_asked: 0 word, 1 width, 2 worths, 3 more, 4 one, 5 e -/
theorem sc__law_asked : FnScope ["word", "width", "worths", "more", "one", "e"] ["word", "width", "worths", "more"] (defScope (top 30)) := ⟨rfl, rfl, rfl, by decide +kernel, rfl, by decide +kernel, by decide +kernel⟩
def f__law_asked (K : PySem.W.Frag) : SF := sTry K (sSeq (sIf (dVal (dOp (gE false) (dCB gLen (dOne (dVar 3))) (dC (.int 2)))) (sRet (dLstF (dCons (dC (.str "told")) (dCons (dCallK (F_reckoned K) (pickG [0, 1, 2, 4, 3] []) (dCons (dVar 0) (dCons (dVar 1) (dCons (dVar 2) (dNil)))) (dCons (dOp gIx (dVar 3) (dC (.int 1))) (dCons (dOp gIx (dVar 3) (dC (.int 0))) (dNil)))) (dNil))))) (sNext))
  (sSeq (sIf (dVal (dOp (gE false) (dCB gLen (dOne (dVar 3))) (dC (.int 1)))) (sSeq (sAsg (dIf (dVal (dOp (gE false) (dVar 0) (dC (.str "wide")))) (dCallK (F_reckoned K) (pickG [0, 1, 2, 4, 3] [.int 0]) (dCons (dVar 0) (dCons (dVar 1) (dCons (dVar 2) (dNil)))) (dCons (dOp gIx (dVar 3) (dC (.int 0))) (dNil))) (dC (.non))) (gNm 4))
  (sRet (dLstF (dCons (dC (.str "told")) (dCons (dIf (dVal (dOp (gE true) (dVar 0) (dC (.str "wide")))) (dCallK (F_reckoned K) (pickG [0, 1, 2, 3, 4] [.int 1]) (dCons (dVar 0) (dCons (dVar 1) (dCons (dVar 2) (dNil)))) (dCons (dOp gIx (dVar 3) (dC (.int 0))) (dNil))) (dVar 4)) (dNil)))))) (sNext))
  (sRet (dLstF (dCons (dC (.str "told")) (dCons (dCallK (F_reckoned K) (pickG [0, 1, 2, 3, 4] [.int 1, .int 0]) (dCons (dVar 0) (dCons (dVar 1) (dCons (dVar 2) (dNil)))) (dNil)) (dNil))))))) (.one (.ref (He.ga K "NoOp")) (some 5) (fun a cls d => sRet (dLstF (dCons (dC (.str "op")) (dCons (dFld a cls d (He.ga K "NoOp") "found" (dVar 5)) (dNil))))) (.one (.ref (He.ga K "NoWidth")) (some 5) (fun a cls d => sRet (dLstF (dCons (dC (.str "width")) (dCons (dFld a cls d (He.ga K "NoWidth") "found" (dVar 5)) (dNil))))) (.one (.ref (He.ga K "NoWorths")) (some 5) (fun a cls d => sRet (dLstF (dCons (dC (.str "worths")) (dCons (dFld a cls d (He.ga K "NoWorths") "found" (dVar 5)) (dNil))))) (.one (.ref (He.ga K "NoNumber")) (some 5) (fun a cls d => sRet (dLstF (dCons (dC (.str "number")) (dCons (dFld a cls d (He.ga K "NoNumber") "found" (dVar 5)) (dNil))))) (.bad)))))
def F__law_asked (K : PySem.W.Frag) : FD := bodyF ["word", "width", "worths", "more", "one", "e"] (f__law_asked K)
def q__law_asked : FS := qTry xm (qSeq (qIf (pVal (pOp (aEq false) (pCB aLen (pCons (pVar 3) pNil)) (pC (.int 2)))) (qRet (pLstF (pCons (pC (.str "told")) (pCons (pCallK p_reckoned (pickG [0, 1, 2, 4, 3] []) (pCons (pVar 0) (pCons (pVar 1) (pCons (pVar 2) (pNil)))) (pCons (pOp aIx (pVar 3) (pC (.int 1))) (pCons (pOp aIx (pVar 3) (pC (.int 0))) (pNil)))) (pNil))))) (qNext))
  (qSeq (qIf (pVal (pOp (aEq false) (pCB aLen (pCons (pVar 3) pNil)) (pC (.int 1)))) (qSeq (qAsg (pIf (pVal (pOp (aEq false) (pVar 0) (pC (.str "wide")))) (pCallK p_reckoned (pickG [0, 1, 2, 4, 3] [.int 0]) (pCons (pVar 0) (pCons (pVar 1) (pCons (pVar 2) (pNil)))) (pCons (pOp aIx (pVar 3) (pC (.int 0))) (pNil))) (pC (.non))) (tNm 4))
  (qRet (pLstF (pCons (pC (.str "told")) (pCons (pIf (pVal (pOp (aEq true) (pVar 0) (pC (.str "wide")))) (pCallK p_reckoned (pickG [0, 1, 2, 3, 4] [.int 1]) (pCons (pVar 0) (pCons (pVar 1) (pCons (pVar 2) (pNil)))) (pCons (pOp aIx (pVar 3) (pC (.int 0))) (pNil))) (pVar 4)) (pNil)))))) (qNext))
  (qRet (pLstF (pCons (pC (.str "told")) (pCons (pCallK p_reckoned (pickG [0, 1, 2, 3, 4] [.int 1, .int 0]) (pCons (pVar 0) (pCons (pVar 1) (pCons (pVar 2) (pNil)))) (pNil)) (pNil))))))) (.one "NoOp" (some 5) (qRet (pLstF (pCons (pC (.str "op")) (pCons (pFld 5 "NoOp" "found") (pNil))))) (.one "NoWidth" (some 5) (qRet (pLstF (pCons (pC (.str "width")) (pCons (pFld 5 "NoWidth" "found") (pNil))))) (.one "NoWorths" (some 5) (qRet (pLstF (pCons (pC (.str "worths")) (pCons (pFld 5 "NoWorths" "found") (pNil))))) (.one "NoNumber" (some 5) (qRet (pLstF (pCons (pC (.str "number")) (pCons (pFld 5 "NoNumber" "found") (pNil))))) (.bad)))))
def p__law_asked : FF := bodyA 6 q__law_asked
theorem k__law_asked {P : Program} {w : World} {K : PySem.W.Frag} {mg : Str → Option Value} {base : Heap} (T : Tx K mg base) : DefG P w K mg base "_law_asked" 6 (top 30) ["word", "width", "worths", "more"] (F__law_asked K) := by
  obtain ⟨fd, FF⟩ := T.says.defs.def_ 16 (d := d__law_asked) rfl
  have FF' : FunD K "_law_asked" "_law_asked" (defArgs (top 30)) (defBody (top 30)) (defScope (top 30)) [] [] (He.ga K "_law_asked") fd := FF
  refine ⟨_, fd, g__law_asked T, FF', FF'.bindsN fun _ _ _ _ _ _ us hl => (match us, hl with | [_, _, _, _], _ => rfl), dfn_of FF' sc__law_asked fun cdv A outer s H E go => ?_⟩
  exact ds_one (s_try takes_cx sc__law_asked.nd (fun W pn xe tk2 po2 => ds_cons (s_if (dt_eq T.sys go.room (d_len (m_len T) (d_var 3)) (d_int)) (ds_one (s_ret (d_lstF (da_cons (d_str) (da_cons (d_callD ["at", "to"] [0, 1, 2, 4, 3] [] [] (k_reckoned T) (go.room.mono (by decide)) go.gd tk2 (da_cons (d_var 0) (da_cons (d_var 1) (da_cons (d_var 2) (da_nil)))) (dk_cons (d_ix (d_var 3) (d_int)) (dk_cons (d_ix (d_var 3) (d_int)) (dk_nil))) (by simp) (by simp) (fun _ => rfl) (fun _ _ _ _ _ _ us mv ws h1 h2 h3 => match us, mv, ws, h1, h2, h3 with | [_, _, _], [], [_, _], _, _, _ => rfl) (fun vs zs h1 h2 => match vs, zs, h1, h2 with | [_, _, _], [_, _], _, _ => rfl)) (da_nil)))))) (ds_nil))
    (ds_cons (s_if (dt_eq T.sys go.room (d_len (m_len T) (d_var 3)) (d_int)) (ds_cons (s_set 4 (d_ifE (dt_eq T.sys go.room (d_var 0) (d_str)) (d_callD ["to"] [0, 1, 2, 4, 3] [("at", .int 0)] [.int 0] (k_reckoned T) (go.room.mono (by decide)) go.gd tk2 (da_cons (d_var 0) (da_cons (d_var 1) (da_cons (d_var 2) (da_nil)))) (dk_cons (d_ix (d_var 3) (d_int)) (dk_nil)) (by simp) (by simp) (fun _ => ⟨_, _, rfl, rfl, rfl⟩) (fun _ _ _ _ _ _ us mv ws h1 h2 h3 => match us, mv, ws, h1, h2, h3 with | [_, _, _], [_], [_], _, _, _ => ⟨_, _, _, _, _, _, rfl, rfl, rfl⟩) (fun vs zs h1 h2 => match vs, zs, h1, h2 with | [_, _, _], [_], _, _ => rfl)) (d_non)) sc__law_asked.nd)
    (ds_one (s_ret (d_lstF (da_cons (d_str) (da_cons (d_ifE (dt_ne T.sys go.room (d_var 0) (d_str)) (d_callD ["at"] [0, 1, 2, 3, 4] [("to", .int 1)] [.int 1] (k_reckoned T) (go.room.mono (by decide)) go.gd tk2 (da_cons (d_var 0) (da_cons (d_var 1) (da_cons (d_var 2) (da_nil)))) (dk_cons (d_ix (d_var 3) (d_int)) (dk_nil)) (by simp) (by simp) (fun _ => ⟨_, _, rfl, rfl, rfl⟩) (fun _ _ _ _ _ _ us mv ws h1 h2 h3 => match us, mv, ws, h1, h2, h3 with | [_, _, _], [_], [_], _, _, _ => ⟨_, _, _, _, _, _, rfl, rfl, rfl⟩) (fun vs zs h1 h2 => match vs, zs, h1, h2 with | [_, _, _], [_], _, _ => rfl)) (d_var 4)) (da_nil))))))) (ds_nil))
    (ds_one (s_ret (d_lstF (da_cons (d_str) (da_cons (d_callD [] [0, 1, 2, 3, 4] [("to", .int 1), ("at", .int 0)] [.int 1, .int 0] (k_reckoned T) (go.room.mono (by decide)) go.gd tk2 (da_cons (d_var 0) (da_cons (d_var 1) (da_cons (d_var 2) (da_nil)))) (dk_nil) (by simp) (by simp) (fun _ => ⟨_, _, rfl, rfl, ⟨_, _, rfl, rfl, rfl⟩⟩) (fun _ _ _ _ _ _ us mv ws h1 h2 h3 => match us, mv, ws, h1, h2, h3 with | [_, _, _], [_, _], [], _, _, _ => ⟨_, _, _, _, _, _, rfl, rfl, ⟨_, _, _, _, _, _, rfl, rfl, rfl⟩⟩) (fun vs zs h1 h2 => match vs, zs, h1, h2 with | [_, _, _], [], _, _ => rfl)) (da_nil)))))))) (ClsOk.as (i := 5) rfl rfl ⟨rfl, by decide, .inl (g_NoOp T)⟩ (fun a oe cls d pn hz hf => ds_one (s_ret (d_lstF (da_cons (d_str) (da_cons (d_fld (xo_NoOp T).xf ((xo_NoOp T).no "found" (by simp)) hz hf (d_var 5)) (da_nil)))))) (ClsOk.as (i := 5) rfl rfl ⟨rfl, by decide, .inl (g_NoWidth T)⟩ (fun a oe cls d pn hz hf => ds_one (s_ret (d_lstF (da_cons (d_str) (da_cons (d_fld (xo_NoWidth T).xf ((xo_NoWidth T).no "found" (by simp)) hz hf (d_var 5)) (da_nil)))))) (ClsOk.as (i := 5) rfl rfl ⟨rfl, by decide, .inl (g_NoWorths T)⟩ (fun a oe cls d pn hz hf => ds_one (s_ret (d_lstF (da_cons (d_str) (da_cons (d_fld (xo_NoWorths T).xf ((xo_NoWorths T).no "found" (by simp)) hz hf (d_var 5)) (da_nil)))))) (ClsOk.as (i := 5) rfl rfl ⟨rfl, by decide, .inl (g_NoNumber T)⟩ (fun a oe cls d pn hz hf => ds_one (s_ret (d_lstF (da_cons (d_str) (da_cons (d_fld (xo_NoNumber T).xf ((xo_NoNumber T).no "found" (by simp)) hz hf (d_var 5)) (da_nil)))))) (ClsOk.bad))))))
/-! _law_bits: 0 width, 1 worth, 2 k -/
theorem sc__law_bits : FnScope ["width", "worth", "k"] ["width", "worth"] (defScope (top 26)) := ⟨rfl, rfl, rfl, by decide +kernel, rfl, by decide +kernel, by decide +kernel⟩
def f__law_bits (K : PySem.W.Frag) : SF := sRet (dFrz (dLc (iRg (dVar 0)) (gNm 2) [2] dYes (dOp oAnd (dOp oShr (dVar 1) (dVar 2)) (dC (.int 1)))))
def F__law_bits (K : PySem.W.Frag) : FD := bodyF ["width", "worth", "k"] (f__law_bits K)
def q__law_bits : FS := qRet (pLstV (pLcV (pIRg (pVar 0)) (tNm 2) [2] pYes (pOp aAnd (pOp aShr (pVar 1) (pVar 2)) (pC (.int 1)))))
def p__law_bits : FF := bodyA 3 q__law_bits
theorem k__law_bits {P : Program} {w : World} {K : PySem.W.Frag} {mg : Str → Option Value} {base : Heap} (T : Tx K mg base) : DefG P w K mg base "_law_bits" 1 (top 26) ["width", "worth"] (F__law_bits K) := by
  obtain ⟨fd, FF⟩ := T.says.defs.def_ 17 (d := d__law_bits) rfl
  have FF' : FunD K "_law_bits" "_law_bits" (defArgs (top 26)) (defBody (top 26)) (defScope (top 26)) [] [] (He.ga K "_law_bits") fd := FF
  refine ⟨_, fd, g__law_bits T, FF', FF'.bindsN fun _ _ _ _ _ _ us hl => (match us, hl with | [_, _], _ => rfl), dfn_of FF' sc__law_bits fun cdv A outer s H E go => ?_⟩
  exact ds_one (s_ret (d_frz (d_lc [("k", 2)] (gName 2) rfl sc__law_bits.nd (di_rg (m_range T) (d_var 0)) (by rfl) (fun _ _ _ _ _ => pg_name (i := 2) sc__law_bits.nd rfl (by first | exact Or.inl rfl | exact Or.inr rfl) (by first | exact .inl rfl | exact .inr rfl)) (simg_nm) (only_name (by decide)) (fun _ _ _ _ _ => d_and (d_shr (d_var 1) (d_var 2)) (d_int)))))
/-! _law_made: 0 bits, 1 k, 2 bit -/
theorem sc__law_made : FnScope ["bits", "k", "bit"] ["bits"] (defScope (top 27)) := ⟨rfl, rfl, rfl, by decide +kernel, rfl, by decide +kernel, by decide +kernel⟩
def f__law_made (K : PySem.W.Frag) : SF := sRet (dCB gSum (dOne (dFrz (dLc (iEn (dVar 0)) (gTupD 2 (gsCons (gNm 1) (gsCons (gNm 2) gsNil))) [1, 2] dYes (dOp oShl (dVar 2) (dVar 1))))))
def F__law_made (K : PySem.W.Frag) : FD := bodyF ["bits", "k", "bit"] (f__law_made K)
def q__law_made : FS := qRet (pCB aSum (pCons (pLstV (pLcV (pIEn (pVar 0)) (tTup 2 (tCons (tNm 1) (tCons (tNm 2) tNil))) [1, 2] pYes (pOp aShl (pVar 2) (pVar 1)))) pNil))
def p__law_made : FF := bodyA 3 q__law_made
theorem k__law_made {P : Program} {w : World} {K : PySem.W.Frag} {mg : Str → Option Value} {base : Heap} (T : Tx K mg base) : DefG P w K mg base "_law_made" 1 (top 27) ["bits"] (F__law_made K) := by
  obtain ⟨fd, FF⟩ := T.says.defs.def_ 18 (d := d__law_made) rfl
  have FF' : FunD K "_law_made" "_law_made" (defArgs (top 27)) (defBody (top 27)) (defScope (top 27)) [] [] (He.ga K "_law_made") fd := FF
  refine ⟨_, fd, g__law_made T, FF', FF'.bindsN fun _ _ _ _ _ _ us hl => (match us, hl with | [_], _ => rfl), dfn_of FF' sc__law_made fun cdv A outer s H E go => ?_⟩
  exact ds_one (s_ret (d_sum rfl (m_sum T) (d_frz (d_lc [("k", 1), ("bit", 2)] (gTup K 2 (gCons (gName 1) (gCons (gName 2) gNil))) rfl sc__law_made.nd (di_en (m_enumerate T) (d_var 0)) (by rfl) (fun _ _ _ _ _ => pg_tup rfl (pgs_cons (pg_name (i := 1) sc__law_made.nd rfl (by first | exact Or.inl rfl | exact Or.inr rfl) (by first | exact .inl rfl | exact .inr rfl)) (pgs_cons (pg_name (i := 2) sc__law_made.nd rfl (by first | exact Or.inl rfl | exact Or.inr rfl) (by first | exact .inl rfl | exact .inr rfl)) pgs_nil (by rfl)) (by rfl)) (by rfl) (by rfl)) ((simg_tup (simgs_cons simg_nm (simgs_cons simg_nm simgs_nil)))) ((only_tup (only_cons (by decide) (only_cons (by decide) only_nil)))) (fun _ _ _ _ _ => d_shl (d_var 2) (d_var 1))))))
/-! _law_carried: 0 width, 1 one, 2 other, 3 carry, 4 found, 5 a, 6 b -/
theorem sc__law_carried : FnScope ["width", "one", "other", "carry", "found", "a", "b"] ["width", "one", "other", "carry"] (defScope (top 28)) := ⟨rfl, rfl, rfl, by decide +kernel, rfl, by decide +kernel, by decide +kernel⟩
def f__law_carried (K : PySem.W.Frag) : SF := sSeq (sAsg (dLst (dNil)) (gNm 4))
  (sSeq (sFor (iZp (dCons (dCall (F__law_bits K) (dCons (dVar 0) (dCons (dVar 1) (dNil)))) (dOne (dCall (F__law_bits K) (dCons (dVar 0) (dCons (dVar 2) (dNil))))))) (gTupD 2 (gsCons (gNm 5) (gsCons (gNm 6) (gsNil)))) (sSeq (sDrop (dApp (dVar 4) (dOp oMod (dOp oAdd (dOp oAdd (dVar 5) (dVar 6)) (dVar 3)) (dC (.int 2)))))
  (sAsg (dCB gInt (dOne (dOp (oGt) (dOp oAdd (dOp oAdd (dVar 5) (dVar 6)) (dVar 3)) (dC (.int 1))))) (gNm 3))))
  (sFrz 4 (sRet (dCall (F__law_made K) (dCons (dVar 4) (dNil))))))
def F__law_carried (K : PySem.W.Frag) : FD := bodyF ["width", "one", "other", "carry", "found", "a", "b"] (f__law_carried K)
def b1__law_carried : FS := qSeq (qApp 4 (pOp aMod (pOp aAdd (pOp aAdd (pVar 5) (pVar 6)) (pVar 3)) (pC (.int 2))))
  (qAsg (pCB aInt (pCons (pOp (aGt) (pOp aAdd (pOp aAdd (pVar 5) (pVar 6)) (pVar 3)) (pC (.int 1))) pNil)) (tNm 3))
def q__law_carried : FS := qSeq (qOwnV 4 (vLst (pNil)))
  (qSeq (qFor (pIZp (pCons (pCall p__law_bits (pCons (pVar 0) (pCons (pVar 1) (pNil)))) (pCons (pCall p__law_bits (pCons (pVar 0) (pCons (pVar 2) (pNil)))) pNil))) (tTup 2 (tCons (tNm 5) (tCons (tNm 6) (tNil)))) b1__law_carried)
  (qFrz 4 (qRet (pCall p__law_made (pCons (pVar 4) (pNil))))))
def p__law_carried : FF := bodyA 7 q__law_carried
theorem k__law_carried {P : Program} {w : World} {K : PySem.W.Frag} {mg : Str → Option Value} {base : Heap} (T : Tx K mg base) : DefG P w K mg base "_law_carried" 2 (top 28) ["width", "one", "other", "carry"] (F__law_carried K) := by
  obtain ⟨fd, FF⟩ := T.says.defs.def_ 19 (d := d__law_carried) rfl
  have FF' : FunD K "_law_carried" "_law_carried" (defArgs (top 28)) (defBody (top 28)) (defScope (top 28)) [] [] (He.ga K "_law_carried") fd := FF
  refine ⟨_, fd, g__law_carried T, FF', FF'.bindsN fun _ _ _ _ _ _ us hl => (match us, hl with | [_, _, _, _], _ => rfl), dfn_of FF' sc__law_carried fun cdv A outer s H E go => ?_⟩
  exact ds_cons (s_set 4 (d_lst (da_nil)) sc__law_carried.nd)
    (ds_cons (s_for PassesOwn.leaving rfl (di_zip (m_zip T) (d_callG (k__law_bits T) (go.room.mono (by decide)) go.gd takes_cx (da_cons (d_var 0) (da_cons (d_var 1) (da_nil)))) (d_callG (k__law_bits T) (go.room.mono (by decide)) go.gd takes_cx (da_cons (d_var 0) (da_cons (d_var 2) (da_nil))))) (g_tup rfl (gs_cons (g_name 5 sc__law_carried.nd) (gs_cons (g_name 6 sc__law_carried.nd) (gs_nil))) (n := 2)) (ds_cons (s_expr (d_append (d_var 4) (d_mod (d_add (d_add (d_var 5) (d_var 6)) (d_var 3)) (d_int))))
    (ds_one (s_set 3 (d_intOf (m_int T) (d_gt (d_add (d_add (d_var 5) (d_var 6)) (d_var 3)) (d_int))) sc__law_carried.nd))))
    (ss_frz 4 (ds_one (s_ret (d_callG (k__law_made T) (go.room.mono (by decide)) go.gd takes_cx (da_cons (d_var 4) (da_nil)))))))
/-! _law_due: 0 word, 1 width, 2 worths, 3 into, 4 spot, 5 one, 6 other, 7 bit, 8 a, 9 b -/
theorem sc__law_due : FnScope ["word", "width", "worths", "into", "spot", "one", "other", "bit", "a", "b"] ["word", "width", "worths", "into", "spot"] (defScope (top 29)) := ⟨rfl, rfl, rfl, by decide +kernel, rfl, by decide +kernel, by decide +kernel⟩
def f__law_due (K : PySem.W.Frag) : SF := sSeq (sPar 5 6 (dCons (dCall (F__law_bits K) (dCons (dVar 1) (dCons (dOp gIx (dVar 2) (dC (.int 0))) (dNil)))) (dCons (dCall (F__law_bits K) (dCons (dVar 1) (dCons (dOp gIx (dVar 2) (dNeg (dC (.int 1)))) (dNil)))) (dNil))))
  (sSeq (sIf (dVal (dOp (gE false) (dVar 0) (dC (.str "not")))) (sRet (dCall (F__law_made K) (dCons (dFrz (dLc (iSq (dVar 5)) (gNm 7) [7] dYes (dOp oSub (dC (.int 1)) (dVar 7)))) (dNil)))) (sNext))
  (sSeq (sIf (dVal (dOp (gE false) (dVar 0) (dC (.str "wide")))) (sRet (dCall (F__law_made K) (dCons (dSl (dOp (gCatL true) (dVar 5) (dOp gRepF (dLst (dCons (dC (.int 0)) (dNil))) (dC (.int 8)))) (dNoP) (dPt (dVar 3))) (dNil)))) (sNext))
  (sSeq (sIf (dVal (dOp (gE false) (dVar 0) (dC (.str "bit")))) (sRet (dOp gIx (dVar 5) (dVar 4))) (sNext))
  (sSeq (sIf (dVal (dOp (gE false) (dVar 0) (dC (.str "add")))) (sRet (dCall (F__law_carried K) (dCons (dVar 1) (dCons (dOp gIx (dVar 2) (dC (.int 0))) (dCons (dOp gIx (dVar 2) (dC (.int 1))) (dCons (dC (.int 0)) (dNil))))))) (sNext))
  (sSeq (sIf (dVal (dOp (gE false) (dVar 0) (dC (.str "sub")))) (sRet (dCall (F__law_carried K) (dCons (dVar 1) (dCons (dOp gIx (dVar 2) (dC (.int 0))) (dCons (dCall (F__law_made K) (dCons (dFrz (dLc (iSq (dVar 6)) (gNm 7) [7] dYes (dOp oSub (dC (.int 1)) (dVar 7)))) (dNil))) (dCons (dC (.int 1)) (dNil))))))) (sNext))
  (sSeq (sIf (dVal (dOp (gE false) (dVar 0) (dC (.str "less")))) (sRet (dCB gInt (dOne (dOp gLtP (dRev (dVar 5)) (dRev (dVar 6)))))) (sNext))
  (sSeq (sIf (dVal (dOp (gE false) (dVar 0) (dC (.str "same")))) (sRet (dCB gInt (dOne (dOp (gE false) (dVar 5) (dVar 6))))) (sNext))
  (sSeq (sIf (dVal (dOp (gE false) (dVar 0) (dC (.str "and")))) (sRet (dCall (F__law_made K) (dCons (dFrz (dLc (iZp (dCons (dVar 5) (dOne (dVar 6)))) (gTupD 2 (gsCons (gNm 8) (gsCons (gNm 9) gsNil))) [8, 9] dYes (dCB gMin2 (dCons (dVar 8) (dOne (dVar 9)))))) (dNil)))) (sNext))
  (sSeq (sIf (dVal (dOp (gE false) (dVar 0) (dC (.str "or")))) (sRet (dCall (F__law_made K) (dCons (dFrz (dLc (iZp (dCons (dVar 5) (dOne (dVar 6)))) (gTupD 2 (gsCons (gNm 8) (gsCons (gNm 9) gsNil))) [8, 9] dYes (dCB gMax2 (dCons (dVar 8) (dOne (dVar 9)))))) (dNil)))) (sNext))
  (sRet (dCall (F__law_made K) (dCons (dFrz (dLc (iZp (dCons (dVar 5) (dOne (dVar 6)))) (gTupD 2 (gsCons (gNm 8) (gsCons (gNm 9) gsNil))) [8, 9] dYes (dCB gInt (dOne (dOp (gE true) (dVar 8) (dVar 9)))))) (dNil)))))))))))))
def F__law_due (K : PySem.W.Frag) : FD := bodyF ["word", "width", "worths", "into", "spot", "one", "other", "bit", "a", "b"] (f__law_due K)
def q__law_due : FS := qSeq (qPar 5 6 (pCons (pCall p__law_bits (pCons (pVar 1) (pCons (pOp aIx (pVar 2) (pC (.int 0))) (pNil)))) (pCons (pCall p__law_bits (pCons (pVar 1) (pCons (pOp aIx (pVar 2) (pNeg (pC (.int 1)))) (pNil)))) (pNil))))
  (qSeq (qIf (pVal (pOp (aEq false) (pVar 0) (pC (.str "not")))) (qRet (pCall p__law_made (pCons (pLstV (pLcV (pISq (pVar 5)) (tNm 7) [7] pYes (pOp aSub (pC (.int 1)) (pVar 7)))) (pNil)))) (qNext))
  (qSeq (qIf (pVal (pOp (aEq false) (pVar 0) (pC (.str "wide")))) (qRet (pCall p__law_made (pCons (pSl (pOp (aCatL true) (pVar 5) (pLstV (vRep (vLst (pCons (pC (.int 0)) (pNil))) (pC (.int 8))))) (pNoP) (pPt (pVar 3))) (pNil)))) (qNext))
  (qSeq (qIf (pVal (pOp (aEq false) (pVar 0) (pC (.str "bit")))) (qRet (pOp aIx (pVar 5) (pVar 4))) (qNext))
  (qSeq (qIf (pVal (pOp (aEq false) (pVar 0) (pC (.str "add")))) (qRet (pCall p__law_carried (pCons (pVar 1) (pCons (pOp aIx (pVar 2) (pC (.int 0))) (pCons (pOp aIx (pVar 2) (pC (.int 1))) (pCons (pC (.int 0)) (pNil))))))) (qNext))
  (qSeq (qIf (pVal (pOp (aEq false) (pVar 0) (pC (.str "sub")))) (qRet (pCall p__law_carried (pCons (pVar 1) (pCons (pOp aIx (pVar 2) (pC (.int 0))) (pCons (pCall p__law_made (pCons (pLstV (pLcV (pISq (pVar 6)) (tNm 7) [7] pYes (pOp aSub (pC (.int 1)) (pVar 7)))) (pNil))) (pCons (pC (.int 1)) (pNil))))))) (qNext))
  (qSeq (qIf (pVal (pOp (aEq false) (pVar 0) (pC (.str "less")))) (qRet (pCB aInt (pCons (pOp aLtP (pRev (pVar 5)) (pRev (pVar 6))) pNil))) (qNext))
  (qSeq (qIf (pVal (pOp (aEq false) (pVar 0) (pC (.str "same")))) (qRet (pCB aInt (pCons (pOp (aEq false) (pVar 5) (pVar 6)) pNil))) (qNext))
  (qSeq (qIf (pVal (pOp (aEq false) (pVar 0) (pC (.str "and")))) (qRet (pCall p__law_made (pCons (pLstV (pLcV (pIZp (pCons (pVar 5) (pCons (pVar 6) pNil))) (tTup 2 (tCons (tNm 8) (tCons (tNm 9) tNil))) [8, 9] pYes (pCB aMin2 (pCons (pVar 8) (pCons (pVar 9) pNil))))) (pNil)))) (qNext))
  (qSeq (qIf (pVal (pOp (aEq false) (pVar 0) (pC (.str "or")))) (qRet (pCall p__law_made (pCons (pLstV (pLcV (pIZp (pCons (pVar 5) (pCons (pVar 6) pNil))) (tTup 2 (tCons (tNm 8) (tCons (tNm 9) tNil))) [8, 9] pYes (pCB aMax2 (pCons (pVar 8) (pCons (pVar 9) pNil))))) (pNil)))) (qNext))
  (qRet (pCall p__law_made (pCons (pLstV (pLcV (pIZp (pCons (pVar 5) (pCons (pVar 6) pNil))) (tTup 2 (tCons (tNm 8) (tCons (tNm 9) tNil))) [8, 9] pYes (pCB aInt (pCons (pOp (aEq true) (pVar 8) (pVar 9)) pNil)))) (pNil)))))))))))))
def p__law_due : FF := bodyA 10 q__law_due
theorem k__law_due {P : Program} {w : World} {K : PySem.W.Frag} {mg : Str → Option Value} {base : Heap} (T : Tx K mg base) : DefG P w K mg base "_law_due" 3 (top 29) ["word", "width", "worths", "into", "spot"] (F__law_due K) := by
  obtain ⟨fd, FF⟩ := T.says.defs.def_ 20 (d := d__law_due) rfl
  have FF' : FunD K "_law_due" "_law_due" (defArgs (top 29)) (defBody (top 29)) (defScope (top 29)) [] [] (He.ga K "_law_due") fd := FF
  refine ⟨_, fd, g__law_due T, FF', FF'.bindsN fun _ _ _ _ _ _ us hl => (match us, hl with | [_, _, _, _, _], _ => rfl), dfn_of FF' sc__law_due fun cdv A outer s H E go => ?_⟩
  exact ds_cons (s_par 5 6 (da_cons (d_callG (k__law_bits T) (go.room.mono (by decide)) go.gd takes_cx (da_cons (d_var 1) (da_cons (d_ix (d_var 2) (d_int)) (da_nil)))) (da_cons (d_callG (k__law_bits T) (go.room.mono (by decide)) go.gd takes_cx (da_cons (d_var 1) (da_cons (d_ix (d_var 2) (d_neg (d_int))) (da_nil)))) (da_nil))) rfl sc__law_due.nd)
    (ds_cons (s_if (dt_eq T.sys go.room (d_var 0) (d_str)) (ds_one (s_ret (d_callG (k__law_made T) (go.room.mono (by decide)) go.gd takes_cx (da_cons (d_frz (d_lc [("bit", 7)] (gName 7) rfl sc__law_due.nd (di_seq (d_var 5)) (by rfl) (fun _ _ _ _ _ => pg_name (i := 7) sc__law_due.nd rfl (by first | exact Or.inl rfl | exact Or.inr rfl) (by first | exact .inl rfl | exact .inr rfl)) (simg_nm) (only_name (by decide)) (fun _ _ _ _ _ => d_sub (d_int) (d_var 7)))) (da_nil))))) (ds_nil))
    (ds_cons (s_if (dt_eq T.sys go.room (d_var 0) (d_str)) (ds_one (s_ret (d_callG (k__law_made T) (go.room.mono (by decide)) go.gd takes_cx (da_cons (d_sl (d_catL true (d_var 5) (d_repF (d_lst (da_cons (d_int) (da_nil))) (d_int))) (do_no) (do_at (d_var 3))) (da_nil))))) (ds_nil))
    (ds_cons (s_if (dt_eq T.sys go.room (d_var 0) (d_str)) (ds_one (s_ret (d_ix (d_var 5) (d_var 4)))) (ds_nil))
    (ds_cons (s_if (dt_eq T.sys go.room (d_var 0) (d_str)) (ds_one (s_ret (d_callG (k__law_carried T) (go.room.mono (by decide)) go.gd takes_cx (da_cons (d_var 1) (da_cons (d_ix (d_var 2) (d_int)) (da_cons (d_ix (d_var 2) (d_int)) (da_cons (d_int) (da_nil)))))))) (ds_nil))
    (ds_cons (s_if (dt_eq T.sys go.room (d_var 0) (d_str)) (ds_one (s_ret (d_callG (k__law_carried T) (go.room.mono (by decide)) go.gd takes_cx (da_cons (d_var 1) (da_cons (d_ix (d_var 2) (d_int)) (da_cons (d_callG (k__law_made T) (go.room.mono (by decide)) go.gd takes_cx (da_cons (d_frz (d_lc [("bit", 7)] (gName 7) rfl sc__law_due.nd (di_seq (d_var 6)) (by rfl) (fun _ _ _ _ _ => pg_name (i := 7) sc__law_due.nd rfl (by first | exact Or.inl rfl | exact Or.inr rfl) (by first | exact .inl rfl | exact .inr rfl)) (simg_nm) (only_name (by decide)) (fun _ _ _ _ _ => d_sub (d_int) (d_var 7)))) (da_nil))) (da_cons (d_int) (da_nil)))))))) (ds_nil))
    (ds_cons (s_if (dt_eq T.sys go.room (d_var 0) (d_str)) (ds_one (s_ret (d_intOf (m_int T) (d_ltP T.sys go.room (d_rev (d_var 5)) (d_rev (d_var 6)))))) (ds_nil))
    (ds_cons (s_if (dt_eq T.sys go.room (d_var 0) (d_str)) (ds_one (s_ret (d_intOf (m_int T) (d_eq T.sys go.room (d_var 5) (d_var 6))))) (ds_nil))
    (ds_cons (s_if (dt_eq T.sys go.room (d_var 0) (d_str)) (ds_one (s_ret (d_callG (k__law_made T) (go.room.mono (by decide)) go.gd takes_cx (da_cons (d_frz (d_lc [("a", 8), ("b", 9)] (gTup K 2 (gCons (gName 8) (gCons (gName 9) gNil))) rfl sc__law_due.nd (di_zip (m_zip T) (d_var 5) (d_var 6)) (by rfl) (fun _ _ _ _ _ => pg_tup rfl (pgs_cons (pg_name (i := 8) sc__law_due.nd rfl (by first | exact Or.inl rfl | exact Or.inr rfl) (by first | exact .inl rfl | exact .inr rfl)) (pgs_cons (pg_name (i := 9) sc__law_due.nd rfl (by first | exact Or.inl rfl | exact Or.inr rfl) (by first | exact .inl rfl | exact .inr rfl)) pgs_nil (by rfl)) (by rfl)) (by rfl) (by rfl)) ((simg_tup (simgs_cons simg_nm (simgs_cons simg_nm simgs_nil)))) ((only_tup (only_cons (by decide) (only_cons (by decide) only_nil)))) (fun _ _ _ _ _ => d_min2 rfl (m_min T) (d_var 8) (d_var 9)))) (da_nil))))) (ds_nil))
    (ds_cons (s_if (dt_eq T.sys go.room (d_var 0) (d_str)) (ds_one (s_ret (d_callG (k__law_made T) (go.room.mono (by decide)) go.gd takes_cx (da_cons (d_frz (d_lc [("a", 8), ("b", 9)] (gTup K 2 (gCons (gName 8) (gCons (gName 9) gNil))) rfl sc__law_due.nd (di_zip (m_zip T) (d_var 5) (d_var 6)) (by rfl) (fun _ _ _ _ _ => pg_tup rfl (pgs_cons (pg_name (i := 8) sc__law_due.nd rfl (by first | exact Or.inl rfl | exact Or.inr rfl) (by first | exact .inl rfl | exact .inr rfl)) (pgs_cons (pg_name (i := 9) sc__law_due.nd rfl (by first | exact Or.inl rfl | exact Or.inr rfl) (by first | exact .inl rfl | exact .inr rfl)) pgs_nil (by rfl)) (by rfl)) (by rfl) (by rfl)) ((simg_tup (simgs_cons simg_nm (simgs_cons simg_nm simgs_nil)))) ((only_tup (only_cons (by decide) (only_cons (by decide) only_nil)))) (fun _ _ _ _ _ => d_max2 rfl (m_max T) (d_var 8) (d_var 9)))) (da_nil))))) (ds_nil))
    (ds_one (s_ret (d_callG (k__law_made T) (go.room.mono (by decide)) go.gd takes_cx (da_cons (d_frz (d_lc [("a", 8), ("b", 9)] (gTup K 2 (gCons (gName 8) (gCons (gName 9) gNil))) rfl sc__law_due.nd (di_zip (m_zip T) (d_var 5) (d_var 6)) (by rfl) (fun _ _ _ _ _ => pg_tup rfl (pgs_cons (pg_name (i := 8) sc__law_due.nd rfl (by first | exact Or.inl rfl | exact Or.inr rfl) (by first | exact .inl rfl | exact .inr rfl)) (pgs_cons (pg_name (i := 9) sc__law_due.nd rfl (by first | exact Or.inl rfl | exact Or.inr rfl) (by first | exact .inl rfl | exact .inr rfl)) pgs_nil (by rfl)) (by rfl)) (by rfl) (by rfl)) ((simg_tup (simgs_cons simg_nm (simgs_cons simg_nm simgs_nil)))) ((only_tup (only_cons (by decide) (only_cons (by decide) only_nil)))) (fun _ _ _ _ _ => d_intOf (m_int T) (d_ne T.sys go.room (d_var 8) (d_var 9))))) (da_nil))))))))))))))
/-! _law_refused_right: 0 purse, 1 word, 2 width, 3 worths, 4 odd, 5 wide, 6 top, 7 bad, 8 least, 9 past, 10 rows, 11 due, 12 one, 13 two, 14 three, 15 more, 16 told, 17 kept, 18 found -/
theorem sc__law_refused_right : FnScope ["purse", "word", "width", "worths", "odd", "wide", "top", "bad", "least", "past", "rows", "due", "one", "two", "three", "more", "told", "kept", "found"] ["purse", "word", "width", "worths"] (defScope (top 32)) := ⟨rfl, rfl, rfl, by decide +kernel, rfl, by decide +kernel, by decide +kernel⟩
def f__law_refused_right (K : PySem.W.Frag) : SF := sSeq (sAsg (dOp gIx (dLstF (dCons (dC (.non)) (dCons (dC (.int 7)) (dCons (dC (.str "pick")) (dCons (dC (.str "NOT")) (dCons (dC (.str "")) (dCons (dLst (dCons (dC (.str "add")) (dNil))) (dCons (dTup (dCons (dC (.str "add")) (dNil))) (dCons (dC (.str "lit")) (dCons (dDct0) (dCons (dC (.bl true)) (dNil)))))))))))) (dCall (F__law_take K) (dCons (dVar 0) (dCons (dC (.int 10)) (dNil))))) (gNm 4))
  (sSeq (sAsg (dOp gIx (dLstF (dCons (dC (.non)) (dCons (dC (.int 0)) (dCons (dC (.int 9)) (dCons (dC (.bl true)) (dCons (dC (.str "1")) (dCons (dLst (dCons (dC (.int 1)) (dNil))) (dCons (dDct0) (dCons (dNeg (dC (.int 1))) (dNil)))))))))) (dCall (F__law_take K) (dCons (dVar 0) (dCons (dC (.int 8)) (dNil))))) (gNm 5))
  (sSeq (sAsg (dOp oShl (dC (.int 1)) (dVar 2)) (gNm 6))
  (sSeq (sAsg (dLst (dCons (dOp (gCatL false) (dVar 3) (dLstF (dCons (dC (.int 0)) (dNil)))) (dCons (dSlM (dVar 3) (dPt (dC (.int 1))) (dNoP)) (dCons (dOp (gCatL false) (dLstF (dCons (dVar 6) (dNil))) (dSl (dVar 3) (dPt (dC (.int 1))) (dNoP))) (dCons (dOp (gCatL false) (dSl (dVar 3) (dNoP) (dPt (dNeg (dC (.int 1))))) (dLstF (dCons (dC (.bl true)) (dNil)))) (dCons (dC (.non)) (dCons (dC (.str "00")) (dCons (dDct0) (dCons (dOp gRepM (dLst (dCons (dC (.non)) (dNil))) (dCB gLen (dOne (dVar 3)))) (dNil)))))))))) (gNm 7))
  (sSeq (sAsg (dOp gIx (dOp (gCatL true) (dVar 7) (dLstF (dCons (dOp gCatT (dCB gTupOf (dOne (dSl (dVar 3) (dNoP) (dPt (dNeg (dC (.int 1))))))) (dTup (dCons (dNeg (dC (.int 1))) (dNil)))) (dNil)))) (dCall (F__law_take K) (dCons (dVar 0) (dCons (dC (.int 9)) (dNil))))) (gNm 7))
  (sSeq (sAsg (dOp gIx (dLstF (dCons (dC (.int 0)) (dCons (dC (.int 9)) (dCons (dC (.bl true)) (dCons (dC (.non)) (dCons (dLst (dCons (dC (.int 1)) (dNil))) (dCons (dC (.str "1")) (dNil)))))))) (dCall (F__law_take K) (dCons (dVar 0) (dCons (dC (.int 6)) (dNil))))) (gNm 8))
  (sSeq (sAsg (dOp gIx (dLstF (dCons (dVar 2) (dCons (dNeg (dC (.int 1))) (dCons (dC (.bl true)) (dCons (dC (.non)) (dCons (dLst (dCons (dC (.int 0)) (dNil))) (dCons (dC (.int 8)) (dNil)))))))) (dCall (F__law_take K) (dCons (dVar 0) (dCons (dC (.int 6)) (dNil))))) (gNm 9))
  (sSeq (sAsg (dLst (dCons (dTup (dCons (dVar 4) (dCons (dVar 5) (dCons (dVar 7) (dCons (dTup (dCons (dVar 8) (dCons (dVar 9) (dNil)))) (dCons (dLstF (dCons (dC (.str "op")) (dCons (dVar 4) (dNil)))) (dNil))))))) (dCons (dTup (dCons (dVar 1) (dCons (dVar 5) (dCons (dVar 7) (dCons (dTup (dCons (dVar 8) (dCons (dVar 9) (dNil)))) (dCons (dLstF (dCons (dC (.str "width")) (dCons (dVar 5) (dNil)))) (dNil))))))) (dNil)))) (gNm 10))
  (sSeq (sDrop (dApp (dVar 10) (dTup (dCons (dVar 1) (dCons (dVar 2) (dCons (dVar 7) (dCons (dTup (dCons (dVar 8) (dCons (dVar 9) (dNil)))) (dCons (dLstF (dCons (dC (.str "worths")) (dCons (dVar 7) (dNil)))) (dNil)))))))))
  (sSeq (sAsg (dLstF (dCons (dC (.str "told")) (dCons (dC (.non)) (dNil)))) (gNm 11))
  (sSeq (sIf (dVal (dOp (gE false) (dVar 1) (dC (.str "wide")))) (sAsg (dLstF (dCons (dC (.str "width")) (dCons (dVar 8) (dNil)))) (gNm 11)) (sNext))
  (sSeq (sIf (dVal (dOp (gE false) (dVar 1) (dC (.str "bit")))) (sAsg (dLstF (dCons (dC (.str "number")) (dCons (dVar 9) (dNil)))) (gNm 11)) (sNext))
  (sSeq (sIf (dVal (dOp (gE false) (dOp gIx (dVar 11) (dC (.int 0))) (dC (.str "told")))) (sAsg (dLstF (dCons (dC (.str "told")) (dCons (dCall (F__law_due K) (dCons (dVar 1) (dCons (dVar 2) (dCons (dVar 3) (dCons (dC (.int 1)) (dCons (dC (.int 0)) (dNil))))))) (dNil)))) (gNm 11)) (sNext))
  (sSeq (sDrop (dApp (dVar 10) (dTup (dCons (dVar 1) (dCons (dVar 2) (dCons (dVar 3) (dCons (dTup (dCons (dVar 8) (dCons (dVar 9) (dNil)))) (dCons (dVar 11) (dNil)))))))))
  (sFrz 10 (sSeq (sFor (iSq (dVar 10)) (gTupD 5 (gsCons (gNm 12) (gsCons (gNm 13) (gsCons (gNm 14) (gsCons (gNm 15) (gsCons (gNm 16) (gsNil))))))) (sSeq (sAsg (dCB gRepr (dOne (dLstF (dCons (dVar 12) (dCons (dVar 13) (dCons (dVar 14) (dCons (dVar 15) (dCons (dVar 16) (dNil))))))))) (gNm 17))
  (sSeq (sAsg (dCall (F__law_asked K) (dCons (dVar 12) (dCons (dVar 13) (dCons (dVar 14) (dCons (dVar 15) (dNil)))))) (gNm 18))
  (sSeq (sIf (dOrT (dVal (dOp (gE true) (dCB gRepr (dOne (dVar 18))) (dCB gRepr (dOne (dVar 16))))) (dVal (dOp (gE true) (dCB gRepr (dOne (dLstF (dCons (dVar 12) (dCons (dVar 13) (dCons (dVar 14) (dCons (dVar 15) (dCons (dVar 16) (dNil))))))))) (dVar 17)))) (sRet (dC (.bl false))) (sNext))
  (sIf (dVal (dCB gIsi (dCons (dOp gIx (dVar 16) (dC (.int 1))) (dOne (dC (.v (.ty "list"))))))) (sSeq (sDrop (dApp (dOp gIx (dVar 16) (dC (.int 1))) (dC (.int 3))))
  (sSeq (sIf (dVal (dOp (gE true) (dCB gRepr (dOne (dOp gIx (dVar 18) (dC (.int 1))))) (dCB gRepr (dOne (dOp gIx (dVar 16) (dC (.int 1))))))) (sRet (dC (.bl false))) (sNext))
  (sDrop (dPop (dOp gIx (dVar 16) (dC (.int 1))))))) (sNext))))))
  (sRet (dC (.bl true))))))))))))))))))
def F__law_refused_right (K : PySem.W.Frag) : FD := bodyF ["purse", "word", "width", "worths", "odd", "wide", "top", "bad", "least", "past", "rows", "due", "one", "two", "three", "more", "told", "kept", "found"] (f__law_refused_right K)
def b1__law_refused_right : FS := qSeq (qAsg (pCB aRepr (pCons (pLstF (pCons (pVar 12) (pCons (pVar 13) (pCons (pVar 14) (pCons (pVar 15) (pCons (pVar 16) (pNil))))))) pNil)) (tNm 17))
  (qSeq (qAsg (pCall p__law_asked (pCons (pVar 12) (pCons (pVar 13) (pCons (pVar 14) (pCons (pVar 15) (pNil)))))) (tNm 18))
  (qSeq (qIf (pOrT (pVal (pOp (aEq true) (pCB aRepr (pCons (pVar 18) pNil)) (pCB aRepr (pCons (pVar 16) pNil)))) (pVal (pOp (aEq true) (pCB aRepr (pCons (pLstF (pCons (pVar 12) (pCons (pVar 13) (pCons (pVar 14) (pCons (pVar 15) (pCons (pVar 16) (pNil))))))) pNil)) (pVar 17)))) (qRet (pC (.bl false))) (qNext))
  (qIf (pVal (pCB aIsi (pCons (pOp aIx (pVar 16) (pC (.int 1))) (pCons (pC (.ty "list")) pNil)))) (qSeq (qDrop (pApp (pOp aIx (pVar 16) (pC (.int 1))) (pC (.int 3))))
  (qSeq (qIf (pVal (pOp (aEq true) (pCB aRepr (pCons (pOp aIx (pVar 18) (pC (.int 1))) pNil)) (pCB aRepr (pCons (pOp aIx (pVar 16) (pC (.int 1))) pNil)))) (qRet (pC (.bl false))) (qNext))
  (qDrop (pPop (pOp aIx (pVar 16) (pC (.int 1))))))) (qNext))))
def q__law_refused_right : FS := qSeq (qAsg (pOp aIx (pLstF (pCons (pC (.non)) (pCons (pC (.int 7)) (pCons (pC (.str "pick")) (pCons (pC (.str "NOT")) (pCons (pC (.str "")) (pCons (pNew (vLst (pCons (pC (.str "add")) (pNil)))) (pCons (pTup (pCons (pC (.str "add")) (pNil))) (pCons (pC (.str "lit")) (pCons (pDct0) (pCons (pC (.bl true)) (pNil)))))))))))) (pCall p__law_take (pCons (pVar 0) (pCons (pC (.int 10)) (pNil))))) (tNm 4))
  (qSeq (qAsg (pOp aIx (pLstF (pCons (pC (.non)) (pCons (pC (.int 0)) (pCons (pC (.int 9)) (pCons (pC (.bl true)) (pCons (pC (.str "1")) (pCons (pNew (vLst (pCons (pC (.int 1)) (pNil)))) (pCons (pDct0) (pCons (pNeg (pC (.int 1))) (pNil)))))))))) (pCall p__law_take (pCons (pVar 0) (pCons (pC (.int 8)) (pNil))))) (tNm 5))
  (qSeq (qAsg (pOp aShl (pC (.int 1)) (pVar 2)) (tNm 6))
  (qSeq (qAsg (pNew (vLst (pCons (pNew (vCat (pVar 3) (pLstF (pCons (pC (.int 0)) (pNil))))) (pCons (pNew (vSl (pVar 3) (pPt (pC (.int 1))) (pNoP))) (pCons (pNew (vCat (pLstF (pCons (pVar 6) (pNil))) (pSl (pVar 3) (pPt (pC (.int 1))) (pNoP)))) (pCons (pNew (vCat (pSl (pVar 3) (pNoP) (pPt (pNeg (pC (.int 1))))) (pLstF (pCons (pC (.bl true)) (pNil))))) (pCons (pC (.non)) (pCons (pC (.str "00")) (pCons (pDct0) (pCons (pNew (vRep (vLst (pCons (pC (.non)) (pNil))) (pCB aLen (pCons (pVar 3) pNil)))) (pNil))))))))))) (tNm 7))
  (qSeq (qAsg (pOp aIx (pOp (aCatL true) (pVar 7) (pLstF (pCons (pOp aCatT (pCB aTupOf (pCons (pSl (pVar 3) (pNoP) (pPt (pNeg (pC (.int 1))))) pNil)) (pTup (pCons (pNeg (pC (.int 1))) (pNil)))) (pNil)))) (pCall p__law_take (pCons (pVar 0) (pCons (pC (.int 9)) (pNil))))) (tNm 7))
  (qSeq (qAsg (pOp aIx (pLstF (pCons (pC (.int 0)) (pCons (pC (.int 9)) (pCons (pC (.bl true)) (pCons (pC (.non)) (pCons (pNew (vLst (pCons (pC (.int 1)) (pNil)))) (pCons (pC (.str "1")) (pNil)))))))) (pCall p__law_take (pCons (pVar 0) (pCons (pC (.int 6)) (pNil))))) (tNm 8))
  (qSeq (qAsg (pOp aIx (pLstF (pCons (pVar 2) (pCons (pNeg (pC (.int 1))) (pCons (pC (.bl true)) (pCons (pC (.non)) (pCons (pNew (vLst (pCons (pC (.int 0)) (pNil)))) (pCons (pC (.int 8)) (pNil)))))))) (pCall p__law_take (pCons (pVar 0) (pCons (pC (.int 6)) (pNil))))) (tNm 9))
  (qSeq (qOwnV 10 (vLst (pCons (pTup (pCons (pVar 4) (pCons (pVar 5) (pCons (pVar 7) (pCons (pTup (pCons (pVar 8) (pCons (pVar 9) (pNil)))) (pCons (pLstF (pCons (pC (.str "op")) (pCons (pVar 4) (pNil)))) (pNil))))))) (pCons (pTup (pCons (pVar 1) (pCons (pVar 5) (pCons (pVar 7) (pCons (pTup (pCons (pVar 8) (pCons (pVar 9) (pNil)))) (pCons (pLstF (pCons (pC (.str "width")) (pCons (pVar 5) (pNil)))) (pNil))))))) (pNil)))))
  (qSeq (qApp 10 (pTup (pCons (pVar 1) (pCons (pVar 2) (pCons (pVar 7) (pCons (pTup (pCons (pVar 8) (pCons (pVar 9) (pNil)))) (pCons (pLstF (pCons (pC (.str "worths")) (pCons (pVar 7) (pNil)))) (pNil))))))))
  (qSeq (qAsg (pLstF (pCons (pC (.str "told")) (pCons (pC (.non)) (pNil)))) (tNm 11))
  (qSeq (qIf (pVal (pOp (aEq false) (pVar 1) (pC (.str "wide")))) (qAsg (pLstF (pCons (pC (.str "width")) (pCons (pVar 8) (pNil)))) (tNm 11)) (qNext))
  (qSeq (qIf (pVal (pOp (aEq false) (pVar 1) (pC (.str "bit")))) (qAsg (pLstF (pCons (pC (.str "number")) (pCons (pVar 9) (pNil)))) (tNm 11)) (qNext))
  (qSeq (qIf (pVal (pOp (aEq false) (pOp aIx (pVar 11) (pC (.int 0))) (pC (.str "told")))) (qAsg (pLstF (pCons (pC (.str "told")) (pCons (pCall p__law_due (pCons (pVar 1) (pCons (pVar 2) (pCons (pVar 3) (pCons (pC (.int 1)) (pCons (pC (.int 0)) (pNil))))))) (pNil)))) (tNm 11)) (qNext))
  (qSeq (qApp 10 (pTup (pCons (pVar 1) (pCons (pVar 2) (pCons (pVar 3) (pCons (pTup (pCons (pVar 8) (pCons (pVar 9) (pNil)))) (pCons (pVar 11) (pNil))))))))
  (qFrz 10 (qSeq (qFor (pISq (pVar 10)) (tTup 5 (tCons (tNm 12) (tCons (tNm 13) (tCons (tNm 14) (tCons (tNm 15) (tCons (tNm 16) (tNil))))))) b1__law_refused_right)
  (qRet (pC (.bl true))))))))))))))))))
def p__law_refused_right : FF := bodyA 19 q__law_refused_right
theorem k__law_refused_right {P : Program} {w : World} {K : PySem.W.Frag} {mg : Str → Option Value} {base : Heap} (T : Tx K mg base) : DefG P w K mg base "_law_refused_right" 7 (top 32) ["purse", "word", "width", "worths"] (F__law_refused_right K) := by
  obtain ⟨fd, FF⟩ := T.says.defs.def_ 21 (d := d__law_refused_right) rfl
  have FF' : FunD K "_law_refused_right" "_law_refused_right" (defArgs (top 32)) (defBody (top 32)) (defScope (top 32)) [] [] (He.ga K "_law_refused_right") fd := FF
  refine ⟨_, fd, g__law_refused_right T, FF', FF'.bindsN fun _ _ _ _ _ _ us hl => (match us, hl with | [_, _, _, _], _ => rfl), dfn_of FF' sc__law_refused_right fun cdv A outer s H E go => ?_⟩
  exact ds_cons (s_set 4 (d_ix (d_lstF (da_cons (d_non) (da_cons (d_int) (da_cons (d_str) (da_cons (d_str) (da_cons (d_str) (da_cons (d_lst (da_cons (d_str) (da_nil))) (da_cons (d_tup (da_cons (d_str) (da_nil))) (da_cons (d_str) (da_cons (d_dct0) (da_cons (d_bl) (da_nil)))))))))))) (d_callG (k__law_take T) (go.room.mono (by decide)) go.gd takes_cx (da_cons (d_var 0) (da_cons (d_int) (da_nil))))) sc__law_refused_right.nd)
    (ds_cons (s_set 5 (d_ix (d_lstF (da_cons (d_non) (da_cons (d_int) (da_cons (d_int) (da_cons (d_bl) (da_cons (d_str) (da_cons (d_lst (da_cons (d_int) (da_nil))) (da_cons (d_dct0) (da_cons (d_neg (d_int)) (da_nil)))))))))) (d_callG (k__law_take T) (go.room.mono (by decide)) go.gd takes_cx (da_cons (d_var 0) (da_cons (d_int) (da_nil))))) sc__law_refused_right.nd)
    (ds_cons (s_set 6 (d_shl (d_int) (d_var 2)) sc__law_refused_right.nd)
    (ds_cons (s_set 7 (d_lst (da_cons (d_catL false (d_var 3) (d_lstF (da_cons (d_int) (da_nil)))) (da_cons (d_slM (d_var 3) (do_at (d_int)) (do_no)) (da_cons (d_catL false (d_lstF (da_cons (d_var 6) (da_nil))) (d_sl (d_var 3) (do_at (d_int)) (do_no))) (da_cons (d_catL false (d_sl (d_var 3) (do_no) (do_at (d_neg (d_int)))) (d_lstF (da_cons (d_bl) (da_nil)))) (da_cons (d_non) (da_cons (d_str) (da_cons (d_dct0) (da_cons (d_repM (d_lst (da_cons (d_non) (da_nil))) (d_len (m_len T) (d_var 3))) (da_nil)))))))))) sc__law_refused_right.nd)
    (ds_cons (s_set 7 (d_ix (d_catL true (d_var 7) (d_lstF (da_cons (d_catT (d_tupOf (m_tuple T) (d_sl (d_var 3) (do_no) (do_at (d_neg (d_int))))) (d_tup (da_cons (d_neg (d_int)) (da_nil)))) (da_nil)))) (d_callG (k__law_take T) (go.room.mono (by decide)) go.gd takes_cx (da_cons (d_var 0) (da_cons (d_int) (da_nil))))) sc__law_refused_right.nd)
    (ds_cons (s_set 8 (d_ix (d_lstF (da_cons (d_int) (da_cons (d_int) (da_cons (d_bl) (da_cons (d_non) (da_cons (d_lst (da_cons (d_int) (da_nil))) (da_cons (d_str) (da_nil)))))))) (d_callG (k__law_take T) (go.room.mono (by decide)) go.gd takes_cx (da_cons (d_var 0) (da_cons (d_int) (da_nil))))) sc__law_refused_right.nd)
    (ds_cons (s_set 9 (d_ix (d_lstF (da_cons (d_var 2) (da_cons (d_neg (d_int)) (da_cons (d_bl) (da_cons (d_non) (da_cons (d_lst (da_cons (d_int) (da_nil))) (da_cons (d_int) (da_nil)))))))) (d_callG (k__law_take T) (go.room.mono (by decide)) go.gd takes_cx (da_cons (d_var 0) (da_cons (d_int) (da_nil))))) sc__law_refused_right.nd)
    (ds_cons (s_set 10 (d_lst (da_cons (d_tup (da_cons (d_var 4) (da_cons (d_var 5) (da_cons (d_var 7) (da_cons (d_tup (da_cons (d_var 8) (da_cons (d_var 9) (da_nil)))) (da_cons (d_lstF (da_cons (d_str) (da_cons (d_var 4) (da_nil)))) (da_nil))))))) (da_cons (d_tup (da_cons (d_var 1) (da_cons (d_var 5) (da_cons (d_var 7) (da_cons (d_tup (da_cons (d_var 8) (da_cons (d_var 9) (da_nil)))) (da_cons (d_lstF (da_cons (d_str) (da_cons (d_var 5) (da_nil)))) (da_nil))))))) (da_nil)))) sc__law_refused_right.nd)
    (ds_cons (s_expr (d_append (d_var 10) (d_tup (da_cons (d_var 1) (da_cons (d_var 2) (da_cons (d_var 7) (da_cons (d_tup (da_cons (d_var 8) (da_cons (d_var 9) (da_nil)))) (da_cons (d_lstF (da_cons (d_str) (da_cons (d_var 7) (da_nil)))) (da_nil)))))))))
    (ds_cons (s_set 11 (d_lstF (da_cons (d_str) (da_cons (d_non) (da_nil)))) sc__law_refused_right.nd)
    (ds_cons (s_if (dt_eq T.sys go.room (d_var 1) (d_str)) (ds_one (s_set 11 (d_lstF (da_cons (d_str) (da_cons (d_var 8) (da_nil)))) sc__law_refused_right.nd)) (ds_nil))
    (ds_cons (s_if (dt_eq T.sys go.room (d_var 1) (d_str)) (ds_one (s_set 11 (d_lstF (da_cons (d_str) (da_cons (d_var 9) (da_nil)))) sc__law_refused_right.nd)) (ds_nil))
    (ds_cons (s_if (dt_eq T.sys go.room (d_ix (d_var 11) (d_int)) (d_str)) (ds_one (s_set 11 (d_lstF (da_cons (d_str) (da_cons (d_callG (k__law_due T) (go.room.mono (by decide)) go.gd takes_cx (da_cons (d_var 1) (da_cons (d_var 2) (da_cons (d_var 3) (da_cons (d_int) (da_cons (d_int) (da_nil))))))) (da_nil)))) sc__law_refused_right.nd)) (ds_nil))
    (ds_cons (s_expr (d_append (d_var 10) (d_tup (da_cons (d_var 1) (da_cons (d_var 2) (da_cons (d_var 3) (da_cons (d_tup (da_cons (d_var 8) (da_cons (d_var 9) (da_nil)))) (da_cons (d_var 11) (da_nil)))))))))
    (ss_frz 10 (ds_cons (s_for PassesOwn.leaving rfl (di_seq (d_var 10)) (g_tup rfl (gs_cons (g_name 12 sc__law_refused_right.nd) (gs_cons (g_name 13 sc__law_refused_right.nd) (gs_cons (g_name 14 sc__law_refused_right.nd) (gs_cons (g_name 15 sc__law_refused_right.nd) (gs_cons (g_name 16 sc__law_refused_right.nd) (gs_nil)))))) (n := 5)) (ds_cons (s_set 17 (d_repr T.sys go.gd go.room (m_repr T) (d_lstF (da_cons (d_var 12) (da_cons (d_var 13) (da_cons (d_var 14) (da_cons (d_var 15) (da_cons (d_var 16) (da_nil)))))))) sc__law_refused_right.nd)
    (ds_cons (s_set 18 (d_callG (k__law_asked T) (go.room.mono (by decide)) go.gd takes_cx (da_cons (d_var 12) (da_cons (d_var 13) (da_cons (d_var 14) (da_cons (d_var 15) (da_nil)))))) sc__law_refused_right.nd)
    (ds_cons (s_if (dt_w (dw_or (dt_ne T.sys go.room (d_repr T.sys go.gd go.room (m_repr T) (d_var 18)) (d_repr T.sys go.gd go.room (m_repr T) (d_var 16))) (dw_or1 (dt_ne T.sys go.room (d_repr T.sys go.gd go.room (m_repr T) (d_lstF (da_cons (d_var 12) (da_cons (d_var 13) (da_cons (d_var 14) (da_cons (d_var 15) (da_cons (d_var 16) (da_nil)))))))) (d_var 17))))) (ds_one (s_ret (d_bl))) (ds_nil))
    (ds_one (s_if (dt_val (d_isi (m_isinstance T) (m_list T) rfl (d_ix (d_var 16) (d_int)))) (ds_cons (s_expr (d_append (d_ix (d_var 16) (d_int)) (d_int)))
    (ds_cons (s_if (dt_ne T.sys go.room (d_repr T.sys go.gd go.room (m_repr T) (d_ix (d_var 18) (d_int))) (d_repr T.sys go.gd go.room (m_repr T) (d_ix (d_var 16) (d_int)))) (ds_one (s_ret (d_bl))) (ds_nil))
    (ds_one (s_expr (d_pop (d_ix (d_var 16) (d_int))))))) (ds_nil)))))))
    (ds_one (s_ret (d_bl))))))))))))))))))
/-! law: 0 script, 1 k, 2 purse, 3 word, 4 width, 5 many, 6 turn, 7 worths, 8 lap, 9 into, 10 spot, 11 handed, 12 found, 13 alone, 14 due, 15 one -/
theorem sc_law : FnScope ["script", "k", "purse", "word", "width", "many", "turn", "worths", "lap", "into", "spot", "handed", "found", "alone", "due", "one"] ["script"] (defScope (top 33)) := ⟨rfl, rfl, rfl, by decide +kernel, rfl, by decide +kernel, by decide +kernel⟩
def f_law (K : PySem.W.Frag) : SF := sSeq (sIf (dVal (dOp (gE true) (dCB gRepr (dOne (dC (.tup l_WORDS)))) (dCB gRepr (dOne (dTup (dCons (dC (.str "not")) (dCons (dC (.str "and")) (dCons (dC (.str "or")) (dCons (dC (.str "xor")) (dCons (dC (.str "add")) (dCons (dC (.str "sub")) (dCons (dC (.str "less")) (dCons (dC (.str "same")) (dCons (dC (.str "wide")) (dCons (dC (.str "bit")) (dNil)))))))))))))))) (sRet (dC (.bl false))) (sNext))
  (sSeq (sFor (iRg (dCB gMax2 (dCons (dC (.int 2)) (dOne (dCB gMin2 (dCons (dC (.int 8)) (dOne (dCB gLen (dOne (dVar 0)))))))))) (gNm 1) (sSeq (sAsg (dCall (F__law_purse K) (dCons (dCall (F__law_cell K) (dCons (dVar 0) (dCons (dVar 1) (dNil)))) (dNil))) (gNm 2))
  (sFor (iSq (dC (.tup l_WORDS))) (gNm 3) (sSeq (sAsg (dOp gIx (dLstF (dCons (dC (.int 1)) (dCons (dC (.int 8)) (dCons (dOp oAdd (dC (.int 1)) (dCall (F__law_take K) (dCons (dVar 2) (dCons (dC (.int 8)) (dNil))))) (dNil))))) (dCall (F__law_take K) (dCons (dVar 2) (dCons (dC (.int 3)) (dNil))))) (gNm 4))
  (sSeq (sAsg (dIf (dVal (dOp (gIn false) (dVar 3) (dTup (dCons (dC (.str "not")) (dCons (dC (.str "wide")) (dCons (dC (.str "bit")) (dNil))))))) (dC (.int 1)) (dC (.int 2))) (gNm 5))
  (sSeq (sFor (iRg (dC (.int 4))) (gNm 6) (sSeq (sAsg (dFrz (dLc (iRg (dVar 5)) (gNm 8) [8] dYes (dCall (F__law_worth K) (dCons (dVar 2) (dCons (dVar 4) (dNil)))))) (gNm 7))
  (sSeq (sIf (dVal (dOp (gE false) (dCall (F__law_take K) (dCons (dVar 2) (dCons (dC (.int 4)) (dNil)))) (dC (.int 0)))) (sAsg (dOp gRepF (dSlM (dVar 7) (dNoP) (dPt (dC (.int 1)))) (dVar 5)) (gNm 7)) (sNext))
  (sSeq (sAsg (dOp gIx (dLstF (dCons (dC (.int 1)) (dCons (dC (.int 8)) (dCons (dOp oAdd (dC (.int 1)) (dCall (F__law_take K) (dCons (dVar 2) (dCons (dC (.int 8)) (dNil))))) (dNil))))) (dCall (F__law_take K) (dCons (dVar 2) (dCons (dC (.int 3)) (dNil))))) (gNm 9))
  (sSeq (sAsg (dOp gIx (dLstF (dCons (dC (.int 0)) (dCons (dOp oSub (dVar 4) (dC (.int 1))) (dNil)))) (dCall (F__law_take K) (dCons (dVar 2) (dCons (dC (.int 2)) (dNil))))) (gNm 10))
  (sSeq (sAsg (dOp gIx (dLstF (dCons (dVar 7) (dCons (dCB gTupOf (dOne (dVar 7))) (dNil)))) (dCall (F__law_take K) (dCons (dVar 2) (dCons (dC (.int 2)) (dNil))))) (gNm 11))
  (sSeq (sAsg (dLstF (dCons (dCall (F__law_asked K) (dCons (dVar 3) (dCons (dVar 4) (dCons (dVar 11) (dCons (dTup (dCons (dVar 9) (dCons (dVar 10) (dNil)))) (dNil)))))) (dCons (dCall (F__law_asked K) (dCons (dVar 3) (dCons (dVar 4) (dCons (dVar 11) (dCons (dTup (dNil)) (dNil)))))) (dNil)))) (gNm 12))
  (sSeq (sAsg (dCall (F__law_asked K) (dCons (dVar 3) (dCons (dVar 4) (dCons (dVar 11) (dCons (dIf (dVal (dOp (gE false) (dVar 3) (dC (.str "wide")))) (dTup (dCons (dVar 9) (dNil))) (dTup (dCons (dVar 10) (dNil)))) (dNil)))))) (gNm 13))
  (sSeq (sIf (dVal (dOp (gE true) (dCB gRepr (dOne (dVar 13))) (dCB gRepr (dOne (dOp gIx (dVar 12) (dC (.int 0))))))) (sRet (dC (.bl false))) (sNext))
  (sSeq (sAsg (dLstF (dCons (dCall (F__law_due K) (dCons (dVar 3) (dCons (dVar 4) (dCons (dVar 7) (dCons (dVar 9) (dCons (dVar 10) (dNil))))))) (dCons (dCall (F__law_due K) (dCons (dVar 3) (dCons (dVar 4) (dCons (dVar 7) (dCons (dC (.int 1)) (dCons (dC (.int 0)) (dNil))))))) (dNil)))) (gNm 14))
  (sIf (dVal (dOp (gE true) (dCB gRepr (dOne (dVar 12))) (dCB gRepr (dOne (dFrz (dLc (iSq (dVar 14)) (gNm 15) [15] dYes (dLstF (dCons (dC (.str "told")) (dCons (dVar 15) (dNil)))))))))) (sRet (dC (.bl false))) (sNext))))))))))))
  (sIf (dNotT (dVal (dCall (F__law_refused_right K) (dCons (dVar 2) (dCons (dVar 3) (dCons (dVar 4) (dCons (dVar 7) (dNil)))))))) (sRet (dC (.bl false))) (sNext))))))))
  (sRet (dC (.bl true))))
def F_law (K : PySem.W.Frag) : FD := bodyF ["script", "k", "purse", "word", "width", "many", "turn", "worths", "lap", "into", "spot", "handed", "found", "alone", "due", "one"] (f_law K)
def b1_law : FS := qSeq (qAsg (pLstV (pLcV (pIRg (pVar 5)) (tNm 8) [8] pYes (pCall p__law_worth (pCons (pVar 2) (pCons (pVar 4) (pNil)))))) (tNm 7))
  (qSeq (qIf (pVal (pOp (aEq false) (pCall p__law_take (pCons (pVar 2) (pCons (pC (.int 4)) (pNil)))) (pC (.int 0)))) (qAsg (pLstV (vRep (vSl (pVar 7) (pNoP) (pPt (pC (.int 1)))) (pVar 5))) (tNm 7)) (qNext))
  (qSeq (qAsg (pOp aIx (pLstF (pCons (pC (.int 1)) (pCons (pC (.int 8)) (pCons (pOp aAdd (pC (.int 1)) (pCall p__law_take (pCons (pVar 2) (pCons (pC (.int 8)) (pNil))))) (pNil))))) (pCall p__law_take (pCons (pVar 2) (pCons (pC (.int 3)) (pNil))))) (tNm 9))
  (qSeq (qAsg (pOp aIx (pLstF (pCons (pC (.int 0)) (pCons (pOp aSub (pVar 4) (pC (.int 1))) (pNil)))) (pCall p__law_take (pCons (pVar 2) (pCons (pC (.int 2)) (pNil))))) (tNm 10))
  (qSeq (qAsg (pOp aIx (pLstF (pCons (pVar 7) (pCons (pCB aTupOf (pCons (pVar 7) pNil)) (pNil)))) (pCall p__law_take (pCons (pVar 2) (pCons (pC (.int 2)) (pNil))))) (tNm 11))
  (qSeq (qAsg (pLstF (pCons (pCall p__law_asked (pCons (pVar 3) (pCons (pVar 4) (pCons (pVar 11) (pCons (pTup (pCons (pVar 9) (pCons (pVar 10) (pNil)))) (pNil)))))) (pCons (pCall p__law_asked (pCons (pVar 3) (pCons (pVar 4) (pCons (pVar 11) (pCons (pTup (pNil)) (pNil)))))) (pNil)))) (tNm 12))
  (qSeq (qAsg (pCall p__law_asked (pCons (pVar 3) (pCons (pVar 4) (pCons (pVar 11) (pCons (pIf (pVal (pOp (aEq false) (pVar 3) (pC (.str "wide")))) (pTup (pCons (pVar 9) (pNil))) (pTup (pCons (pVar 10) (pNil)))) (pNil)))))) (tNm 13))
  (qSeq (qIf (pVal (pOp (aEq true) (pCB aRepr (pCons (pVar 13) pNil)) (pCB aRepr (pCons (pOp aIx (pVar 12) (pC (.int 0))) pNil)))) (qRet (pC (.bl false))) (qNext))
  (qSeq (qAsg (pLstF (pCons (pCall p__law_due (pCons (pVar 3) (pCons (pVar 4) (pCons (pVar 7) (pCons (pVar 9) (pCons (pVar 10) (pNil))))))) (pCons (pCall p__law_due (pCons (pVar 3) (pCons (pVar 4) (pCons (pVar 7) (pCons (pC (.int 1)) (pCons (pC (.int 0)) (pNil))))))) (pNil)))) (tNm 14))
  (qIf (pVal (pOp (aEq true) (pCB aRepr (pCons (pVar 12) pNil)) (pCB aRepr (pCons (pLstV (pLcV (pISq (pVar 14)) (tNm 15) [15] pYes (pLstF (pCons (pC (.str "told")) (pCons (pVar 15) (pNil)))))) pNil)))) (qRet (pC (.bl false))) (qNext))))))))))
def b2_law : FS := qSeq (qAsg (pOp aIx (pLstF (pCons (pC (.int 1)) (pCons (pC (.int 8)) (pCons (pOp aAdd (pC (.int 1)) (pCall p__law_take (pCons (pVar 2) (pCons (pC (.int 8)) (pNil))))) (pNil))))) (pCall p__law_take (pCons (pVar 2) (pCons (pC (.int 3)) (pNil))))) (tNm 4))
  (qSeq (qAsg (pIf (pVal (pOp (aIn false) (pVar 3) (pTup (pCons (pC (.str "not")) (pCons (pC (.str "wide")) (pCons (pC (.str "bit")) (pNil))))))) (pC (.int 1)) (pC (.int 2))) (tNm 5))
  (qSeq (qFor (pIRg (pC (.int 4))) (tNm 6) b1_law)
  (qIf (pNotT (pVal (pCall p__law_refused_right (pCons (pVar 2) (pCons (pVar 3) (pCons (pVar 4) (pCons (pVar 7) (pNil)))))))) (qRet (pC (.bl false))) (qNext))))
def b3_law : FS := qSeq (qAsg (pCall p__law_purse (pCons (pCall p__law_cell (pCons (pVar 0) (pCons (pVar 1) (pNil)))) (pNil))) (tNm 2))
  (qFor (pISq (pC (.tup a_WORDS))) (tNm 3) b2_law)
def q_law : FS := qSeq (qIf (pVal (pOp (aEq true) (pCB aRepr (pCons (pC (.tup a_WORDS)) pNil)) (pCB aRepr (pCons (pTup (pCons (pC (.str "not")) (pCons (pC (.str "and")) (pCons (pC (.str "or")) (pCons (pC (.str "xor")) (pCons (pC (.str "add")) (pCons (pC (.str "sub")) (pCons (pC (.str "less")) (pCons (pC (.str "same")) (pCons (pC (.str "wide")) (pCons (pC (.str "bit")) (pNil)))))))))))) pNil)))) (qRet (pC (.bl false))) (qNext))
  (qSeq (qFor (pIRg (pCB aMax2 (pCons (pC (.int 2)) (pCons (pCB aMin2 (pCons (pC (.int 8)) (pCons (pCB aLen (pCons (pVar 0) pNil)) pNil))) pNil)))) (tNm 1) b3_law)
  (qRet (pC (.bl true))))
def p_law : FF := bodyA 16 q_law
theorem k_law {P : Program} {w : World} {K : PySem.W.Frag} {mg : Str → Option Value} {base : Heap} (T : Tx K mg base) : DefG P w K mg base "law" 8 (top 33) ["script"] (F_law K) := by
  obtain ⟨fd, FF⟩ := T.says.defs.def_ 22 (d := d_law) rfl
  have FF' : FunD K "law" "law" (defArgs (top 33)) (defBody (top 33)) (defScope (top 33)) [] [] (He.ga K "law") fd := FF
  refine ⟨_, fd, g_law T, FF', FF'.bindsN fun _ _ _ _ _ _ us hl => (match us, hl with | [_], _ => rfl), dfn_of FF' sc_law fun cdv A outer s H E go => ?_⟩
  exact ds_cons (s_if (dt_ne T.sys go.room (d_repr T.sys go.gd go.room (m_repr T) (d_gtup (g_WORDS T) (t_WORDS T) r_WORDS)) (d_repr T.sys go.gd go.room (m_repr T) (d_tup (da_cons (d_str) (da_cons (d_str) (da_cons (d_str) (da_cons (d_str) (da_cons (d_str) (da_cons (d_str) (da_cons (d_str) (da_cons (d_str) (da_cons (d_str) (da_cons (d_str) (da_nil)))))))))))))) (ds_one (s_ret (d_bl))) (ds_nil))
    (ds_cons (s_for PassesOwn.leaving rfl (di_rg (m_range T) (d_max2 rfl (m_max T) (d_int) (d_min2 rfl (m_min T) (d_int) (d_len (m_len T) (d_var 0))))) (g_name 1 sc_law.nd) (ds_cons (s_set 2 (d_callG (k__law_purse T) (go.room.mono (by decide)) go.gd takes_cx (da_cons (d_callG (k__law_cell T) (go.room.mono (by decide)) go.gd takes_cx (da_cons (d_var 0) (da_cons (d_var 1) (da_nil)))) (da_nil))) sc_law.nd)
    (ds_one (s_for PassesOwn.leaving rfl (di_seq (d_gtup (g_WORDS T) (t_WORDS T) r_WORDS)) (g_name 3 sc_law.nd) (ds_cons (s_set 4 (d_ix (d_lstF (da_cons (d_int) (da_cons (d_int) (da_cons (d_add (d_int) (d_callG (k__law_take T) (go.room.mono (by decide)) go.gd takes_cx (da_cons (d_var 2) (da_cons (d_int) (da_nil))))) (da_nil))))) (d_callG (k__law_take T) (go.room.mono (by decide)) go.gd takes_cx (da_cons (d_var 2) (da_cons (d_int) (da_nil))))) sc_law.nd)
    (ds_cons (s_set 5 (d_ifE (dt_in (d_var 3) (d_tup (da_cons (d_str) (da_cons (d_str) (da_cons (d_str) (da_nil)))))) (d_int) (d_int)) sc_law.nd)
    (ds_cons (s_for PassesOwn.leaving rfl (di_rg (m_range T) (d_int)) (g_name 6 sc_law.nd) (ds_cons (s_setLcF 7 [("lap", 8)] (gName 8) rfl sc_law.nd (di_rg (m_range T) (d_var 5)) (by rfl) (fun _ _ _ _ _ => pg_name (i := 8) sc_law.nd rfl (by first | exact Or.inl rfl | exact Or.inr rfl) (by first | exact .inl rfl | exact .inr rfl)) (simg_nm) (only_name (by decide)) (fun _ _ _ _ _ => d_callG (k__law_worth T) (go.room.mono (by decide)) go.gd takes_none5 (da_cons (d_var 2) (da_cons (d_var 4) (da_nil)))) (by rfl))
    (ds_cons (s_if (dt_eq T.sys go.room (d_callG (k__law_take T) (go.room.mono (by decide)) go.gd takes_cx (da_cons (d_var 2) (da_cons (d_int) (da_nil)))) (d_int)) (ds_one (s_set 7 (d_repF (d_slM (d_var 7) (do_no) (do_at (d_int))) (d_var 5)) sc_law.nd)) (ds_nil))
    (ds_cons (s_set 9 (d_ix (d_lstF (da_cons (d_int) (da_cons (d_int) (da_cons (d_add (d_int) (d_callG (k__law_take T) (go.room.mono (by decide)) go.gd takes_cx (da_cons (d_var 2) (da_cons (d_int) (da_nil))))) (da_nil))))) (d_callG (k__law_take T) (go.room.mono (by decide)) go.gd takes_cx (da_cons (d_var 2) (da_cons (d_int) (da_nil))))) sc_law.nd)
    (ds_cons (s_set 10 (d_ix (d_lstF (da_cons (d_int) (da_cons (d_sub (d_var 4) (d_int)) (da_nil)))) (d_callG (k__law_take T) (go.room.mono (by decide)) go.gd takes_cx (da_cons (d_var 2) (da_cons (d_int) (da_nil))))) sc_law.nd)
    (ds_cons (s_set 11 (d_ix (d_lstF (da_cons (d_var 7) (da_cons (d_tupOf (m_tuple T) (d_var 7)) (da_nil)))) (d_callG (k__law_take T) (go.room.mono (by decide)) go.gd takes_cx (da_cons (d_var 2) (da_cons (d_int) (da_nil))))) sc_law.nd)
    (ds_cons (s_set 12 (d_lstF (da_cons (d_callG (k__law_asked T) (go.room.mono (by decide)) go.gd takes_cx (da_cons (d_var 3) (da_cons (d_var 4) (da_cons (d_var 11) (da_cons (d_tup (da_cons (d_var 9) (da_cons (d_var 10) (da_nil)))) (da_nil)))))) (da_cons (d_callG (k__law_asked T) (go.room.mono (by decide)) go.gd takes_cx (da_cons (d_var 3) (da_cons (d_var 4) (da_cons (d_var 11) (da_cons (d_tup (da_nil)) (da_nil)))))) (da_nil)))) sc_law.nd)
    (ds_cons (s_set 13 (d_callG (k__law_asked T) (go.room.mono (by decide)) go.gd takes_cx (da_cons (d_var 3) (da_cons (d_var 4) (da_cons (d_var 11) (da_cons (d_ifE (dt_eq T.sys go.room (d_var 3) (d_str)) (d_tup (da_cons (d_var 9) (da_nil))) (d_tup (da_cons (d_var 10) (da_nil)))) (da_nil)))))) sc_law.nd)
    (ds_cons (s_if (dt_ne T.sys go.room (d_repr T.sys go.gd go.room (m_repr T) (d_var 13)) (d_repr T.sys go.gd go.room (m_repr T) (d_ix (d_var 12) (d_int)))) (ds_one (s_ret (d_bl))) (ds_nil))
    (ds_cons (s_set 14 (d_lstF (da_cons (d_callG (k__law_due T) (go.room.mono (by decide)) go.gd takes_cx (da_cons (d_var 3) (da_cons (d_var 4) (da_cons (d_var 7) (da_cons (d_var 9) (da_cons (d_var 10) (da_nil))))))) (da_cons (d_callG (k__law_due T) (go.room.mono (by decide)) go.gd takes_cx (da_cons (d_var 3) (da_cons (d_var 4) (da_cons (d_var 7) (da_cons (d_int) (da_cons (d_int) (da_nil))))))) (da_nil)))) sc_law.nd)
    (ds_one (s_if (dt_ne T.sys go.room (d_repr T.sys go.gd go.room (m_repr T) (d_var 12)) (d_repr T.sys go.gd go.room (m_repr T) (d_frz (d_lc [("one", 15)] (gName 15) rfl sc_law.nd (di_seq (d_var 14)) (by rfl) (fun _ _ _ _ _ => pg_name (i := 15) sc_law.nd rfl (by first | exact Or.inl rfl | exact Or.inr rfl) (by first | exact .inl rfl | exact .inr rfl)) (simg_nm) (only_name (by decide)) (fun _ _ _ _ _ => d_lstF (da_cons (d_str) (da_cons (d_var 15) (da_nil)))))))) (ds_one (s_ret (d_bl))) (ds_nil)))))))))))))
    (ds_one (s_if (dt_not (dt_val (d_callG (k__law_refused_right T) (go.room.mono (by decide)) go.gd takes_cx (da_cons (d_var 2) (da_cons (d_var 3) (da_cons (d_var 4) (da_cons (d_var 7) (da_nil)))))))) (ds_one (s_ret (d_bl))) (ds_nil))))))))))
    (ds_one (s_ret (d_bl))))
theorem ok__law_purse {K : PySem.W.Frag} {mg : Str → Option Value} {base : Heap} (T : Tx K mg base) : OkF K (F__law_purse K) p__law_purse := okf_body (N := ["cell"]) (f := f__law_purse K) (φ := q__law_purse) (oks_ret (okv_new (okv_lst (ok_cons (ok_cb okc_max2 (ok_consB ((okk_int).b) (ok_consB ((ok_op ok2_sub ((ok_var).b) ((ok_op ok2_pow ((okk_int).b) ((okk_int).b)).b)).b) ok_nilB))) (ok_cons (ok_op ok2_mod ((ok_var).b) ((okk_int).b)) (ok_cons (okk_int) (ok_nil)))))))
theorem ok__law_cell {K : PySem.W.Frag} {mg : Str → Option Value} {base : Heap} (T : Tx K mg base) : OkF K (F__law_cell K) p__law_cell := okf_body (N := ["script", "k"]) (f := f__law_cell K) (φ := q__law_cell) (oks_seq (oks_if (ok_val (ok_op ok2_lt ((ok_var).b) ((ok_cb okc_len (ok_consB ((ok_var).b) ok_nilB)).b)).b) (oks_ret (ok_op ok2_ix ((ok_var).b) ((ok_var).b))) (oks_next))
  (oks_ret (ok_op ok2_add ((ok_op ok2_mul ((okk_int).b) ((ok_var).b)).b) ((okk_int).b))))
theorem ok__law_take {K : PySem.W.Frag} {mg : Str → Option Value} {base : Heap} (T : Tx K mg base) : OkF K (F__law_take K) p__law_take := okf_body (N := ["purse", "many", "digit", "one", "other"]) (f := f__law_take K) (φ := q__law_take) (oks_seq (oks_if (ok_val (ok_op ok2_gt ((ok_op ok2_ix ((ok_var).b) ((okk_int).b)).b) ((okk_int).b)).b) (oks_seq (oks_asg (ok_op ok2_mod ((ok_op ok2_ix ((ok_var).b) ((okk_int).b)).b) ((ok_var).b)) okg_nm)
  (oks_seq (oks_store (ok_op ok2_div ((ok_op ok2_ix ((ok_var).b) ((okk_int).b)).b) ((ok_var).b)) (ok_var) (okk_int))
  (oks_ret (ok_var)))) (oks_next))
  (oks_seq (oks_store (ok_op ok2_add ((ok_op ok2_ix ((ok_var).b) ((okk_int).b)).b) ((okk_int).b)) (ok_var) (okk_int))
  (oks_seq (oks_asg (ok_op ok2_mod ((ok_op ok2_pow ((ok_op ok2_add ((ok_op ok2_add ((ok_op ok2_ix ((ok_var).b) ((okk_int).b)).b) ((ok_op ok2_mul ((okk_int).b) ((ok_op ok2_ix ((ok_var).b) ((okk_int).b)).b)).b)).b) ((okk_int).b)).b) ((okk_int).b)).b) ((okk_int).b)) okg_nm)
  (oks_seq (oks_asg (ok_op ok2_mod ((ok_op ok2_pow ((ok_op ok2_add ((ok_op ok2_mul ((ok_op ok2_ix ((ok_var).b) ((okk_int).b)).b) ((ok_op ok2_ix ((ok_var).b) ((okk_int).b)).b)).b) ((okk_int).b)).b) ((okk_int).b)).b) ((okk_int).b)) okg_nm)
  (oks_ret (ok_op ok2_mod ((ok_op ok2_div ((ok_op ok2_add ((ok_op ok2_mul ((ok_var).b) ((okk_int).b)).b) ((ok_var).b)).b) ((okk_int).b)).b) ((ok_var).b)))))))
theorem ok__law_worth {K : PySem.W.Frag} {mg : Str → Option Value} {base : Heap} (T : Tx K mg base) : OkF K (F__law_worth K) p__law_worth := okf_body (N := ["purse", "width"]) (f := f__law_worth K) (φ := q__law_worth) (oks_ret (ok_op ok2_ix ((ok_lstF (ok_cons (okk_int) (ok_cons (ok_op ok2_sub ((ok_op ok2_shl ((okk_int).b) ((ok_var).b)).b) ((okk_int).b)) (ok_cons (ok_call (ok__law_take T) (ok_cons (ok_var) (ok_cons (ok_op ok2_shl ((okk_int).b) ((ok_var).b)) (ok_nil)))) (ok_nil))))).b) ((ok_call (ok__law_take T) (ok_cons (ok_var) (ok_cons (okk_int) (ok_nil)))).b)))
theorem ok_is_whole {K : PySem.W.Frag} {mg : Str → Option Value} {base : Heap} (T : Tx K mg base) : OkF K (F_is_whole K) p_is_whole := okf_body (N := ["thing", "low", "high"]) (f := f_is_whole K) (φ := q_is_whole) (oks_ret (ok_and ((ok_cb okc_isi (ok_consB ((ok_var).b) (ok_consB okk_ty.b ok_nilB))).b) (ok_and ((ok_not ((ok_cb okc_isi (ok_consB ((ok_var).b) (ok_consB okk_ty.b ok_nilB))).b)).b) (ok_chain ok2_le ok2_le ((ok_var).b) ((ok_var).b) ((ok_var).b)))))
theorem ok_is_width {K : PySem.W.Frag} {mg : Str → Option Value} {base : Heap} (T : Tx K mg base) : OkF K (F_is_width K) p_is_width := okf_body (N := ["thing"]) (f := f_is_width K) (φ := q_is_width) (oks_ret (ok_call (ok_is_whole T) (ok_cons (ok_var) (ok_cons (okk_int) (ok_cons (okk_int) (ok_nil))))))
theorem ok_is_kind {K : PySem.W.Frag} {mg : Str → Option Value} {base : Heap} (T : Tx K mg base) : OkF K (F_is_kind K) p_is_kind := okf_body (N := ["thing"]) (f := f_is_kind K) (φ := q_is_kind) (oks_seq (oks_if (ok_notT (ok_val ((ok_cb okc_isi (ok_consB ((ok_var).b) (ok_consB okk_ty.b ok_nilB))).b))) (oks_ret (ok_call (ok_is_width T) (ok_cons (ok_var) (ok_nil)))) (oks_next))
  (oks_ret (ok_and ((ok_op ok2_eq ((ok_cb okc_len (ok_consB ((ok_var).b) ok_nilB)).b) ((okk_int).b)).b) (ok_and ((ok_call (ok_is_whole T) (ok_cons (ok_op ok2_ix ((ok_var).b) ((okk_int).b)) (ok_cons (okk_int) (ok_cons (okk_int) (ok_nil))))).b) (ok_call (ok_is_width T) (ok_cons (ok_op ok2_ix ((ok_var).b) ((okk_int).b)) (ok_nil)))))))
theorem ok_is_worth {K : PySem.W.Frag} {mg : Str → Option Value} {base : Heap} (T : Tx K mg base) : OkF K (F_is_worth K) p_is_worth := okf_body (N := ["thing", "kind", "many", "width", "one"]) (f := f_is_worth K) (φ := q_is_worth) (oks_seq (oks_if (ok_notT (ok_val ((ok_call (ok_is_kind T) (ok_cons (ok_var) (ok_nil))).b))) (oks_raise (ok_cons (ok_var) (ok_nil))) (oks_next))
  (oks_seq (oks_if (ok_notT (ok_val ((ok_cb okc_isi (ok_consB ((ok_var).b) (ok_consB okk_ty.b ok_nilB))).b))) (oks_ret (ok_call (ok_is_whole T) (ok_cons (ok_var) (ok_cons (okk_int) (ok_cons (ok_op ok2_sub ((ok_op ok2_shl ((okk_int).b) ((ok_var).b)).b) ((okk_int).b)) (ok_nil)))))) (oks_next))
  (oks_seq (oks_asg (ok_var) (okg_tup (okgs_cons (okg_nm) (okgs_cons (okg_nm) (okgs_nil)))))
  (oks_seq (oks_if (ok_orT (ok_notT (ok_val ((ok_cb okc_isi (ok_consB ((ok_var).b) (ok_consB okk_ty.b ok_nilB))).b))) (ok_val (ok_op ok2_eq ((ok_cb okc_len (ok_consB ((ok_var).b) ok_nilB)).b) ((ok_var).b)).b)) (oks_ret (okk_bl)) (oks_next))
  (oks_ret (ok_cb okc_all (ok_consB ((okv_frz (okv_lc (oki_sqB ((ok_var).b)) okg_nm ok_yes (ok_call (ok_is_whole T) (ok_cons (ok_var) (ok_cons (okk_int) (ok_cons (ok_op ok2_sub ((ok_op ok2_shl ((okk_int).b) ((ok_var).b)).b) ((okk_int).b)) (ok_nil))))))).b) ok_nilB)))))))
theorem ok_reckoned_single {K : PySem.W.Frag} {mg : Str → Option Value} {base : Heap} (T : Tx K mg base) : OkF K (F_reckoned_single K) p_reckoned_single := okf_body (N := ["word", "width", "worth", "to", "at"]) (f := f_reckoned_single K) (φ := q_reckoned_single) (oks_seq (oks_if (ok_val (ok_op ok2_eq ((ok_var).b) ((okk_str).b)).b) (oks_ret (ok_op ok2_sub ((ok_op ok2_sub ((ok_op ok2_shl ((okk_int).b) ((ok_var).b)).b) ((okk_int).b)).b) ((ok_var).b))) (oks_next))
  (oks_seq (oks_if (ok_val (ok_op ok2_eq ((ok_var).b) ((okk_str).b)).b) (oks_ret (ok_op ok2_mod ((ok_var).b) ((ok_op ok2_shl ((okk_int).b) ((ok_var).b)).b))) (oks_next))
  (oks_ret (ok_op ok2_and ((ok_op ok2_shr ((ok_var).b) ((ok_var).b)).b) ((okk_int).b)))))
theorem ok_reckoned_two {K : PySem.W.Frag} {mg : Str → Option Value} {base : Heap} (T : Tx K mg base) : OkF K (F_reckoned_two K) p_reckoned_two := okf_body (N := ["word", "width", "one", "other"]) (f := f_reckoned_two K) (φ := q_reckoned_two) (oks_seq (oks_if (ok_val (ok_op ok2_eq ((ok_var).b) ((okk_str).b)).b) (oks_ret (ok_op ok2_and ((ok_var).b) ((ok_var).b))) (oks_next))
  (oks_seq (oks_if (ok_val (ok_op ok2_eq ((ok_var).b) ((okk_str).b)).b) (oks_ret (ok_op ok2_or ((ok_var).b) ((ok_var).b))) (oks_next))
  (oks_seq (oks_if (ok_val (ok_op ok2_eq ((ok_var).b) ((okk_str).b)).b) (oks_ret (ok_op ok2_xor ((ok_var).b) ((ok_var).b))) (oks_next))
  (oks_seq (oks_if (ok_val (ok_op ok2_eq ((ok_var).b) ((okk_str).b)).b) (oks_ret (ok_op ok2_mod ((ok_op ok2_add ((ok_var).b) ((ok_var).b)).b) ((ok_op ok2_shl ((okk_int).b) ((ok_var).b)).b))) (oks_next))
  (oks_seq (oks_if (ok_val (ok_op ok2_eq ((ok_var).b) ((okk_str).b)).b) (oks_ret (ok_op ok2_mod ((ok_op ok2_sub ((ok_var).b) ((ok_var).b)).b) ((ok_op ok2_shl ((okk_int).b) ((ok_var).b)).b))) (oks_next))
  (oks_ret (ok_if (ok_val (ok_op ok2_eq ((ok_var).b) ((okk_str).b)).b) (ok_cb okc_int (ok_consB ((ok_op ok2_lt ((ok_var).b) ((ok_var).b)).b) ok_nilB)) (ok_cb okc_int (ok_consB ((ok_op ok2_eq ((ok_var).b) ((ok_var).b)).b) ok_nilB)))))))))
theorem ok_reckoned {K : PySem.W.Frag} {mg : Str → Option Value} {base : Heap} (T : Tx K mg base) : OkF K (F_reckoned K) p_reckoned := okf_body (N := ["word", "width", "worths", "to", "at", "many", "worth"]) (f := f_reckoned K) (φ := q_reckoned) (oks_seq (oks_if (ok_orT (ok_notT (ok_val ((ok_cb okc_isi (ok_consB ((ok_var).b) (ok_consB okk_ty.b ok_nilB))).b))) (ok_val (ok_op ok2_in ((ok_var).b) ((ok_c (rl_WORDS K)).b)).b)) (oks_raise (ok_cons (ok_var) (ok_nil))) (oks_next))
  (oks_seq (oks_if (ok_notT (ok_val ((ok_call (ok_is_width T) (ok_cons (ok_var) (ok_nil))).b))) (oks_raise (ok_cons (ok_var) (ok_nil))) (oks_next))
  (oks_seq (oks_asg (ok_if (ok_val (ok_op ok2_in ((ok_var).b) ((ok_c (rl_SINGLE K)).b)).b) (okk_int) (okk_int)) okg_nm)
  (oks_seq (oks_if (ok_orT (ok_notT (ok_val ((ok_isi2 ((ok_var).b)).b))) (ok_val (ok_op ok2_eq ((ok_cb okc_len (ok_consB ((ok_var).b) ok_nilB)).b) ((ok_var).b)).b)) (oks_raise (ok_cons (ok_var) (ok_nil))) (oks_next))
  (oks_seq (oks_if (ok_notT (ok_val ((ok_cb okc_all (ok_consB ((okv_frz (okv_lc (oki_sqB ((ok_var).b)) okg_nm ok_yes (ok_call (ok_is_worth T) (ok_cons (ok_var) (ok_cons (ok_var) (ok_nil)))))).b) ok_nilB)).b))) (oks_raise (ok_cons (ok_var) (ok_nil))) (oks_next))
  (oks_seq (oks_if (ok_andT (ok_val (ok_op ok2_eq ((ok_var).b) ((okk_str).b)).b) (ok_notT (ok_val ((ok_call (ok_is_width T) (ok_cons (ok_var) (ok_nil))).b)))) (oks_raise (ok_cons (ok_var) (ok_nil))) (oks_next))
  (oks_seq (oks_if (ok_andT (ok_val (ok_op ok2_eq ((ok_var).b) ((okk_str).b)).b) (ok_notT (ok_val ((ok_call (ok_is_whole T) (ok_cons (ok_var) (ok_cons (okk_int) (ok_cons (ok_op ok2_sub ((ok_var).b) ((okk_int).b)) (ok_nil))))).b)))) (oks_raise (ok_cons (ok_var) (ok_nil))) (oks_next))
  (oks_seq (oks_if (ok_val (ok_op ok2_eq ((ok_var).b) ((okk_int).b)).b) (oks_ret (ok_call (ok_reckoned_single T) (ok_cons (ok_var) (ok_cons (ok_var) (ok_cons (ok_op ok2_ix ((ok_var).b) ((okk_int).b)) (ok_cons (ok_var) (ok_cons (ok_var) (ok_nil)))))))) (oks_next))
  (oks_ret (ok_call (ok_reckoned_two T) (ok_cons (ok_var) (ok_cons (ok_var) (ok_cons (ok_op ok2_ix ((ok_var).b) ((okk_int).b)) (ok_cons (ok_op ok2_ix ((ok_var).b) ((okk_int).b)) (ok_nil)))))))))))))))
theorem ok__law_asked {K : PySem.W.Frag} {mg : Str → Option Value} {base : Heap} (T : Tx K mg base) : OkF K (F__law_asked K) p__law_asked := okf_body (N := ["word", "width", "worths", "more", "one", "e"]) (f := f__law_asked K) (φ := q__law_asked) (oks_try (hx T) (oks_seq (oks_if (ok_val (ok_op ok2_eq ((ok_cb okc_len (ok_consB ((ok_var).b) ok_nilB)).b) ((okk_int).b)).b) (oks_ret (ok_lstF (ok_cons (okk_str) (ok_cons (ok_callD (fun _ => rfl) (ok_reckoned T) (ok_cons (ok_var) (ok_cons (ok_var) (ok_cons (ok_var) (ok_nil)))) (ok_cons (ok_op ok2_ix ((ok_var).b) ((okk_int).b)) (ok_cons (ok_op ok2_ix ((ok_var).b) ((okk_int).b)) (ok_nil)))) (ok_nil))))) (oks_next))
  (oks_seq (oks_if (ok_val (ok_op ok2_eq ((ok_cb okc_len (ok_consB ((ok_var).b) ok_nilB)).b) ((okk_int).b)).b) (oks_seq (oks_asg (ok_if (ok_val (ok_op ok2_eq ((ok_var).b) ((okk_str).b)).b) (ok_callD (fun _ => ⟨_, _, rfl, rfl, rfl⟩) (ok_reckoned T) (ok_cons (ok_var) (ok_cons (ok_var) (ok_cons (ok_var) (ok_nil)))) (ok_cons (ok_op ok2_ix ((ok_var).b) ((okk_int).b)) (ok_nil))) (okk_non)) okg_nm)
  (oks_ret (ok_lstF (ok_cons (okk_str) (ok_cons (ok_if (ok_val (ok_op ok2_eq ((ok_var).b) ((okk_str).b)).b) (ok_callD (fun _ => ⟨_, _, rfl, rfl, rfl⟩) (ok_reckoned T) (ok_cons (ok_var) (ok_cons (ok_var) (ok_cons (ok_var) (ok_nil)))) (ok_cons (ok_op ok2_ix ((ok_var).b) ((okk_int).b)) (ok_nil))) (ok_var)) (ok_nil)))))) (oks_next))
  (oks_ret (ok_lstF (ok_cons (okk_str) (ok_cons (ok_callD (fun _ => ⟨_, _, rfl, rfl, ⟨_, _, rfl, rfl, rfl⟩⟩) (ok_reckoned T) (ok_cons (ok_var) (ok_cons (ok_var) (ok_cons (ok_var) (ok_nil)))) (ok_nil)) (ok_nil))))))) (.one (fun a cls d => oks_ret (ok_lstF (ok_cons (okk_str) (ok_cons (ok_fld) (ok_nil))))) (.one (fun a cls d => oks_ret (ok_lstF (ok_cons (okk_str) (ok_cons (ok_fld) (ok_nil))))) (.one (fun a cls d => oks_ret (ok_lstF (ok_cons (okk_str) (ok_cons (ok_fld) (ok_nil))))) (.one (fun a cls d => oks_ret (ok_lstF (ok_cons (okk_str) (ok_cons (ok_fld) (ok_nil))))) (.bad))))))
theorem ok__law_bits {K : PySem.W.Frag} {mg : Str → Option Value} {base : Heap} (T : Tx K mg base) : OkF K (F__law_bits K) p__law_bits := okf_body (N := ["width", "worth", "k"]) (f := f__law_bits K) (φ := q__law_bits) (oks_ret (okv_frz (okv_lc (oki_rg ((ok_var).b)) okg_nm ok_yes (ok_op ok2_and ((ok_op ok2_shr ((ok_var).b) ((ok_var).b)).b) ((okk_int).b)))))
theorem ok__law_made {K : PySem.W.Frag} {mg : Str → Option Value} {base : Heap} (T : Tx K mg base) : OkF K (F__law_made K) p__law_made := okf_body (N := ["bits", "k", "bit"]) (f := f__law_made K) (φ := q__law_made) (oks_ret (ok_cb okc_sum (ok_consB ((okv_frz (okv_lc (oki_enB ((ok_var).b)) (okg_tup (okgs_cons okg_nm (okgs_cons okg_nm okgs_nil))) ok_yes (ok_op ok2_shl ((ok_var).b) ((ok_var).b)))).b) ok_nilB)))
theorem ok__law_carried {K : PySem.W.Frag} {mg : Str → Option Value} {base : Heap} (T : Tx K mg base) : OkF K (F__law_carried K) p__law_carried := okf_body (N := ["width", "one", "other", "carry", "found", "a", "b"]) (f := f__law_carried K) (φ := q__law_carried) (oks_seq (oks_ownV (okv_lst (ok_nil)))
  (oks_seq (oks_for (oki_zp (ok_cons (ok_call (ok__law_bits T) (ok_cons (ok_var) (ok_cons (ok_var) (ok_nil)))) (ok_cons (ok_call (ok__law_bits T) (ok_cons (ok_var) (ok_cons (ok_var) (ok_nil)))) ok_nil))) (okg_tup (okgs_cons (okg_nm) (okgs_cons (okg_nm) (okgs_nil)))) (oks_seq (oks_app (ok_op ok2_mod ((ok_op ok2_add ((ok_op ok2_add ((ok_var).b) ((ok_var).b)).b) ((ok_var).b)).b) ((okk_int).b)))
  (oks_asg (ok_cb okc_int (ok_consB ((ok_op ok2_gt ((ok_op ok2_add ((ok_op ok2_add ((ok_var).b) ((ok_var).b)).b) ((ok_var).b)).b) ((okk_int).b)).b) ok_nilB)) okg_nm)))
  (oks_frz (oks_ret (ok_call (ok__law_made T) (ok_cons (ok_var) (ok_nil)))))))
theorem ok__law_due {K : PySem.W.Frag} {mg : Str → Option Value} {base : Heap} (T : Tx K mg base) : OkF K (F__law_due K) p__law_due := okf_body (N := ["word", "width", "worths", "into", "spot", "one", "other", "bit", "a", "b"]) (f := f__law_due K) (φ := q__law_due) (oks_seq (oks_par (ok_cons (ok_call (ok__law_bits T) (ok_cons (ok_var) (ok_cons (ok_op ok2_ix ((ok_var).b) ((okk_int).b)) (ok_nil)))) (ok_cons (ok_call (ok__law_bits T) (ok_cons (ok_var) (ok_cons (ok_op ok2_ix ((ok_var).b) ((ok_neg ((okk_int).b)).b)) (ok_nil)))) (ok_nil))))
  (oks_seq (oks_if (ok_val (ok_op ok2_eq ((ok_var).b) ((okk_str).b)).b) (oks_ret (ok_call (ok__law_made T) (ok_cons (okv_frz (okv_lc (oki_sqB ((ok_var).b)) okg_nm ok_yes (ok_op ok2_sub ((okk_int).b) ((ok_var).b)))) (ok_nil)))) (oks_next))
  (oks_seq (oks_if (ok_val (ok_op ok2_eq ((ok_var).b) ((okk_str).b)).b) (oks_ret (ok_call (ok__law_made T) (ok_cons (ok_sl ((ok_op ok2_catL ((ok_var).b) ((ok_rep (okv_lst (ok_cons (okk_int) (ok_nil))) ((okk_int).b)).b)).b) (ok_noP) (ok_pt ((ok_var).b))) (ok_nil)))) (oks_next))
  (oks_seq (oks_if (ok_val (ok_op ok2_eq ((ok_var).b) ((okk_str).b)).b) (oks_ret (ok_op ok2_ix ((ok_var).b) ((ok_var).b))) (oks_next))
  (oks_seq (oks_if (ok_val (ok_op ok2_eq ((ok_var).b) ((okk_str).b)).b) (oks_ret (ok_call (ok__law_carried T) (ok_cons (ok_var) (ok_cons (ok_op ok2_ix ((ok_var).b) ((okk_int).b)) (ok_cons (ok_op ok2_ix ((ok_var).b) ((okk_int).b)) (ok_cons (okk_int) (ok_nil))))))) (oks_next))
  (oks_seq (oks_if (ok_val (ok_op ok2_eq ((ok_var).b) ((okk_str).b)).b) (oks_ret (ok_call (ok__law_carried T) (ok_cons (ok_var) (ok_cons (ok_op ok2_ix ((ok_var).b) ((okk_int).b)) (ok_cons (ok_call (ok__law_made T) (ok_cons (okv_frz (okv_lc (oki_sqB ((ok_var).b)) okg_nm ok_yes (ok_op ok2_sub ((okk_int).b) ((ok_var).b)))) (ok_nil))) (ok_cons (okk_int) (ok_nil))))))) (oks_next))
  (oks_seq (oks_if (ok_val (ok_op ok2_eq ((ok_var).b) ((okk_str).b)).b) (oks_ret (ok_cb okc_int (ok_consB ((ok_op ok2_ltP ((ok_rev ((ok_var).b)).b) ((ok_rev ((ok_var).b)).b)).b) ok_nilB))) (oks_next))
  (oks_seq (oks_if (ok_val (ok_op ok2_eq ((ok_var).b) ((okk_str).b)).b) (oks_ret (ok_cb okc_int (ok_consB ((ok_op ok2_eq ((ok_var).b) ((ok_var).b)).b) ok_nilB))) (oks_next))
  (oks_seq (oks_if (ok_val (ok_op ok2_eq ((ok_var).b) ((okk_str).b)).b) (oks_ret (ok_call (ok__law_made T) (ok_cons (okv_frz (okv_lc (oki_loose (oki_zp (ok_cons (ok_var) (ok_cons (ok_var) ok_nil)))) (okg_tup (okgs_cons okg_nm (okgs_cons okg_nm okgs_nil))) ok_yes (ok_cb okc_min2 (ok_consB ((ok_var).b) (ok_consB ((ok_var).b) ok_nilB))))) (ok_nil)))) (oks_next))
  (oks_seq (oks_if (ok_val (ok_op ok2_eq ((ok_var).b) ((okk_str).b)).b) (oks_ret (ok_call (ok__law_made T) (ok_cons (okv_frz (okv_lc (oki_loose (oki_zp (ok_cons (ok_var) (ok_cons (ok_var) ok_nil)))) (okg_tup (okgs_cons okg_nm (okgs_cons okg_nm okgs_nil))) ok_yes (ok_cb okc_max2 (ok_consB ((ok_var).b) (ok_consB ((ok_var).b) ok_nilB))))) (ok_nil)))) (oks_next))
  (oks_ret (ok_call (ok__law_made T) (ok_cons (okv_frz (okv_lc (oki_loose (oki_zp (ok_cons (ok_var) (ok_cons (ok_var) ok_nil)))) (okg_tup (okgs_cons okg_nm (okgs_cons okg_nm okgs_nil))) ok_yes (ok_cb okc_int (ok_consB ((ok_op ok2_eq ((ok_var).b) ((ok_var).b)).b) ok_nilB)))) (ok_nil))))))))))))))
theorem ok__law_refused_right {K : PySem.W.Frag} {mg : Str → Option Value} {base : Heap} (T : Tx K mg base) : OkF K (F__law_refused_right K) p__law_refused_right := okf_body (N := ["purse", "word", "width", "worths", "odd", "wide", "top", "bad", "least", "past", "rows", "due", "one", "two", "three", "more", "told", "kept", "found"]) (f := f__law_refused_right K) (φ := q__law_refused_right) (oks_seq (oks_asg (ok_op ok2_ix ((ok_lstF (ok_cons (okk_non) (ok_cons (okk_int) (ok_cons (okk_str) (ok_cons (okk_str) (ok_cons (okk_str) (ok_cons (okv_new (okv_lst (ok_cons (okk_str) (ok_nil)))) (ok_cons (ok_tup (ok_cons (okk_str) (ok_nil))) (ok_cons (okk_str) (ok_cons (ok_dct0) (ok_cons (okk_bl) (ok_nil)))))))))))).b) ((ok_call (ok__law_take T) (ok_cons (ok_var) (ok_cons (okk_int) (ok_nil)))).b)) okg_nm)
  (oks_seq (oks_asg (ok_op ok2_ix ((ok_lstF (ok_cons (okk_non) (ok_cons (okk_int) (ok_cons (okk_int) (ok_cons (okk_bl) (ok_cons (okk_str) (ok_cons (okv_new (okv_lst (ok_cons (okk_int) (ok_nil)))) (ok_cons (ok_dct0) (ok_cons (ok_neg ((okk_int).b)) (ok_nil)))))))))).b) ((ok_call (ok__law_take T) (ok_cons (ok_var) (ok_cons (okk_int) (ok_nil)))).b)) okg_nm)
  (oks_seq (oks_asg (ok_op ok2_shl ((okk_int).b) ((ok_var).b)) okg_nm)
  (oks_seq (oks_asg (okv_new (okv_lst (ok_cons (okv_new (okv_cat ((ok_var).b) ((ok_lstF (ok_cons (okk_int) (ok_nil))).b))) (ok_cons (okv_new (okv_sl ((ok_var).b) (ok_pt ((okk_int).b)) (ok_noP))) (ok_cons (okv_new (okv_cat ((ok_lstF (ok_cons (ok_var) (ok_nil))).b) ((ok_sl ((ok_var).b) (ok_pt ((okk_int).b)) (ok_noP)).b))) (ok_cons (okv_new (okv_cat ((ok_sl ((ok_var).b) (ok_noP) (ok_pt ((ok_neg ((okk_int).b)).b))).b) ((ok_lstF (ok_cons (okk_bl) (ok_nil))).b))) (ok_cons (okk_non) (ok_cons (okk_str) (ok_cons (ok_dct0) (ok_cons (okv_new (okv_rep (okv_lst (ok_cons (okk_non) (ok_nil))) ((ok_cb okc_len (ok_consB ((ok_var).b) ok_nilB)).b))) (ok_nil))))))))))) okg_nm)
  (oks_seq (oks_asg (ok_op ok2_ix ((ok_op ok2_catL ((ok_var).b) ((ok_lstF (ok_cons (ok_op ok2_catT ((ok_cb okc_tupOf (ok_consB ((ok_sl ((ok_var).b) (ok_noP) (ok_pt ((ok_neg ((okk_int).b)).b))).b) ok_nilB)).b) ((ok_tup (ok_cons (ok_neg ((okk_int).b)) (ok_nil))).b)) (ok_nil))).b)).b) ((ok_call (ok__law_take T) (ok_cons (ok_var) (ok_cons (okk_int) (ok_nil)))).b)) okg_nm)
  (oks_seq (oks_asg (ok_op ok2_ix ((ok_lstF (ok_cons (okk_int) (ok_cons (okk_int) (ok_cons (okk_bl) (ok_cons (okk_non) (ok_cons (okv_new (okv_lst (ok_cons (okk_int) (ok_nil)))) (ok_cons (okk_str) (ok_nil)))))))).b) ((ok_call (ok__law_take T) (ok_cons (ok_var) (ok_cons (okk_int) (ok_nil)))).b)) okg_nm)
  (oks_seq (oks_asg (ok_op ok2_ix ((ok_lstF (ok_cons (ok_var) (ok_cons (ok_neg ((okk_int).b)) (ok_cons (okk_bl) (ok_cons (okk_non) (ok_cons (okv_new (okv_lst (ok_cons (okk_int) (ok_nil)))) (ok_cons (okk_int) (ok_nil)))))))).b) ((ok_call (ok__law_take T) (ok_cons (ok_var) (ok_cons (okk_int) (ok_nil)))).b)) okg_nm)
  (oks_seq (oks_ownV (okv_lst (ok_cons (ok_tup (ok_cons (ok_var) (ok_cons (ok_var) (ok_cons (ok_var) (ok_cons (ok_tup (ok_cons (ok_var) (ok_cons (ok_var) (ok_nil)))) (ok_cons (ok_lstF (ok_cons (okk_str) (ok_cons (ok_var) (ok_nil)))) (ok_nil))))))) (ok_cons (ok_tup (ok_cons (ok_var) (ok_cons (ok_var) (ok_cons (ok_var) (ok_cons (ok_tup (ok_cons (ok_var) (ok_cons (ok_var) (ok_nil)))) (ok_cons (ok_lstF (ok_cons (okk_str) (ok_cons (ok_var) (ok_nil)))) (ok_nil))))))) (ok_nil)))))
  (oks_seq (oks_app (ok_tup (ok_cons (ok_var) (ok_cons (ok_var) (ok_cons (ok_var) (ok_cons (ok_tup (ok_cons (ok_var) (ok_cons (ok_var) (ok_nil)))) (ok_cons (ok_lstF (ok_cons (okk_str) (ok_cons (ok_var) (ok_nil)))) (ok_nil))))))))
  (oks_seq (oks_asg (ok_lstF (ok_cons (okk_str) (ok_cons (okk_non) (ok_nil)))) okg_nm)
  (oks_seq (oks_if (ok_val (ok_op ok2_eq ((ok_var).b) ((okk_str).b)).b) (oks_asg (ok_lstF (ok_cons (okk_str) (ok_cons (ok_var) (ok_nil)))) okg_nm) (oks_next))
  (oks_seq (oks_if (ok_val (ok_op ok2_eq ((ok_var).b) ((okk_str).b)).b) (oks_asg (ok_lstF (ok_cons (okk_str) (ok_cons (ok_var) (ok_nil)))) okg_nm) (oks_next))
  (oks_seq (oks_if (ok_val (ok_op ok2_eq ((ok_op ok2_ix ((ok_var).b) ((okk_int).b)).b) ((okk_str).b)).b) (oks_asg (ok_lstF (ok_cons (okk_str) (ok_cons (ok_call (ok__law_due T) (ok_cons (ok_var) (ok_cons (ok_var) (ok_cons (ok_var) (ok_cons (okk_int) (ok_cons (okk_int) (ok_nil))))))) (ok_nil)))) okg_nm) (oks_next))
  (oks_seq (oks_app (ok_tup (ok_cons (ok_var) (ok_cons (ok_var) (ok_cons (ok_var) (ok_cons (ok_tup (ok_cons (ok_var) (ok_cons (ok_var) (ok_nil)))) (ok_cons (ok_var) (ok_nil))))))))
  (oks_frz (oks_seq (oks_for (oki_sq (ok_var)) (okg_tup (okgs_cons (okg_nm) (okgs_cons (okg_nm) (okgs_cons (okg_nm) (okgs_cons (okg_nm) (okgs_cons (okg_nm) (okgs_nil))))))) (oks_seq (oks_asg (ok_cb okc_repr (ok_consB ((ok_lstF (ok_cons (ok_var) (ok_cons (ok_var) (ok_cons (ok_var) (ok_cons (ok_var) (ok_cons (ok_var) (ok_nil))))))).b) ok_nilB)) okg_nm)
  (oks_seq (oks_asg (ok_call (ok__law_asked T) (ok_cons (ok_var) (ok_cons (ok_var) (ok_cons (ok_var) (ok_cons (ok_var) (ok_nil)))))) okg_nm)
  (oks_seq (oks_if (ok_orT (ok_val (ok_op ok2_eq ((ok_cb okc_repr (ok_consB ((ok_var).b) ok_nilB)).b) ((ok_cb okc_repr (ok_consB ((ok_var).b) ok_nilB)).b)).b) (ok_val (ok_op ok2_eq ((ok_cb okc_repr (ok_consB ((ok_lstF (ok_cons (ok_var) (ok_cons (ok_var) (ok_cons (ok_var) (ok_cons (ok_var) (ok_cons (ok_var) (ok_nil))))))).b) ok_nilB)).b) ((ok_var).b)).b)) (oks_ret (okk_bl)) (oks_next))
  (oks_if (ok_val ((ok_cb okc_isi (ok_consB ((ok_op ok2_ix ((ok_var).b) ((okk_int).b)).b) (ok_consB okk_ty.b ok_nilB))).b)) (oks_seq (oks_drop (ok_app (ok_op ok2_ix ((ok_var).b) ((okk_int).b)) (okk_int)))
  (oks_seq (oks_if (ok_val (ok_op ok2_eq ((ok_cb okc_repr (ok_consB ((ok_op ok2_ix ((ok_var).b) ((okk_int).b)).b) ok_nilB)).b) ((ok_cb okc_repr (ok_consB ((ok_op ok2_ix ((ok_var).b) ((okk_int).b)).b) ok_nilB)).b)).b) (oks_ret (okk_bl)) (oks_next))
  (oks_drop (ok_pop (ok_op ok2_ix ((ok_var).b) ((okk_int).b)))))) (oks_next))))))
  (oks_ret (okk_bl))))))))))))))))))
theorem ok_law {K : PySem.W.Frag} {mg : Str → Option Value} {base : Heap} (T : Tx K mg base) : OkF K (F_law K) p_law := okf_body (N := ["script", "k", "purse", "word", "width", "many", "turn", "worths", "lap", "into", "spot", "handed", "found", "alone", "due", "one"]) (f := f_law K) (φ := q_law) (oks_seq (oks_if (ok_val (ok_op ok2_eq ((ok_cb okc_repr (ok_consB ((ok_c (rl_WORDS K)).b) ok_nilB)).b) ((ok_cb okc_repr (ok_consB ((ok_tup (ok_cons (okk_str) (ok_cons (okk_str) (ok_cons (okk_str) (ok_cons (okk_str) (ok_cons (okk_str) (ok_cons (okk_str) (ok_cons (okk_str) (ok_cons (okk_str) (ok_cons (okk_str) (ok_cons (okk_str) (ok_nil)))))))))))).b) ok_nilB)).b)).b) (oks_ret (okk_bl)) (oks_next))
  (oks_seq (oks_for (oki_rg ((ok_cb okc_max2 (ok_consB ((okk_int).b) (ok_consB ((ok_cb okc_min2 (ok_consB ((okk_int).b) (ok_consB ((ok_cb okc_len (ok_consB ((ok_var).b) ok_nilB)).b) ok_nilB))).b) ok_nilB))).b)) (okg_nm) (oks_seq (oks_asg (ok_call (ok__law_purse T) (ok_cons (ok_call (ok__law_cell T) (ok_cons (ok_var) (ok_cons (ok_var) (ok_nil)))) (ok_nil))) okg_nm)
  (oks_for (oki_sq (ok_c (rl_WORDS K))) (okg_nm) (oks_seq (oks_asg (ok_op ok2_ix ((ok_lstF (ok_cons (okk_int) (ok_cons (okk_int) (ok_cons (ok_op ok2_add ((okk_int).b) ((ok_call (ok__law_take T) (ok_cons (ok_var) (ok_cons (okk_int) (ok_nil)))).b)) (ok_nil))))).b) ((ok_call (ok__law_take T) (ok_cons (ok_var) (ok_cons (okk_int) (ok_nil)))).b)) okg_nm)
  (oks_seq (oks_asg (ok_if (ok_val (ok_op ok2_in ((ok_var).b) ((ok_tup (ok_cons (okk_str) (ok_cons (okk_str) (ok_cons (okk_str) (ok_nil))))).b)).b) (okk_int) (okk_int)) okg_nm)
  (oks_seq (oks_for (oki_rg ((okk_int).b)) (okg_nm) (oks_seq (oks_asg (okv_frz (okv_lc (oki_rg ((ok_var).b)) okg_nm ok_yes (ok_call (ok__law_worth T) (ok_cons (ok_var) (ok_cons (ok_var) (ok_nil)))))) okg_nm)
  (oks_seq (oks_if (ok_val (ok_op ok2_eq ((ok_call (ok__law_take T) (ok_cons (ok_var) (ok_cons (okk_int) (ok_nil)))).b) ((okk_int).b)).b) (oks_asg (ok_rep (okv_sl ((ok_var).b) (ok_noP) (ok_pt ((okk_int).b))) ((ok_var).b)) okg_nm) (oks_next))
  (oks_seq (oks_asg (ok_op ok2_ix ((ok_lstF (ok_cons (okk_int) (ok_cons (okk_int) (ok_cons (ok_op ok2_add ((okk_int).b) ((ok_call (ok__law_take T) (ok_cons (ok_var) (ok_cons (okk_int) (ok_nil)))).b)) (ok_nil))))).b) ((ok_call (ok__law_take T) (ok_cons (ok_var) (ok_cons (okk_int) (ok_nil)))).b)) okg_nm)
  (oks_seq (oks_asg (ok_op ok2_ix ((ok_lstF (ok_cons (okk_int) (ok_cons (ok_op ok2_sub ((ok_var).b) ((okk_int).b)) (ok_nil)))).b) ((ok_call (ok__law_take T) (ok_cons (ok_var) (ok_cons (okk_int) (ok_nil)))).b)) okg_nm)
  (oks_seq (oks_asg (ok_op ok2_ix ((ok_lstF (ok_cons (ok_var) (ok_cons (ok_cb okc_tupOf (ok_consB ((ok_var).b) ok_nilB)) (ok_nil)))).b) ((ok_call (ok__law_take T) (ok_cons (ok_var) (ok_cons (okk_int) (ok_nil)))).b)) okg_nm)
  (oks_seq (oks_asg (ok_lstF (ok_cons (ok_call (ok__law_asked T) (ok_cons (ok_var) (ok_cons (ok_var) (ok_cons (ok_var) (ok_cons (ok_tup (ok_cons (ok_var) (ok_cons (ok_var) (ok_nil)))) (ok_nil)))))) (ok_cons (ok_call (ok__law_asked T) (ok_cons (ok_var) (ok_cons (ok_var) (ok_cons (ok_var) (ok_cons (ok_tup (ok_nil)) (ok_nil)))))) (ok_nil)))) okg_nm)
  (oks_seq (oks_asg (ok_call (ok__law_asked T) (ok_cons (ok_var) (ok_cons (ok_var) (ok_cons (ok_var) (ok_cons (ok_if (ok_val (ok_op ok2_eq ((ok_var).b) ((okk_str).b)).b) (ok_tup (ok_cons (ok_var) (ok_nil))) (ok_tup (ok_cons (ok_var) (ok_nil)))) (ok_nil)))))) okg_nm)
  (oks_seq (oks_if (ok_val (ok_op ok2_eq ((ok_cb okc_repr (ok_consB ((ok_var).b) ok_nilB)).b) ((ok_cb okc_repr (ok_consB ((ok_op ok2_ix ((ok_var).b) ((okk_int).b)).b) ok_nilB)).b)).b) (oks_ret (okk_bl)) (oks_next))
  (oks_seq (oks_asg (ok_lstF (ok_cons (ok_call (ok__law_due T) (ok_cons (ok_var) (ok_cons (ok_var) (ok_cons (ok_var) (ok_cons (ok_var) (ok_cons (ok_var) (ok_nil))))))) (ok_cons (ok_call (ok__law_due T) (ok_cons (ok_var) (ok_cons (ok_var) (ok_cons (ok_var) (ok_cons (okk_int) (ok_cons (okk_int) (ok_nil))))))) (ok_nil)))) okg_nm)
  (oks_if (ok_val (ok_op ok2_eq ((ok_cb okc_repr (ok_consB ((ok_var).b) ok_nilB)).b) ((ok_cb okc_repr (ok_consB ((okv_frz (okv_lc (oki_sqB ((ok_var).b)) okg_nm ok_yes (ok_lstF (ok_cons (okk_str) (ok_cons (ok_var) (ok_nil)))))).b) ok_nilB)).b)).b) (oks_ret (okk_bl)) (oks_next))))))))))))
  (oks_if (ok_notT (ok_val ((ok_call (ok__law_refused_right T) (ok_cons (ok_var) (ok_cons (ok_var) (ok_cons (ok_var) (ok_cons (ok_var) (ok_nil)))))).b))) (oks_ret (okk_bl)) (oks_next))))))))
  (oks_ret (okk_bl))))
end L03
set_option maxHeartbeats 400001
namespace L03
open PySem PySem.Spec
open PyProof.Rows L2 DL FL
variable {m : AM}
def wholeA (a : A) (lo hi : Int) : Bool := match a with
  | .int i => decide (lo ≤ i) && decide (i ≤ hi)
  | _ => false
theorem f_whole {a : A} {t : String} {lo hi : Int} (h : tyA m a = some t) : p_is_whole [a, .int lo, .int hi] m = .ok (.bl (wholeA a lo hi)) m := by
  unfold p_is_whole q_is_whole
  cases a with
  | loc n =>
    have ht : t = "list" ∨ t = "dict" := by
      simp only [tyA] at h
      split at h <;> simp_all
    rcases ht with rfl | rfl
    · simp only [e_ok, e_ex, e_bad, e_sok, e_sex, e_sbad, e_var0, e_varS, e_varB0, e_varB1, e_varBS, e_c, e_nil, e_cons, e_op, e_some, e_none, e_cb, e_tup, e_lstF, e_val, e_bOf, e_iOf, e_andT, e_orT, e_notT, e_and, e_or, e_not, e_if, e_chain, e_neg, e_dct0, e_isi2, e_noP, e_pt, e_sl, e_P1, e_slL, e_slT, e_rev, e_call, e_callK, e_lstV, e_new, e_vLst, e_vCat, e_vSl, e_vList, e_vRep, e_lcV, e_compK, e_forK, e_iSq, e_iEn, e_iRg, e_vsqL, e_vsqT, e_iZp, e_catLL, e_catTT, e_aI0, e_aI, e_seqL, e_seqT, e_ixL, e_ixT, e_lenL, e_lenT, e_isi, e_max, e_min, e_tupL, e_tupT, e_intI, e_intB, e_listL, e_listT, e_all, e_any, e_sum, e_all, e_eqII, e_eqSS, e_next, e_seq, e_snx, e_srt, e_sbk, e_sct, e_sxx, e_sbd, e_drop, e_ret, e_retN, e_qif, e_break, e_cont, e_asg, e_asgT, e_ownV, e_app, e_par, e_raise, e_for, e_try, e_txx, e_tnx, e_trt, e_hrt, e_body, e_fnx, e_frt, e_fex, e_start0, e_startS, e_rep0, e_repS, List.append_nil, List.nil_append, List.set_cons_zero, List.set_cons_succ, List.length_cons, List.length_nil, List.length_map, List.length_range, Nat.reduceAdd, Nat.reduceLeDiff, Nat.reduceLT, Int.reduceLT, Int.reduceEq, Int.reduceLE, Int.reducePow, Int.reduceNeg, Int.reduceMul, Int.reduceAdd, Int.reduceSub, Int.reduceToNat, if_true, if_false, cond_true, cond_false, decide_true, decide_false, Bool.and_true, Bool.true_and, Bool.and_false, Bool.false_and, Bool.or_true, Bool.true_or, Bool.or_false, Bool.false_or, Bool.not_true, Bool.not_false, Bool.false_eq_true, Option.some.injEq, and_true, true_and, and_self, t_non, t_bl, t_int, t_str, t_lst, t_tup, t_dct, isiB, tyNs, List.contains_cons, List.contains_nil, String.reduceBEq, Bool.or_self, Bool.and_self, beq_self_eq_true, nc0, nc1, nc2, nc3, nc4, nc5, nc6, nc7, nc8, nc9, nc10, nc11, nc12, e_at0, e_at1, e_at2, e_at3, e_at4, e_at5, e_at6, e_at7, e_at8, e_at9, e_at10, e_at11, e_atm1, e_atm2, e_atm3, e_atm4, e_atm5, h, wholeA]
    · simp only [e_ok, e_ex, e_bad, e_sok, e_sex, e_sbad, e_var0, e_varS, e_varB0, e_varB1, e_varBS, e_c, e_nil, e_cons, e_op, e_some, e_none, e_cb, e_tup, e_lstF, e_val, e_bOf, e_iOf, e_andT, e_orT, e_notT, e_and, e_or, e_not, e_if, e_chain, e_neg, e_dct0, e_isi2, e_noP, e_pt, e_sl, e_P1, e_slL, e_slT, e_rev, e_call, e_callK, e_lstV, e_new, e_vLst, e_vCat, e_vSl, e_vList, e_vRep, e_lcV, e_compK, e_forK, e_iSq, e_iEn, e_iRg, e_vsqL, e_vsqT, e_iZp, e_catLL, e_catTT, e_aI0, e_aI, e_seqL, e_seqT, e_ixL, e_ixT, e_lenL, e_lenT, e_isi, e_max, e_min, e_tupL, e_tupT, e_intI, e_intB, e_listL, e_listT, e_all, e_any, e_sum, e_all, e_eqII, e_eqSS, e_next, e_seq, e_snx, e_srt, e_sbk, e_sct, e_sxx, e_sbd, e_drop, e_ret, e_retN, e_qif, e_break, e_cont, e_asg, e_asgT, e_ownV, e_app, e_par, e_raise, e_for, e_try, e_txx, e_tnx, e_trt, e_hrt, e_body, e_fnx, e_frt, e_fex, e_start0, e_startS, e_rep0, e_repS, List.append_nil, List.nil_append, List.set_cons_zero, List.set_cons_succ, List.length_cons, List.length_nil, List.length_map, List.length_range, Nat.reduceAdd, Nat.reduceLeDiff, Nat.reduceLT, Int.reduceLT, Int.reduceEq, Int.reduceLE, Int.reducePow, Int.reduceNeg, Int.reduceMul, Int.reduceAdd, Int.reduceSub, Int.reduceToNat, if_true, if_false, cond_true, cond_false, decide_true, decide_false, Bool.and_true, Bool.true_and, Bool.and_false, Bool.false_and, Bool.or_true, Bool.true_or, Bool.or_false, Bool.false_or, Bool.not_true, Bool.not_false, Bool.false_eq_true, Option.some.injEq, and_true, true_and, and_self, t_non, t_bl, t_int, t_str, t_lst, t_tup, t_dct, isiB, tyNs, List.contains_cons, List.contains_nil, String.reduceBEq, Bool.or_self, Bool.and_self, beq_self_eq_true, nc0, nc1, nc2, nc3, nc4, nc5, nc6, nc7, nc8, nc9, nc10, nc11, nc12, e_at0, e_at1, e_at2, e_at3, e_at4, e_at5, e_at6, e_at7, e_at8, e_at9, e_at10, e_at11, e_atm1, e_atm2, e_atm3, e_atm4, e_atm5, h, wholeA]
  | ty _ => cases h
  | fn _ => cases h
  | int i => simp only [e_ok, e_ex, e_bad, e_sok, e_sex, e_sbad, e_var0, e_varS, e_varB0, e_varB1, e_varBS, e_c, e_nil, e_cons, e_op, e_some, e_none, e_cb, e_tup, e_lstF, e_val, e_bOf, e_iOf, e_andT, e_orT, e_notT, e_and, e_or, e_not, e_if, e_chain, e_neg, e_dct0, e_isi2, e_noP, e_pt, e_sl, e_P1, e_slL, e_slT, e_rev, e_call, e_callK, e_lstV, e_new, e_vLst, e_vCat, e_vSl, e_vList, e_vRep, e_lcV, e_compK, e_forK, e_iSq, e_iEn, e_iRg, e_vsqL, e_vsqT, e_iZp, e_catLL, e_catTT, e_aI0, e_aI, e_seqL, e_seqT, e_ixL, e_ixT, e_lenL, e_lenT, e_isi, e_max, e_min, e_tupL, e_tupT, e_intI, e_intB, e_listL, e_listT, e_all, e_any, e_sum, e_all, e_eqII, e_eqSS, e_next, e_seq, e_snx, e_srt, e_sbk, e_sct, e_sxx, e_sbd, e_drop, e_ret, e_retN, e_qif, e_break, e_cont, e_asg, e_asgT, e_ownV, e_app, e_par, e_raise, e_for, e_try, e_txx, e_tnx, e_trt, e_hrt, e_body, e_fnx, e_frt, e_fex, e_start0, e_startS, e_rep0, e_repS, List.append_nil, List.nil_append, List.set_cons_zero, List.set_cons_succ, List.length_cons, List.length_nil, List.length_map, List.length_range, Nat.reduceAdd, Nat.reduceLeDiff, Nat.reduceLT, Int.reduceLT, Int.reduceEq, Int.reduceLE, Int.reducePow, Int.reduceNeg, Int.reduceMul, Int.reduceAdd, Int.reduceSub, Int.reduceToNat, if_true, if_false, cond_true, cond_false, decide_true, decide_false, Bool.and_true, Bool.true_and, Bool.and_false, Bool.false_and, Bool.or_true, Bool.true_or, Bool.or_false, Bool.false_or, Bool.not_true, Bool.not_false, Bool.false_eq_true, Option.some.injEq, and_true, true_and, and_self, t_non, t_bl, t_int, t_str, t_lst, t_tup, t_dct, isiB, tyNs, List.contains_cons, List.contains_nil, String.reduceBEq, Bool.or_self, Bool.and_self, beq_self_eq_true, nc0, nc1, nc2, nc3, nc4, nc5, nc6, nc7, nc8, nc9, nc10, nc11, nc12, e_at0, e_at1, e_at2, e_at3, e_at4, e_at5, e_at6, e_at7, e_at8, e_at9, e_at10, e_at11, e_atm1, e_atm2, e_atm3, e_atm4, e_atm5, e_condB, e_condS, e_condQ, e_condF, e_condT, e_condO, e_cc, e_condBl, e_condAA, c_F, c_T, c_nF, c_nT, wholeA]
  | _ => simp only [e_ok, e_ex, e_bad, e_sok, e_sex, e_sbad, e_var0, e_varS, e_varB0, e_varB1, e_varBS, e_c, e_nil, e_cons, e_op, e_some, e_none, e_cb, e_tup, e_lstF, e_val, e_bOf, e_iOf, e_andT, e_orT, e_notT, e_and, e_or, e_not, e_if, e_chain, e_neg, e_dct0, e_isi2, e_noP, e_pt, e_sl, e_P1, e_slL, e_slT, e_rev, e_call, e_callK, e_lstV, e_new, e_vLst, e_vCat, e_vSl, e_vList, e_vRep, e_lcV, e_compK, e_forK, e_iSq, e_iEn, e_iRg, e_vsqL, e_vsqT, e_iZp, e_catLL, e_catTT, e_aI0, e_aI, e_seqL, e_seqT, e_ixL, e_ixT, e_lenL, e_lenT, e_isi, e_max, e_min, e_tupL, e_tupT, e_intI, e_intB, e_listL, e_listT, e_all, e_any, e_sum, e_all, e_eqII, e_eqSS, e_next, e_seq, e_snx, e_srt, e_sbk, e_sct, e_sxx, e_sbd, e_drop, e_ret, e_retN, e_qif, e_break, e_cont, e_asg, e_asgT, e_ownV, e_app, e_par, e_raise, e_for, e_try, e_txx, e_tnx, e_trt, e_hrt, e_body, e_fnx, e_frt, e_fex, e_start0, e_startS, e_rep0, e_repS, List.append_nil, List.nil_append, List.set_cons_zero, List.set_cons_succ, List.length_cons, List.length_nil, List.length_map, List.length_range, Nat.reduceAdd, Nat.reduceLeDiff, Nat.reduceLT, Int.reduceLT, Int.reduceEq, Int.reduceLE, Int.reducePow, Int.reduceNeg, Int.reduceMul, Int.reduceAdd, Int.reduceSub, Int.reduceToNat, if_true, if_false, cond_true, cond_false, decide_true, decide_false, Bool.and_true, Bool.true_and, Bool.and_false, Bool.false_and, Bool.or_true, Bool.true_or, Bool.or_false, Bool.false_or, Bool.not_true, Bool.not_false, Bool.false_eq_true, Option.some.injEq, and_true, true_and, and_self, t_non, t_bl, t_int, t_str, t_lst, t_tup, t_dct, isiB, tyNs, List.contains_cons, List.contains_nil, String.reduceBEq, Bool.or_self, Bool.and_self, beq_self_eq_true, nc0, nc1, nc2, nc3, nc4, nc5, nc6, nc7, nc8, nc9, nc10, nc11, nc12, e_at0, e_at1, e_at2, e_at3, e_at4, e_at5, e_at6, e_at7, e_at8, e_at9, e_at10, e_at11, e_atm1, e_atm2, e_atm3, e_atm4, e_atm5, wholeA]
theorem f_width {a : A} {t : String} (h : tyA m a = some t) : p_is_width [a] m = .ok (.bl (wholeA a 1 8)) m := by
  unfold p_is_width q_is_width
  simp only [e_ok, e_ex, e_bad, e_sok, e_sex, e_sbad, e_var0, e_varS, e_varB0, e_varB1, e_varBS, e_c, e_nil, e_cons, e_op, e_some, e_none, e_cb, e_tup, e_lstF, e_val, e_bOf, e_iOf, e_andT, e_orT, e_notT, e_and, e_or, e_not, e_if, e_chain, e_neg, e_dct0, e_isi2, e_noP, e_pt, e_sl, e_P1, e_slL, e_slT, e_rev, e_call, e_callK, e_lstV, e_new, e_vLst, e_vCat, e_vSl, e_vList, e_vRep, e_lcV, e_compK, e_forK, e_iSq, e_iEn, e_iRg, e_vsqL, e_vsqT, e_iZp, e_catLL, e_catTT, e_aI0, e_aI, e_seqL, e_seqT, e_ixL, e_ixT, e_lenL, e_lenT, e_isi, e_max, e_min, e_tupL, e_tupT, e_intI, e_intB, e_listL, e_listT, e_all, e_any, e_sum, e_all, e_eqII, e_eqSS, e_next, e_seq, e_snx, e_srt, e_sbk, e_sct, e_sxx, e_sbd, e_drop, e_ret, e_retN, e_qif, e_break, e_cont, e_asg, e_asgT, e_ownV, e_app, e_par, e_raise, e_for, e_try, e_txx, e_tnx, e_trt, e_hrt, e_body, e_fnx, e_frt, e_fex, e_start0, e_startS, e_rep0, e_repS, List.append_nil, List.nil_append, List.set_cons_zero, List.set_cons_succ, List.length_cons, List.length_nil, List.length_map, List.length_range, Nat.reduceAdd, Nat.reduceLeDiff, Nat.reduceLT, Int.reduceLT, Int.reduceEq, Int.reduceLE, Int.reducePow, Int.reduceNeg, Int.reduceMul, Int.reduceAdd, Int.reduceSub, Int.reduceToNat, if_true, if_false, cond_true, cond_false, decide_true, decide_false, Bool.and_true, Bool.true_and, Bool.and_false, Bool.false_and, Bool.or_true, Bool.true_or, Bool.or_false, Bool.false_or, Bool.not_true, Bool.not_false, Bool.false_eq_true, Option.some.injEq, and_true, true_and, and_self, t_non, t_bl, t_int, t_str, t_lst, t_tup, t_dct, isiB, tyNs, List.contains_cons, List.contains_nil, String.reduceBEq, Bool.or_self, Bool.and_self, beq_self_eq_true, nc0, nc1, nc2, nc3, nc4, nc5, nc6, nc7, nc8, nc9, nc10, nc11, nc12, e_at0, e_at1, e_at2, e_at3, e_at4, e_at5, e_at6, e_at7, e_at8, e_at9, e_at10, e_at11, e_atm1, e_atm2, e_atm3, e_atm4, e_atm5, f_whole h]
theorem w8 {n : Int} (h1 : 1 ≤ n) (h8 : n ≤ 8) : wholeA (.int n) 1 8 = true := by simp [wholeA, h1, h8]
theorem f_kind {n : Int} (h1 : 1 ≤ n) (h8 : n ≤ 8) : p_is_kind [.int n] m = .ok (.bl true) m := by
  unfold p_is_kind q_is_kind
  simp only [e_ok, e_ex, e_bad, e_sok, e_sex, e_sbad, e_var0, e_varS, e_varB0, e_varB1, e_varBS, e_c, e_nil, e_cons, e_op, e_some, e_none, e_cb, e_tup, e_lstF, e_val, e_bOf, e_iOf, e_andT, e_orT, e_notT, e_and, e_or, e_not, e_if, e_chain, e_neg, e_dct0, e_isi2, e_noP, e_pt, e_sl, e_P1, e_slL, e_slT, e_rev, e_call, e_callK, e_lstV, e_new, e_vLst, e_vCat, e_vSl, e_vList, e_vRep, e_lcV, e_compK, e_forK, e_iSq, e_iEn, e_iRg, e_vsqL, e_vsqT, e_iZp, e_catLL, e_catTT, e_aI0, e_aI, e_seqL, e_seqT, e_ixL, e_ixT, e_lenL, e_lenT, e_isi, e_max, e_min, e_tupL, e_tupT, e_intI, e_intB, e_listL, e_listT, e_all, e_any, e_sum, e_all, e_eqII, e_eqSS, e_next, e_seq, e_snx, e_srt, e_sbk, e_sct, e_sxx, e_sbd, e_drop, e_ret, e_retN, e_qif, e_break, e_cont, e_asg, e_asgT, e_ownV, e_app, e_par, e_raise, e_for, e_try, e_txx, e_tnx, e_trt, e_hrt, e_body, e_fnx, e_frt, e_fex, e_start0, e_startS, e_rep0, e_repS, List.append_nil, List.nil_append, List.set_cons_zero, List.set_cons_succ, List.length_cons, List.length_nil, List.length_map, List.length_range, Nat.reduceAdd, Nat.reduceLeDiff, Nat.reduceLT, Int.reduceLT, Int.reduceEq, Int.reduceLE, Int.reducePow, Int.reduceNeg, Int.reduceMul, Int.reduceAdd, Int.reduceSub, Int.reduceToNat, if_true, if_false, cond_true, cond_false, decide_true, decide_false, Bool.and_true, Bool.true_and, Bool.and_false, Bool.false_and, Bool.or_true, Bool.true_or, Bool.or_false, Bool.false_or, Bool.not_true, Bool.not_false, Bool.false_eq_true, Option.some.injEq, and_true, true_and, and_self, t_non, t_bl, t_int, t_str, t_lst, t_tup, t_dct, isiB, tyNs, List.contains_cons, List.contains_nil, String.reduceBEq, Bool.or_self, Bool.and_self, beq_self_eq_true, nc0, nc1, nc2, nc3, nc4, nc5, nc6, nc7, nc8, nc9, nc10, nc11, nc12, e_at0, e_at1, e_at2, e_at3, e_at4, e_at5, e_at6, e_at7, e_at8, e_at9, e_at10, e_at11, e_atm1, e_atm2, e_atm3, e_atm4, e_atm5, f_width t_int, w8 h1 h8]
theorem pow8 {n : Int} (h1 : 1 ≤ n) (h8 : n ≤ 8) : (2 : Int) ≤ 2 ^ n.toNat ∧ (2 : Int) ^ n.toNat ≤ 256 := by
  have : n = 1 ∨ n = 2 ∨ n = 3 ∨ n = 4 ∨ n = 5 ∨ n = 6 ∨ n = 7 ∨ n = 8 := by omega
  rcases this with rfl | rfl | rfl | rfl | rfl | rfl | rfl | rfl <;> decide
theorem cp {i j : Int} (h1 : 0 ≤ j) (h2 : j ≤ 1000000) (h3 : i.natAbs < 2 ^ 64) : cPow i j = true := by
  simp only [cPow, Bool.and_eq_true, decide_eq_true_eq]
  exact ⟨⟨h1, h2⟩, h3⟩
theorem f_worth {a : A} {t : String} {n : Int} (h1 : 1 ≤ n) (h8 : n ≤ 8) (h : tyA m a = some t) : p_is_worth [a, .int n] m = .ok (.bl (wholeA a 0 (2 ^ n.toNat - 1))) m := by
  unfold p_is_worth q_is_worth
  have c : cPow 1 n = true := cp (by omega) (by omega) (by decide)
  simp only [e_ok, e_ex, e_bad, e_sok, e_sex, e_sbad, e_var0, e_varS, e_varB0, e_varB1, e_varBS, e_c, e_nil, e_cons, e_op, e_some, e_none, e_cb, e_tup, e_lstF, e_val, e_bOf, e_iOf, e_andT, e_orT, e_notT, e_and, e_or, e_not, e_if, e_chain, e_neg, e_dct0, e_isi2, e_noP, e_pt, e_sl, e_P1, e_slL, e_slT, e_rev, e_call, e_callK, e_lstV, e_new, e_vLst, e_vCat, e_vSl, e_vList, e_vRep, e_lcV, e_compK, e_forK, e_iSq, e_iEn, e_iRg, e_vsqL, e_vsqT, e_iZp, e_catLL, e_catTT, e_aI0, e_aI, e_seqL, e_seqT, e_ixL, e_ixT, e_lenL, e_lenT, e_isi, e_max, e_min, e_tupL, e_tupT, e_intI, e_intB, e_listL, e_listT, e_all, e_any, e_sum, e_all, e_eqII, e_eqSS, e_next, e_seq, e_snx, e_srt, e_sbk, e_sct, e_sxx, e_sbd, e_drop, e_ret, e_retN, e_qif, e_break, e_cont, e_asg, e_asgT, e_ownV, e_app, e_par, e_raise, e_for, e_try, e_txx, e_tnx, e_trt, e_hrt, e_body, e_fnx, e_frt, e_fex, e_start0, e_startS, e_rep0, e_repS, List.append_nil, List.nil_append, List.set_cons_zero, List.set_cons_succ, List.length_cons, List.length_nil, List.length_map, List.length_range, Nat.reduceAdd, Nat.reduceLeDiff, Nat.reduceLT, Int.reduceLT, Int.reduceEq, Int.reduceLE, Int.reducePow, Int.reduceNeg, Int.reduceMul, Int.reduceAdd, Int.reduceSub, Int.reduceToNat, if_true, if_false, cond_true, cond_false, decide_true, decide_false, Bool.and_true, Bool.true_and, Bool.and_false, Bool.false_and, Bool.or_true, Bool.true_or, Bool.or_false, Bool.false_or, Bool.not_true, Bool.not_false, Bool.false_eq_true, Option.some.injEq, and_true, true_and, and_self, t_non, t_bl, t_int, t_str, t_lst, t_tup, t_dct, isiB, tyNs, List.contains_cons, List.contains_nil, String.reduceBEq, Bool.or_self, Bool.and_self, beq_self_eq_true, nc0, nc1, nc2, nc3, nc4, nc5, nc6, nc7, nc8, nc9, nc10, nc11, nc12, e_at0, e_at1, e_at2, e_at3, e_at4, e_at5, e_at6, e_at7, e_at8, e_at9, e_at10, e_at11, e_atm1, e_atm2, e_atm3, e_atm4, e_atm5, f_kind h1 h8, c, Int.one_mul, f_whole h]
/-! draws -/
theorem f_take : TakeOk p__law_take := by
  intro m p n many hp hn h0 h1
  obtain ⟨x, y, z, e, x0, y0, y1, z0, z1⟩ := hp
  unfold p__law_take q__law_take
  have hl : p < m.length := by
    rcases Nat.lt_or_ge p m.length with q | q
    · exact q
    · rw [List.getElem?_eq_none q] at e
      cases e
  by_cases hx : 0 < x
  · have c1 : cMod x many = true := by simp [h0]
    have c2 : cDiv x many = true := by simp [h0]; omega
    simp only [e_ok, e_ex, e_bad, e_sok, e_sex, e_sbad, e_var0, e_varS, e_varB0, e_varB1, e_varBS, e_c, e_nil, e_cons, e_op, e_some, e_none, e_cb, e_tup, e_lstF, e_val, e_bOf, e_iOf, e_andT, e_orT, e_notT, e_and, e_or, e_not, e_if, e_chain, e_neg, e_dct0, e_isi2, e_noP, e_pt, e_sl, e_P1, e_slL, e_slT, e_rev, e_call, e_callK, e_lstV, e_new, e_vLst, e_vCat, e_vSl, e_vList, e_vRep, e_lcV, e_compK, e_forK, e_iSq, e_iEn, e_iRg, e_vsqL, e_vsqT, e_iZp, e_catLL, e_catTT, e_aI0, e_aI, e_seqL, e_seqT, e_ixL, e_ixT, e_lenL, e_lenT, e_isi, e_max, e_min, e_tupL, e_tupT, e_intI, e_intB, e_listL, e_listT, e_all, e_any, e_sum, e_all, e_eqII, e_eqSS, e_next, e_seq, e_snx, e_srt, e_sbk, e_sct, e_sxx, e_sbd, e_drop, e_ret, e_retN, e_qif, e_break, e_cont, e_asg, e_asgT, e_ownV, e_app, e_par, e_raise, e_for, e_try, e_txx, e_tnx, e_trt, e_hrt, e_body, e_fnx, e_frt, e_fex, e_start0, e_startS, e_rep0, e_repS, List.append_nil, List.nil_append, List.set_cons_zero, List.set_cons_succ, List.length_cons, List.length_nil, List.length_map, List.length_range, Nat.reduceAdd, Nat.reduceLeDiff, Nat.reduceLT, Int.reduceLT, Int.reduceEq, Int.reduceLE, Int.reducePow, Int.reduceNeg, Int.reduceMul, Int.reduceAdd, Int.reduceSub, Int.reduceToNat, if_true, if_false, cond_true, cond_false, decide_true, decide_false, Bool.and_true, Bool.true_and, Bool.and_false, Bool.false_and, Bool.or_true, Bool.true_or, Bool.or_false, Bool.false_or, Bool.not_true, Bool.not_false, Bool.false_eq_true, Option.some.injEq, and_true, true_and, and_self, t_non, t_bl, t_int, t_str, t_lst, t_tup, t_dct, isiB, tyNs, List.contains_cons, List.contains_nil, String.reduceBEq, Bool.or_self, Bool.and_self, beq_self_eq_true, nc0, nc1, nc2, nc3, nc4, nc5, nc6, nc7, nc8, nc9, nc10, nc11, nc12, e_at0, e_at1, e_at2, e_at3, e_at4, e_at5, e_at6, e_at7, e_at8, e_at9, e_at10, e_at11, e_atm1, e_atm2, e_atm3, e_atm4, e_atm5, e_ixN e, hx, c1, c2, qStore, e, show ixN 3 0 = some 0 from rfl]
    refine ⟨_, _, rfl, Int.emod_nonneg _ (by omega), Int.emod_lt_of_pos _ h0, ⟨_, y, z, List.getElem?_set_self hl, Int.ediv_nonneg x0 (by omega), y0, y1, z0, by omega⟩, ButA.set⟩
  · have b1 : 0 ≤ y * (z + 1) := Int.mul_nonneg y0 (by omega)
    have b2 : y * (z + 1) < 2147483629 * 1000000002 := Int.lt_of_lt_of_le (Int.mul_lt_mul_of_pos_right y1 (by omega)) (Int.mul_le_mul_of_nonneg_left (by omega) (by decide))
    have b3 : ∀ k : Int, 0 < k → ∀ u : Int, 0 ≤ u % k ∧ u % k < k := fun k hk u => ⟨Int.emod_nonneg _ (by omega), Int.emod_lt_of_pos _ hk⟩
    have e2 : (m.set p (.lst [.int x, .int y, .int (z + 1)]))[p]? = some (.lst [.int x, .int y, .int (z + 1)]) := List.getElem?_set_self hl
    have d1 : cMul 6007 (z + 1) = true := cm1 (by decide) (by decide)
    have d2 : cPow (y + 6007 * (z + 1) + 29) 5 = true := cpw (by decide) (by decide) (by omega) (by omega)
    have d3 : cMul y (z + 1) = true := cm1 (by omega) (by omega)
    have d4 : cPow (y * (z + 1) + 91193) 3 = true := cpw (by decide) (by decide) (by omega) (by omega)
    have d5 : ∀ u : Int, cMod u 2147483647 = true := fun u => cmd (by decide)
    have d6 : ∀ u : Int, cMod u 2147483587 = true := fun u => cmd (by decide)
    have d7 : ∀ u : Int, cMul u 2147483587 = true := fun u => cm2 (by decide) (by decide)
    have d8 : ∀ u : Int, cDiv u 8 = true := fun u => cdv (by decide) (by decide)
    have d9 : ∀ u : Int, cMod u many = true := fun u => cmd h0
    simp only [e_ok, e_ex, e_bad, e_sok, e_sex, e_sbad, e_var0, e_varS, e_varB0, e_varB1, e_varBS, e_c, e_nil, e_cons, e_op, e_some, e_none, e_cb, e_tup, e_lstF, e_val, e_bOf, e_iOf, e_andT, e_orT, e_notT, e_and, e_or, e_not, e_if, e_chain, e_neg, e_dct0, e_isi2, e_noP, e_pt, e_sl, e_P1, e_slL, e_slT, e_rev, e_call, e_callK, e_lstV, e_new, e_vLst, e_vCat, e_vSl, e_vList, e_vRep, e_lcV, e_compK, e_forK, e_iSq, e_iEn, e_iRg, e_vsqL, e_vsqT, e_iZp, e_catLL, e_catTT, e_aI0, e_aI, e_seqL, e_seqT, e_ixL, e_ixT, e_lenL, e_lenT, e_isi, e_max, e_min, e_tupL, e_tupT, e_intI, e_intB, e_listL, e_listT, e_all, e_any, e_sum, e_all, e_eqII, e_eqSS, e_next, e_seq, e_snx, e_srt, e_sbk, e_sct, e_sxx, e_sbd, e_drop, e_ret, e_retN, e_qif, e_break, e_cont, e_asg, e_asgT, e_ownV, e_app, e_par, e_raise, e_for, e_try, e_txx, e_tnx, e_trt, e_hrt, e_body, e_fnx, e_frt, e_fex, e_start0, e_startS, e_rep0, e_repS, List.append_nil, List.nil_append, List.set_cons_zero, List.set_cons_succ, List.length_cons, List.length_nil, List.length_map, List.length_range, Nat.reduceAdd, Nat.reduceLeDiff, Nat.reduceLT, Int.reduceLT, Int.reduceEq, Int.reduceLE, Int.reducePow, Int.reduceNeg, Int.reduceMul, Int.reduceAdd, Int.reduceSub, Int.reduceToNat, if_true, if_false, cond_true, cond_false, decide_true, decide_false, Bool.and_true, Bool.true_and, Bool.and_false, Bool.false_and, Bool.or_true, Bool.true_or, Bool.or_false, Bool.false_or, Bool.not_true, Bool.not_false, Bool.false_eq_true, Option.some.injEq, and_true, true_and, and_self, t_non, t_bl, t_int, t_str, t_lst, t_tup, t_dct, isiB, tyNs, List.contains_cons, List.contains_nil, String.reduceBEq, Bool.or_self, Bool.and_self, beq_self_eq_true, nc0, nc1, nc2, nc3, nc4, nc5, nc6, nc7, nc8, nc9, nc10, nc11, nc12, e_at0, e_at1, e_at2, e_at3, e_at4, e_at5, e_at6, e_at7, e_at8, e_at9, e_at10, e_at11, e_atm1, e_atm2, e_atm3, e_atm4, e_atm5, e_ixN e, hx, qStore, e, show ixN 3 2 = some 2 from rfl, e_ixN e2, d1, d2, d3, d4, d5, d6, d7, d8, d9]
    exact ⟨_, _, rfl, (b3 _ h0 _).1, (b3 _ h0 _).2, ⟨_, _, _, List.getElem?_set_self hl, x0, y0, y1, by omega, by omega⟩, ButA.set⟩
theorem f_cell {ns : List Int} {k : Int} (h0 : 0 ≤ k) : ∃ c : Int, p__law_cell [.lst (ns.map .int), .int k] m = .ok (.int c) m := by
  unfold p__law_cell q__law_cell
  have d1 : cMul 6133 k = true := cm1 (by decide) (by decide)
  simp only [e_ok, e_ex, e_bad, e_sok, e_sex, e_sbad, e_var0, e_varS, e_varB0, e_varB1, e_varBS, e_c, e_nil, e_cons, e_op, e_some, e_none, e_cb, e_tup, e_lstF, e_val, e_bOf, e_iOf, e_andT, e_orT, e_notT, e_and, e_or, e_not, e_if, e_chain, e_neg, e_dct0, e_isi2, e_noP, e_pt, e_sl, e_P1, e_slL, e_slT, e_rev, e_call, e_callK, e_lstV, e_new, e_vLst, e_vCat, e_vSl, e_vList, e_vRep, e_lcV, e_compK, e_forK, e_iSq, e_iEn, e_iRg, e_vsqL, e_vsqT, e_iZp, e_catLL, e_catTT, e_aI0, e_aI, e_seqL, e_seqT, e_ixL, e_ixT, e_lenL, e_lenT, e_isi, e_max, e_min, e_tupL, e_tupT, e_intI, e_intB, e_listL, e_listT, e_all, e_any, e_sum, e_all, e_eqII, e_eqSS, e_next, e_seq, e_snx, e_srt, e_sbk, e_sct, e_sxx, e_sbd, e_drop, e_ret, e_retN, e_qif, e_break, e_cont, e_asg, e_asgT, e_ownV, e_app, e_par, e_raise, e_for, e_try, e_txx, e_tnx, e_trt, e_hrt, e_body, e_fnx, e_frt, e_fex, e_start0, e_startS, e_rep0, e_repS, List.append_nil, List.nil_append, List.set_cons_zero, List.set_cons_succ, List.length_cons, List.length_nil, List.length_map, List.length_range, Nat.reduceAdd, Nat.reduceLeDiff, Nat.reduceLT, Int.reduceLT, Int.reduceEq, Int.reduceLE, Int.reducePow, Int.reduceNeg, Int.reduceMul, Int.reduceAdd, Int.reduceSub, Int.reduceToNat, if_true, if_false, cond_true, cond_false, decide_true, decide_false, Bool.and_true, Bool.true_and, Bool.and_false, Bool.false_and, Bool.or_true, Bool.true_or, Bool.or_false, Bool.false_or, Bool.not_true, Bool.not_false, Bool.false_eq_true, Option.some.injEq, and_true, true_and, and_self, t_non, t_bl, t_int, t_str, t_lst, t_tup, t_dct, isiB, tyNs, List.contains_cons, List.contains_nil, String.reduceBEq, Bool.or_self, Bool.and_self, beq_self_eq_true, nc0, nc1, nc2, nc3, nc4, nc5, nc6, nc7, nc8, nc9, nc10, nc11, nc12, e_at0, e_at1, e_at2, e_at3, e_at4, e_at5, e_at6, e_at7, e_at8, e_at9, e_at10, e_at11, e_atm1, e_atm2, e_atm3, e_atm4, e_atm5, d1]
  by_cases h : k < (ns.length : Int)
  · obtain ⟨d, e, hd⟩ := atA (l := ns.map A.int) h0 (by simpa using h)
    obtain ⟨c, _, rfl⟩ := List.mem_map.mp hd
    simp only [e_ok, e_ex, e_bad, e_sok, e_sex, e_sbad, e_var0, e_varS, e_varB0, e_varB1, e_varBS, e_c, e_nil, e_cons, e_op, e_some, e_none, e_cb, e_tup, e_lstF, e_val, e_bOf, e_iOf, e_andT, e_orT, e_notT, e_and, e_or, e_not, e_if, e_chain, e_neg, e_dct0, e_isi2, e_noP, e_pt, e_sl, e_P1, e_slL, e_slT, e_rev, e_call, e_callK, e_lstV, e_new, e_vLst, e_vCat, e_vSl, e_vList, e_vRep, e_lcV, e_compK, e_forK, e_iSq, e_iEn, e_iRg, e_vsqL, e_vsqT, e_iZp, e_catLL, e_catTT, e_aI0, e_aI, e_seqL, e_seqT, e_ixL, e_ixT, e_lenL, e_lenT, e_isi, e_max, e_min, e_tupL, e_tupT, e_intI, e_intB, e_listL, e_listT, e_all, e_any, e_sum, e_all, e_eqII, e_eqSS, e_next, e_seq, e_snx, e_srt, e_sbk, e_sct, e_sxx, e_sbd, e_drop, e_ret, e_retN, e_qif, e_break, e_cont, e_asg, e_asgT, e_ownV, e_app, e_par, e_raise, e_for, e_try, e_txx, e_tnx, e_trt, e_hrt, e_body, e_fnx, e_frt, e_fex, e_start0, e_startS, e_rep0, e_repS, List.append_nil, List.nil_append, List.set_cons_zero, List.set_cons_succ, List.length_cons, List.length_nil, List.length_map, List.length_range, Nat.reduceAdd, Nat.reduceLeDiff, Nat.reduceLT, Int.reduceLT, Int.reduceEq, Int.reduceLE, Int.reducePow, Int.reduceNeg, Int.reduceMul, Int.reduceAdd, Int.reduceSub, Int.reduceToNat, if_true, if_false, cond_true, cond_false, decide_true, decide_false, Bool.and_true, Bool.true_and, Bool.and_false, Bool.false_and, Bool.or_true, Bool.true_or, Bool.or_false, Bool.false_or, Bool.not_true, Bool.not_false, Bool.false_eq_true, Option.some.injEq, and_true, true_and, and_self, t_non, t_bl, t_int, t_str, t_lst, t_tup, t_dct, isiB, tyNs, List.contains_cons, List.contains_nil, String.reduceBEq, Bool.or_self, Bool.and_self, beq_self_eq_true, nc0, nc1, nc2, nc3, nc4, nc5, nc6, nc7, nc8, nc9, nc10, nc11, nc12, e_at0, e_at1, e_at2, e_at3, e_at4, e_at5, e_at6, e_at7, e_at8, e_at9, e_at10, e_at11, e_atm1, e_atm2, e_atm3, e_atm4, e_atm5, h, e]
    exact ⟨c, rfl⟩
  · simp only [e_ok, e_ex, e_bad, e_sok, e_sex, e_sbad, e_var0, e_varS, e_varB0, e_varB1, e_varBS, e_c, e_nil, e_cons, e_op, e_some, e_none, e_cb, e_tup, e_lstF, e_val, e_bOf, e_iOf, e_andT, e_orT, e_notT, e_and, e_or, e_not, e_if, e_chain, e_neg, e_dct0, e_isi2, e_noP, e_pt, e_sl, e_P1, e_slL, e_slT, e_rev, e_call, e_callK, e_lstV, e_new, e_vLst, e_vCat, e_vSl, e_vList, e_vRep, e_lcV, e_compK, e_forK, e_iSq, e_iEn, e_iRg, e_vsqL, e_vsqT, e_iZp, e_catLL, e_catTT, e_aI0, e_aI, e_seqL, e_seqT, e_ixL, e_ixT, e_lenL, e_lenT, e_isi, e_max, e_min, e_tupL, e_tupT, e_intI, e_intB, e_listL, e_listT, e_all, e_any, e_sum, e_all, e_eqII, e_eqSS, e_next, e_seq, e_snx, e_srt, e_sbk, e_sct, e_sxx, e_sbd, e_drop, e_ret, e_retN, e_qif, e_break, e_cont, e_asg, e_asgT, e_ownV, e_app, e_par, e_raise, e_for, e_try, e_txx, e_tnx, e_trt, e_hrt, e_body, e_fnx, e_frt, e_fex, e_start0, e_startS, e_rep0, e_repS, List.append_nil, List.nil_append, List.set_cons_zero, List.set_cons_succ, List.length_cons, List.length_nil, List.length_map, List.length_range, Nat.reduceAdd, Nat.reduceLeDiff, Nat.reduceLT, Int.reduceLT, Int.reduceEq, Int.reduceLE, Int.reducePow, Int.reduceNeg, Int.reduceMul, Int.reduceAdd, Int.reduceSub, Int.reduceToNat, if_true, if_false, cond_true, cond_false, decide_true, decide_false, Bool.and_true, Bool.true_and, Bool.and_false, Bool.false_and, Bool.or_true, Bool.true_or, Bool.or_false, Bool.false_or, Bool.not_true, Bool.not_false, Bool.false_eq_true, Option.some.injEq, and_true, true_and, and_self, t_non, t_bl, t_int, t_str, t_lst, t_tup, t_dct, isiB, tyNs, List.contains_cons, List.contains_nil, String.reduceBEq, Bool.or_self, Bool.and_self, beq_self_eq_true, nc0, nc1, nc2, nc3, nc4, nc5, nc6, nc7, nc8, nc9, nc10, nc11, nc12, e_at0, e_at1, e_at2, e_at3, e_at4, e_at5, e_at6, e_at7, e_at8, e_at9, e_at10, e_at11, e_atm1, e_atm2, e_atm3, e_atm4, e_atm5, h]
    exact ⟨_, rfl⟩
theorem f_purse {c : Int} : ∃ m', p__law_purse [.int c] m = .ok (.loc m.length) m' ∧ PuA m' m.length 0 ∧ m'.length = m.length + 1 ∧ ∀ q, q < m.length → m'[q]? = m[q]? := by
  unfold p__law_purse q__law_purse
  have d1 : cPow 10 18 = true := by decide
  have d2 : cMod c 2147483629 = true := cmd (by decide)
  simp only [e_ok, e_ex, e_bad, e_sok, e_sex, e_sbad, e_var0, e_varS, e_varB0, e_varB1, e_varBS, e_c, e_nil, e_cons, e_op, e_some, e_none, e_cb, e_tup, e_lstF, e_val, e_bOf, e_iOf, e_andT, e_orT, e_notT, e_and, e_or, e_not, e_if, e_chain, e_neg, e_dct0, e_isi2, e_noP, e_pt, e_sl, e_P1, e_slL, e_slT, e_rev, e_call, e_callK, e_lstV, e_new, e_vLst, e_vCat, e_vSl, e_vList, e_vRep, e_lcV, e_compK, e_forK, e_iSq, e_iEn, e_iRg, e_vsqL, e_vsqT, e_iZp, e_catLL, e_catTT, e_aI0, e_aI, e_seqL, e_seqT, e_ixL, e_ixT, e_lenL, e_lenT, e_isi, e_max, e_min, e_tupL, e_tupT, e_intI, e_intB, e_listL, e_listT, e_all, e_any, e_sum, e_all, e_eqII, e_eqSS, e_next, e_seq, e_snx, e_srt, e_sbk, e_sct, e_sxx, e_sbd, e_drop, e_ret, e_retN, e_qif, e_break, e_cont, e_asg, e_asgT, e_ownV, e_app, e_par, e_raise, e_for, e_try, e_txx, e_tnx, e_trt, e_hrt, e_body, e_fnx, e_frt, e_fex, e_start0, e_startS, e_rep0, e_repS, List.append_nil, List.nil_append, List.set_cons_zero, List.set_cons_succ, List.length_cons, List.length_nil, List.length_map, List.length_range, Nat.reduceAdd, Nat.reduceLeDiff, Nat.reduceLT, Int.reduceLT, Int.reduceEq, Int.reduceLE, Int.reducePow, Int.reduceNeg, Int.reduceMul, Int.reduceAdd, Int.reduceSub, Int.reduceToNat, if_true, if_false, cond_true, cond_false, decide_true, decide_false, Bool.and_true, Bool.true_and, Bool.and_false, Bool.false_and, Bool.or_true, Bool.true_or, Bool.or_false, Bool.false_or, Bool.not_true, Bool.not_false, Bool.false_eq_true, Option.some.injEq, and_true, true_and, and_self, t_non, t_bl, t_int, t_str, t_lst, t_tup, t_dct, isiB, tyNs, List.contains_cons, List.contains_nil, String.reduceBEq, Bool.or_self, Bool.and_self, beq_self_eq_true, nc0, nc1, nc2, nc3, nc4, nc5, nc6, nc7, nc8, nc9, nc10, nc11, nc12, e_at0, e_at1, e_at2, e_at3, e_at4, e_at5, e_at6, e_at7, e_at8, e_at9, e_at10, e_at11, e_atm1, e_atm2, e_atm3, e_atm4, e_atm5, d1, d2]
  exact ⟨_, rfl, ⟨if c - 1000000000000000000 > 0 then c - 1000000000000000000 else 0, c % 2147483629, 0, by simp, by split <;> omega, Int.emod_nonneg _ (by decide), Int.emod_lt_of_pos _ (by decide), by decide, by decide⟩, by simp, fun q hq => List.getElem?_append_left hq⟩
theorem f_worthL {p : Nat} {k n : Int} (hp : PuA m p k) (hk : k ≤ 900000000) (h1 : 1 ≤ n) (h8 : n ≤ 8) : ∃ d m', p__law_worth [.loc p, .int n] m = .ok (.int d) m' ∧ 0 ≤ d ∧ d < 2 ^ n.toNat ∧ PuA m' p (k + 2) ∧ ButA p m m' := by
  unfold p__law_worth q__law_worth
  have top := pow8 h1 h8
  have c : cPow 1 n = true := cp (by omega) (by omega) (by decide)
  obtain ⟨d1, m1, e1, a1, b1, p1, u1⟩ := f_take m p k (2 ^ n.toNat) hp (by omega) (by omega) (by omega)
  obtain ⟨d2, m2, e2, a2, b2, p2, u2⟩ := f_take m1 p (k + 1) 3 p1 (by omega) (by decide) (by decide)
  simp only [e_ok, e_ex, e_bad, e_sok, e_sex, e_sbad, e_var0, e_varS, e_varB0, e_varB1, e_varBS, e_c, e_nil, e_cons, e_op, e_some, e_none, e_cb, e_tup, e_lstF, e_val, e_bOf, e_iOf, e_andT, e_orT, e_notT, e_and, e_or, e_not, e_if, e_chain, e_neg, e_dct0, e_isi2, e_noP, e_pt, e_sl, e_P1, e_slL, e_slT, e_rev, e_call, e_callK, e_lstV, e_new, e_vLst, e_vCat, e_vSl, e_vList, e_vRep, e_lcV, e_compK, e_forK, e_iSq, e_iEn, e_iRg, e_vsqL, e_vsqT, e_iZp, e_catLL, e_catTT, e_aI0, e_aI, e_seqL, e_seqT, e_ixL, e_ixT, e_lenL, e_lenT, e_isi, e_max, e_min, e_tupL, e_tupT, e_intI, e_intB, e_listL, e_listT, e_all, e_any, e_sum, e_all, e_eqII, e_eqSS, e_next, e_seq, e_snx, e_srt, e_sbk, e_sct, e_sxx, e_sbd, e_drop, e_ret, e_retN, e_qif, e_break, e_cont, e_asg, e_asgT, e_ownV, e_app, e_par, e_raise, e_for, e_try, e_txx, e_tnx, e_trt, e_hrt, e_body, e_fnx, e_frt, e_fex, e_start0, e_startS, e_rep0, e_repS, List.append_nil, List.nil_append, List.set_cons_zero, List.set_cons_succ, List.length_cons, List.length_nil, List.length_map, List.length_range, Nat.reduceAdd, Nat.reduceLeDiff, Nat.reduceLT, Int.reduceLT, Int.reduceEq, Int.reduceLE, Int.reducePow, Int.reduceNeg, Int.reduceMul, Int.reduceAdd, Int.reduceSub, Int.reduceToNat, if_true, if_false, cond_true, cond_false, decide_true, decide_false, Bool.and_true, Bool.true_and, Bool.and_false, Bool.false_and, Bool.or_true, Bool.true_or, Bool.or_false, Bool.false_or, Bool.not_true, Bool.not_false, Bool.false_eq_true, Option.some.injEq, and_true, true_and, and_self, t_non, t_bl, t_int, t_str, t_lst, t_tup, t_dct, isiB, tyNs, List.contains_cons, List.contains_nil, String.reduceBEq, Bool.or_self, Bool.and_self, beq_self_eq_true, nc0, nc1, nc2, nc3, nc4, nc5, nc6, nc7, nc8, nc9, nc10, nc11, nc12, e_at0, e_at1, e_at2, e_at3, e_at4, e_at5, e_at6, e_at7, e_at8, e_at9, e_at10, e_at11, e_atm1, e_atm2, e_atm3, e_atm4, e_atm5, c, Int.one_mul, e1, e2]
  have : d2 = 0 ∨ d2 = 1 ∨ d2 = 2 := by omega
  have p3 : PuA m2 p (k + 2) := p2.le (by omega)
  rcases this with rfl | rfl | rfl
  · simp only [e_ok, e_ex, e_bad, e_sok, e_sex, e_sbad, e_var0, e_varS, e_varB0, e_varB1, e_varBS, e_c, e_nil, e_cons, e_op, e_some, e_none, e_cb, e_tup, e_lstF, e_val, e_bOf, e_iOf, e_andT, e_orT, e_notT, e_and, e_or, e_not, e_if, e_chain, e_neg, e_dct0, e_isi2, e_noP, e_pt, e_sl, e_P1, e_slL, e_slT, e_rev, e_call, e_callK, e_lstV, e_new, e_vLst, e_vCat, e_vSl, e_vList, e_vRep, e_lcV, e_compK, e_forK, e_iSq, e_iEn, e_iRg, e_vsqL, e_vsqT, e_iZp, e_catLL, e_catTT, e_aI0, e_aI, e_seqL, e_seqT, e_ixL, e_ixT, e_lenL, e_lenT, e_isi, e_max, e_min, e_tupL, e_tupT, e_intI, e_intB, e_listL, e_listT, e_all, e_any, e_sum, e_all, e_eqII, e_eqSS, e_next, e_seq, e_snx, e_srt, e_sbk, e_sct, e_sxx, e_sbd, e_drop, e_ret, e_retN, e_qif, e_break, e_cont, e_asg, e_asgT, e_ownV, e_app, e_par, e_raise, e_for, e_try, e_txx, e_tnx, e_trt, e_hrt, e_body, e_fnx, e_frt, e_fex, e_start0, e_startS, e_rep0, e_repS, List.append_nil, List.nil_append, List.set_cons_zero, List.set_cons_succ, List.length_cons, List.length_nil, List.length_map, List.length_range, Nat.reduceAdd, Nat.reduceLeDiff, Nat.reduceLT, Int.reduceLT, Int.reduceEq, Int.reduceLE, Int.reducePow, Int.reduceNeg, Int.reduceMul, Int.reduceAdd, Int.reduceSub, Int.reduceToNat, if_true, if_false, cond_true, cond_false, decide_true, decide_false, Bool.and_true, Bool.true_and, Bool.and_false, Bool.false_and, Bool.or_true, Bool.true_or, Bool.or_false, Bool.false_or, Bool.not_true, Bool.not_false, Bool.false_eq_true, Option.some.injEq, and_true, true_and, and_self, t_non, t_bl, t_int, t_str, t_lst, t_tup, t_dct, isiB, tyNs, List.contains_cons, List.contains_nil, String.reduceBEq, Bool.or_self, Bool.and_self, beq_self_eq_true, nc0, nc1, nc2, nc3, nc4, nc5, nc6, nc7, nc8, nc9, nc10, nc11, nc12, e_at0, e_at1, e_at2, e_at3, e_at4, e_at5, e_at6, e_at7, e_at8, e_at9, e_at10, e_at11, e_atm1, e_atm2, e_atm3, e_atm4, e_atm5]
    exact ⟨_, _, rfl, by decide, by omega, p3, u1.trans u2⟩
  · simp only [e_ok, e_ex, e_bad, e_sok, e_sex, e_sbad, e_var0, e_varS, e_varB0, e_varB1, e_varBS, e_c, e_nil, e_cons, e_op, e_some, e_none, e_cb, e_tup, e_lstF, e_val, e_bOf, e_iOf, e_andT, e_orT, e_notT, e_and, e_or, e_not, e_if, e_chain, e_neg, e_dct0, e_isi2, e_noP, e_pt, e_sl, e_P1, e_slL, e_slT, e_rev, e_call, e_callK, e_lstV, e_new, e_vLst, e_vCat, e_vSl, e_vList, e_vRep, e_lcV, e_compK, e_forK, e_iSq, e_iEn, e_iRg, e_vsqL, e_vsqT, e_iZp, e_catLL, e_catTT, e_aI0, e_aI, e_seqL, e_seqT, e_ixL, e_ixT, e_lenL, e_lenT, e_isi, e_max, e_min, e_tupL, e_tupT, e_intI, e_intB, e_listL, e_listT, e_all, e_any, e_sum, e_all, e_eqII, e_eqSS, e_next, e_seq, e_snx, e_srt, e_sbk, e_sct, e_sxx, e_sbd, e_drop, e_ret, e_retN, e_qif, e_break, e_cont, e_asg, e_asgT, e_ownV, e_app, e_par, e_raise, e_for, e_try, e_txx, e_tnx, e_trt, e_hrt, e_body, e_fnx, e_frt, e_fex, e_start0, e_startS, e_rep0, e_repS, List.append_nil, List.nil_append, List.set_cons_zero, List.set_cons_succ, List.length_cons, List.length_nil, List.length_map, List.length_range, Nat.reduceAdd, Nat.reduceLeDiff, Nat.reduceLT, Int.reduceLT, Int.reduceEq, Int.reduceLE, Int.reducePow, Int.reduceNeg, Int.reduceMul, Int.reduceAdd, Int.reduceSub, Int.reduceToNat, if_true, if_false, cond_true, cond_false, decide_true, decide_false, Bool.and_true, Bool.true_and, Bool.and_false, Bool.false_and, Bool.or_true, Bool.true_or, Bool.or_false, Bool.false_or, Bool.not_true, Bool.not_false, Bool.false_eq_true, Option.some.injEq, and_true, true_and, and_self, t_non, t_bl, t_int, t_str, t_lst, t_tup, t_dct, isiB, tyNs, List.contains_cons, List.contains_nil, String.reduceBEq, Bool.or_self, Bool.and_self, beq_self_eq_true, nc0, nc1, nc2, nc3, nc4, nc5, nc6, nc7, nc8, nc9, nc10, nc11, nc12, e_at0, e_at1, e_at2, e_at3, e_at4, e_at5, e_at6, e_at7, e_at8, e_at9, e_at10, e_at11, e_atm1, e_atm2, e_atm3, e_atm4, e_atm5]
    exact ⟨_, _, rfl, by omega, by omega, p3, u1.trans u2⟩
  · simp only [e_ok, e_ex, e_bad, e_sok, e_sex, e_sbad, e_var0, e_varS, e_varB0, e_varB1, e_varBS, e_c, e_nil, e_cons, e_op, e_some, e_none, e_cb, e_tup, e_lstF, e_val, e_bOf, e_iOf, e_andT, e_orT, e_notT, e_and, e_or, e_not, e_if, e_chain, e_neg, e_dct0, e_isi2, e_noP, e_pt, e_sl, e_P1, e_slL, e_slT, e_rev, e_call, e_callK, e_lstV, e_new, e_vLst, e_vCat, e_vSl, e_vList, e_vRep, e_lcV, e_compK, e_forK, e_iSq, e_iEn, e_iRg, e_vsqL, e_vsqT, e_iZp, e_catLL, e_catTT, e_aI0, e_aI, e_seqL, e_seqT, e_ixL, e_ixT, e_lenL, e_lenT, e_isi, e_max, e_min, e_tupL, e_tupT, e_intI, e_intB, e_listL, e_listT, e_all, e_any, e_sum, e_all, e_eqII, e_eqSS, e_next, e_seq, e_snx, e_srt, e_sbk, e_sct, e_sxx, e_sbd, e_drop, e_ret, e_retN, e_qif, e_break, e_cont, e_asg, e_asgT, e_ownV, e_app, e_par, e_raise, e_for, e_try, e_txx, e_tnx, e_trt, e_hrt, e_body, e_fnx, e_frt, e_fex, e_start0, e_startS, e_rep0, e_repS, List.append_nil, List.nil_append, List.set_cons_zero, List.set_cons_succ, List.length_cons, List.length_nil, List.length_map, List.length_range, Nat.reduceAdd, Nat.reduceLeDiff, Nat.reduceLT, Int.reduceLT, Int.reduceEq, Int.reduceLE, Int.reducePow, Int.reduceNeg, Int.reduceMul, Int.reduceAdd, Int.reduceSub, Int.reduceToNat, if_true, if_false, cond_true, cond_false, decide_true, decide_false, Bool.and_true, Bool.true_and, Bool.and_false, Bool.false_and, Bool.or_true, Bool.true_or, Bool.or_false, Bool.false_or, Bool.not_true, Bool.not_false, Bool.false_eq_true, Option.some.injEq, and_true, true_and, and_self, t_non, t_bl, t_int, t_str, t_lst, t_tup, t_dct, isiB, tyNs, List.contains_cons, List.contains_nil, String.reduceBEq, Bool.or_self, Bool.and_self, beq_self_eq_true, nc0, nc1, nc2, nc3, nc4, nc5, nc6, nc7, nc8, nc9, nc10, nc11, nc12, e_at0, e_at1, e_at2, e_at3, e_at4, e_at5, e_at6, e_at7, e_at8, e_at9, e_at10, e_at11, e_atm1, e_atm2, e_atm3, e_atm4, e_atm5]
    exact ⟨_, _, rfl, a1, b1, p3, u1.trans u2⟩
/-! the law's own bits -/
theorem f_lbits {n w : Int} (h0 : 0 ≤ n) (h8 : n ≤ 1000) : p__law_bits [.int n, .int w] m = .ok (.lst ((bitsI n.toNat w).map .int)) m := by
  unfold p__law_bits q__law_bits
  have hz : -4611686018427387904 ≤ n ∧ n < 4611686018427387904 := by omega
  have hl : n.toNat < 1000000 := by omega
  simp only [e_ok, e_ex, e_bad, e_sok, e_sex, e_sbad, e_var0, e_varS, e_varB0, e_varB1, e_varBS, e_c, e_nil, e_cons, e_op, e_some, e_none, e_cb, e_tup, e_lstF, e_val, e_bOf, e_iOf, e_andT, e_orT, e_notT, e_and, e_or, e_not, e_if, e_chain, e_neg, e_dct0, e_isi2, e_noP, e_pt, e_sl, e_P1, e_slL, e_slT, e_rev, e_call, e_callK, e_lstV, e_new, e_vLst, e_vCat, e_vSl, e_vList, e_vRep, e_lcV, e_compK, e_forK, e_iSq, e_iEn, e_iRg, e_vsqL, e_vsqT, e_iZp, e_catLL, e_catTT, e_aI0, e_aI, e_seqL, e_seqT, e_ixL, e_ixT, e_lenL, e_lenT, e_isi, e_max, e_min, e_tupL, e_tupT, e_intI, e_intB, e_listL, e_listT, e_all, e_any, e_sum, e_all, e_eqII, e_eqSS, e_next, e_seq, e_snx, e_srt, e_sbk, e_sct, e_sxx, e_sbd, e_drop, e_ret, e_retN, e_qif, e_break, e_cont, e_asg, e_asgT, e_ownV, e_app, e_par, e_raise, e_for, e_try, e_txx, e_tnx, e_trt, e_hrt, e_body, e_fnx, e_frt, e_fex, e_start0, e_startS, e_rep0, e_repS, List.append_nil, List.nil_append, List.set_cons_zero, List.set_cons_succ, List.length_cons, List.length_nil, List.length_map, List.length_range, Nat.reduceAdd, Nat.reduceLeDiff, Nat.reduceLT, Int.reduceLT, Int.reduceEq, Int.reduceLE, Int.reducePow, Int.reduceNeg, Int.reduceMul, Int.reduceAdd, Int.reduceSub, Int.reduceToNat, if_true, if_false, cond_true, cond_false, decide_true, decide_false, Bool.and_true, Bool.true_and, Bool.and_false, Bool.false_and, Bool.or_true, Bool.true_or, Bool.or_false, Bool.false_or, Bool.not_true, Bool.not_false, Bool.false_eq_true, Option.some.injEq, and_true, true_and, and_self, t_non, t_bl, t_int, t_str, t_lst, t_tup, t_dct, isiB, tyNs, List.contains_cons, List.contains_nil, String.reduceBEq, Bool.or_self, Bool.and_self, beq_self_eq_true, nc0, nc1, nc2, nc3, nc4, nc5, nc6, nc7, nc8, nc9, nc10, nc11, nc12, e_at0, e_at1, e_at2, e_at3, e_at4, e_at5, e_at6, e_at7, e_at8, e_at9, e_at10, e_at11, e_atm1, e_atm2, e_atm3, e_atm4, e_atm5, hz, rangeA_length, hl, wipeA]
  rw [compA_pure (v := fun d => match d with | .int k => .int (w / 2 ^ k.toNat % 2) | _ => .non) fun d hd => ?_]
  · simp only [e_ok, e_ex, e_bad, e_sok, e_sex, e_sbad, e_var0, e_varS, e_varB0, e_varB1, e_varBS, e_c, e_nil, e_cons, e_op, e_some, e_none, e_cb, e_tup, e_lstF, e_val, e_bOf, e_iOf, e_andT, e_orT, e_notT, e_and, e_or, e_not, e_if, e_chain, e_neg, e_dct0, e_isi2, e_noP, e_pt, e_sl, e_P1, e_slL, e_slT, e_rev, e_call, e_callK, e_lstV, e_new, e_vLst, e_vCat, e_vSl, e_vList, e_vRep, e_lcV, e_compK, e_forK, e_iSq, e_iEn, e_iRg, e_vsqL, e_vsqT, e_iZp, e_catLL, e_catTT, e_aI0, e_aI, e_seqL, e_seqT, e_ixL, e_ixT, e_lenL, e_lenT, e_isi, e_max, e_min, e_tupL, e_tupT, e_intI, e_intB, e_listL, e_listT, e_all, e_any, e_sum, e_all, e_eqII, e_eqSS, e_next, e_seq, e_snx, e_srt, e_sbk, e_sct, e_sxx, e_sbd, e_drop, e_ret, e_retN, e_qif, e_break, e_cont, e_asg, e_asgT, e_ownV, e_app, e_par, e_raise, e_for, e_try, e_txx, e_tnx, e_trt, e_hrt, e_body, e_fnx, e_frt, e_fex, e_start0, e_startS, e_rep0, e_repS, List.append_nil, List.nil_append, List.set_cons_zero, List.set_cons_succ, List.length_cons, List.length_nil, List.length_map, List.length_range, Nat.reduceAdd, Nat.reduceLeDiff, Nat.reduceLT, Int.reduceLT, Int.reduceEq, Int.reduceLE, Int.reducePow, Int.reduceNeg, Int.reduceMul, Int.reduceAdd, Int.reduceSub, Int.reduceToNat, if_true, if_false, cond_true, cond_false, decide_true, decide_false, Bool.and_true, Bool.true_and, Bool.and_false, Bool.false_and, Bool.or_true, Bool.true_or, Bool.or_false, Bool.false_or, Bool.not_true, Bool.not_false, Bool.false_eq_true, Option.some.injEq, and_true, true_and, and_self, t_non, t_bl, t_int, t_str, t_lst, t_tup, t_dct, isiB, tyNs, List.contains_cons, List.contains_nil, String.reduceBEq, Bool.or_self, Bool.and_self, beq_self_eq_true, nc0, nc1, nc2, nc3, nc4, nc5, nc6, nc7, nc8, nc9, nc10, nc11, nc12, e_at0, e_at1, e_at2, e_at3, e_at4, e_at5, e_at6, e_at7, e_at8, e_at9, e_at10, e_at11, e_atm1, e_atm2, e_atm3, e_atm4, e_atm5, rangeA, List.map_map]
    rw [← bits_range]
    rfl
  · obtain ⟨i, rfl, _⟩ := rangeA_mem hd
    refine ⟨_, rfl, ?_⟩
    simp only [e_ok, e_ex, e_bad, e_sok, e_sex, e_sbad, e_var0, e_varS, e_varB0, e_varB1, e_varBS, e_c, e_nil, e_cons, e_op, e_some, e_none, e_cb, e_tup, e_lstF, e_val, e_bOf, e_iOf, e_andT, e_orT, e_notT, e_and, e_or, e_not, e_if, e_chain, e_neg, e_dct0, e_isi2, e_noP, e_pt, e_sl, e_P1, e_slL, e_slT, e_rev, e_call, e_callK, e_lstV, e_new, e_vLst, e_vCat, e_vSl, e_vList, e_vRep, e_lcV, e_compK, e_forK, e_iSq, e_iEn, e_iRg, e_vsqL, e_vsqT, e_iZp, e_catLL, e_catTT, e_aI0, e_aI, e_seqL, e_seqT, e_ixL, e_ixT, e_lenL, e_lenT, e_isi, e_max, e_min, e_tupL, e_tupT, e_intI, e_intB, e_listL, e_listT, e_all, e_any, e_sum, e_all, e_eqII, e_eqSS, e_next, e_seq, e_snx, e_srt, e_sbk, e_sct, e_sxx, e_sbd, e_drop, e_ret, e_retN, e_qif, e_break, e_cont, e_asg, e_asgT, e_ownV, e_app, e_par, e_raise, e_for, e_try, e_txx, e_tnx, e_trt, e_hrt, e_body, e_fnx, e_frt, e_fex, e_start0, e_startS, e_rep0, e_repS, List.append_nil, List.nil_append, List.set_cons_zero, List.set_cons_succ, List.length_cons, List.length_nil, List.length_map, List.length_range, Nat.reduceAdd, Nat.reduceLeDiff, Nat.reduceLT, Int.reduceLT, Int.reduceEq, Int.reduceLE, Int.reducePow, Int.reduceNeg, Int.reduceMul, Int.reduceAdd, Int.reduceSub, Int.reduceToNat, if_true, if_false, cond_true, cond_false, decide_true, decide_false, Bool.and_true, Bool.true_and, Bool.and_false, Bool.false_and, Bool.or_true, Bool.true_or, Bool.or_false, Bool.false_or, Bool.not_true, Bool.not_false, Bool.false_eq_true, Option.some.injEq, and_true, true_and, and_self, t_non, t_bl, t_int, t_str, t_lst, t_tup, t_dct, isiB, tyNs, List.contains_cons, List.contains_nil, String.reduceBEq, Bool.or_self, Bool.and_self, beq_self_eq_true, nc0, nc1, nc2, nc3, nc4, nc5, nc6, nc7, nc8, nc9, nc10, nc11, nc12, e_at0, e_at1, e_at2, e_at3, e_at4, e_at5, e_at6, e_at7, e_at8, e_at9, e_at10, e_at11, e_atm1, e_atm2, e_atm3, e_atm4, e_atm5, csr (i := w) (Int.natCast_nonneg i), bitAnd1]
theorem enum_shl (bs : List Int) : (enumA (bs.map A.int)).map (fun d => match d with | .tup [.int i, .int x] => A.int (x * 2 ^ i.toNat) | _ => .non) = (bs.mapIdx fun i x => x * 2 ^ i).map A.int := by
  unfold enumA
  apply List.ext_getElem?
  intro i
  simp only [List.getElem?_map, List.getElem?_mapIdx, Option.map_map]
  cases bs[i]? <;> rfl
theorem f_made {bs : List Int} (hl : bs.length ≤ 1000) (h : ∀ x ∈ bs, -18446744073709551616 < x ∧ x < 18446744073709551616) : p__law_made [.lst (bs.map .int)] m = .ok (.int (val bs)) m := by
  unfold p__law_made q__law_made
  have hl2 : bs.length < 1000000 := by omega
  simp only [e_ok, e_ex, e_bad, e_sok, e_sex, e_sbad, e_var0, e_varS, e_varB0, e_varB1, e_varBS, e_c, e_nil, e_cons, e_op, e_some, e_none, e_cb, e_tup, e_lstF, e_val, e_bOf, e_iOf, e_andT, e_orT, e_notT, e_and, e_or, e_not, e_if, e_chain, e_neg, e_dct0, e_isi2, e_noP, e_pt, e_sl, e_P1, e_slL, e_slT, e_rev, e_call, e_callK, e_lstV, e_new, e_vLst, e_vCat, e_vSl, e_vList, e_vRep, e_lcV, e_compK, e_forK, e_iSq, e_iEn, e_iRg, e_vsqL, e_vsqT, e_iZp, e_catLL, e_catTT, e_aI0, e_aI, e_seqL, e_seqT, e_ixL, e_ixT, e_lenL, e_lenT, e_isi, e_max, e_min, e_tupL, e_tupT, e_intI, e_intB, e_listL, e_listT, e_all, e_any, e_sum, e_all, e_eqII, e_eqSS, e_next, e_seq, e_snx, e_srt, e_sbk, e_sct, e_sxx, e_sbd, e_drop, e_ret, e_retN, e_qif, e_break, e_cont, e_asg, e_asgT, e_ownV, e_app, e_par, e_raise, e_for, e_try, e_txx, e_tnx, e_trt, e_hrt, e_body, e_fnx, e_frt, e_fex, e_start0, e_startS, e_rep0, e_repS, List.append_nil, List.nil_append, List.set_cons_zero, List.set_cons_succ, List.length_cons, List.length_nil, List.length_map, List.length_range, Nat.reduceAdd, Nat.reduceLeDiff, Nat.reduceLT, Int.reduceLT, Int.reduceEq, Int.reduceLE, Int.reducePow, Int.reduceNeg, Int.reduceMul, Int.reduceAdd, Int.reduceSub, Int.reduceToNat, if_true, if_false, cond_true, cond_false, decide_true, decide_false, Bool.and_true, Bool.true_and, Bool.and_false, Bool.false_and, Bool.or_true, Bool.true_or, Bool.or_false, Bool.false_or, Bool.not_true, Bool.not_false, Bool.false_eq_true, Option.some.injEq, and_true, true_and, and_self, t_non, t_bl, t_int, t_str, t_lst, t_tup, t_dct, isiB, tyNs, List.contains_cons, List.contains_nil, String.reduceBEq, Bool.or_self, Bool.and_self, beq_self_eq_true, nc0, nc1, nc2, nc3, nc4, nc5, nc6, nc7, nc8, nc9, nc10, nc11, nc12, e_at0, e_at1, e_at2, e_at3, e_at4, e_at5, e_at6, e_at7, e_at8, e_at9, e_at10, e_at11, e_atm1, e_atm2, e_atm3, e_atm4, e_atm5, enumA_length, hl2, wipeA]
  rw [compA_pure (v := fun d => match d with | .tup [.int i, .int x] => .int (x * 2 ^ i.toNat) | _ => .non) fun d hd => ?_]
  · rw [enum_shl]
    simp only [e_ok, e_ex, e_bad, e_sok, e_sex, e_sbad, e_var0, e_varS, e_varB0, e_varB1, e_varBS, e_c, e_nil, e_cons, e_op, e_some, e_none, e_cb, e_tup, e_lstF, e_val, e_bOf, e_iOf, e_andT, e_orT, e_notT, e_and, e_or, e_not, e_if, e_chain, e_neg, e_dct0, e_isi2, e_noP, e_pt, e_sl, e_P1, e_slL, e_slT, e_rev, e_call, e_callK, e_lstV, e_new, e_vLst, e_vCat, e_vSl, e_vList, e_vRep, e_lcV, e_compK, e_forK, e_iSq, e_iEn, e_iRg, e_vsqL, e_vsqT, e_iZp, e_catLL, e_catTT, e_aI0, e_aI, e_seqL, e_seqT, e_ixL, e_ixT, e_lenL, e_lenT, e_isi, e_max, e_min, e_tupL, e_tupT, e_intI, e_intB, e_listL, e_listT, e_all, e_any, e_sum, e_all, e_eqII, e_eqSS, e_next, e_seq, e_snx, e_srt, e_sbk, e_sct, e_sxx, e_sbd, e_drop, e_ret, e_retN, e_qif, e_break, e_cont, e_asg, e_asgT, e_ownV, e_app, e_par, e_raise, e_for, e_try, e_txx, e_tnx, e_trt, e_hrt, e_body, e_fnx, e_frt, e_fex, e_start0, e_startS, e_rep0, e_repS, List.append_nil, List.nil_append, List.set_cons_zero, List.set_cons_succ, List.length_cons, List.length_nil, List.length_map, List.length_range, Nat.reduceAdd, Nat.reduceLeDiff, Nat.reduceLT, Int.reduceLT, Int.reduceEq, Int.reduceLE, Int.reducePow, Int.reduceNeg, Int.reduceMul, Int.reduceAdd, Int.reduceSub, Int.reduceToNat, if_true, if_false, cond_true, cond_false, decide_true, decide_false, Bool.and_true, Bool.true_and, Bool.and_false, Bool.false_and, Bool.or_true, Bool.true_or, Bool.or_false, Bool.false_or, Bool.not_true, Bool.not_false, Bool.false_eq_true, Option.some.injEq, and_true, true_and, and_self, t_non, t_bl, t_int, t_str, t_lst, t_tup, t_dct, isiB, tyNs, List.contains_cons, List.contains_nil, String.reduceBEq, Bool.or_self, Bool.and_self, beq_self_eq_true, nc0, nc1, nc2, nc3, nc4, nc5, nc6, nc7, nc8, nc9, nc10, nc11, nc12, e_at0, e_at1, e_at2, e_at3, e_at4, e_at5, e_at6, e_at7, e_at8, e_at9, e_at10, e_at11, e_atm1, e_atm2, e_atm3, e_atm4, e_atm5, e_sum]
    rw [← sumI_val]
    rfl
  · unfold enumA at hd
    obtain ⟨i, hi⟩ := List.mem_iff_getElem?.mp hd
    simp only [List.getElem?_mapIdx, List.getElem?_map] at hi
    cases hb : bs[i]? with
    | none => rw [hb] at hi; cases hi
    | some x =>
      rw [hb] at hi
      cases hi
      have hx := h x (List.mem_of_getElem? hb)
      have hi2 : i < bs.length := by
        rcases Nat.lt_or_ge i bs.length with z | z
        · exact z
        · rw [List.getElem?_eq_none z] at hb
          cases hb
      refine ⟨_, rfl, ?_⟩
      have c : cPow x (i : Int) = true := cpw (by omega) (by omega) hx.1 hx.2
      simp only [e_ok, e_ex, e_bad, e_sok, e_sex, e_sbad, e_var0, e_varS, e_varB0, e_varB1, e_varBS, e_c, e_nil, e_cons, e_op, e_some, e_none, e_cb, e_tup, e_lstF, e_val, e_bOf, e_iOf, e_andT, e_orT, e_notT, e_and, e_or, e_not, e_if, e_chain, e_neg, e_dct0, e_isi2, e_noP, e_pt, e_sl, e_P1, e_slL, e_slT, e_rev, e_call, e_callK, e_lstV, e_new, e_vLst, e_vCat, e_vSl, e_vList, e_vRep, e_lcV, e_compK, e_forK, e_iSq, e_iEn, e_iRg, e_vsqL, e_vsqT, e_iZp, e_catLL, e_catTT, e_aI0, e_aI, e_seqL, e_seqT, e_ixL, e_ixT, e_lenL, e_lenT, e_isi, e_max, e_min, e_tupL, e_tupT, e_intI, e_intB, e_listL, e_listT, e_all, e_any, e_sum, e_all, e_eqII, e_eqSS, e_next, e_seq, e_snx, e_srt, e_sbk, e_sct, e_sxx, e_sbd, e_drop, e_ret, e_retN, e_qif, e_break, e_cont, e_asg, e_asgT, e_ownV, e_app, e_par, e_raise, e_for, e_try, e_txx, e_tnx, e_trt, e_hrt, e_body, e_fnx, e_frt, e_fex, e_start0, e_startS, e_rep0, e_repS, List.append_nil, List.nil_append, List.set_cons_zero, List.set_cons_succ, List.length_cons, List.length_nil, List.length_map, List.length_range, Nat.reduceAdd, Nat.reduceLeDiff, Nat.reduceLT, Int.reduceLT, Int.reduceEq, Int.reduceLE, Int.reducePow, Int.reduceNeg, Int.reduceMul, Int.reduceAdd, Int.reduceSub, Int.reduceToNat, if_true, if_false, cond_true, cond_false, decide_true, decide_false, Bool.and_true, Bool.true_and, Bool.and_false, Bool.false_and, Bool.or_true, Bool.true_or, Bool.or_false, Bool.false_or, Bool.not_true, Bool.not_false, Bool.false_eq_true, Option.some.injEq, and_true, true_and, and_self, t_non, t_bl, t_int, t_str, t_lst, t_tup, t_dct, isiB, tyNs, List.contains_cons, List.contains_nil, String.reduceBEq, Bool.or_self, Bool.and_self, beq_self_eq_true, nc0, nc1, nc2, nc3, nc4, nc5, nc6, nc7, nc8, nc9, nc10, nc11, nc12, e_at0, e_at1, e_at2, e_at3, e_at4, e_at5, e_at6, e_at7, e_at8, e_at9, e_at10, e_at11, e_atm1, e_atm2, e_atm3, e_atm4, e_atm5, c]
end L03
set_option maxHeartbeats 400001
namespace L03
open PySem PySem.Spec
open PyProof.Rows L2 DL FL
variable {m : AM}
theorem zipA_map (f : Int → Int → Int) (v : A → A) (hv : ∀ x y : Int, v (.tup [.int x, .int y]) = .int (f x y)) : ∀ xs ys : List Int, (zipA (xs.map A.int) (ys.map A.int)).map v = (zipB f xs ys).map A.int
  | [], ys => by simp [zipA, zipB]
  | _ :: _, [] => by simp [zipA, zipB]
  | x :: xs, y :: ys => by
    have ih := zipA_map f v hv xs ys
    unfold zipA at ih ⊢
    rw [List.map_cons, List.map_cons, List.zip_cons_cons, List.map_cons, List.map_cons, hv, ih]
    rfl
theorem zipA_mem {xs ys : List Int} {d : A} (h : d ∈ zipA (xs.map A.int) (ys.map A.int)) : ∃ x y : Int, d = .tup [.int x, .int y] := by
  unfold zipA at h
  rcases List.mem_map.mp h with ⟨p, hp, rfl⟩
  obtain ⟨h1, h2⟩ := List.of_mem_zip hp
  obtain ⟨x, _, e1⟩ := List.mem_map.mp h1
  obtain ⟨y, _, e2⟩ := List.mem_map.mp h2
  exact ⟨x, y, by rw [← e1, ← e2]⟩
theorem zipB_len (f : Int → Int → Int) : ∀ xs ys : List Int, (zipB f xs ys).length ≤ xs.length
  | [], _ => Nat.le_refl _
  | _ :: _, [] => Nat.zero_le _
  | x :: xs, y :: ys => Nat.succ_le_succ (zipB_len f xs ys)
theorem zipB01 (f : Int → Int → Int) (h : ∀ x y, (x = 0 ∨ x = 1) → (y = 0 ∨ y = 1) → (f x y = 0 ∨ f x y = 1)) : ∀ xs ys : List Int, (∀ x ∈ xs, x = 0 ∨ x = 1) → (∀ y ∈ ys, y = 0 ∨ y = 1) → ∀ z ∈ zipB f xs ys, z = 0 ∨ z = 1
  | [], _, _, _, z, q => by cases q
  | _ :: _, [], _, _, z, q => by cases q
  | x :: xs, y :: ys, hx, hy, z, q => by
    rcases List.mem_cons.mp q with rfl | q
    · exact h _ _ (hx x List.mem_cons_self) (hy y List.mem_cons_self)
    · exact zipB01 f h xs ys (fun w q => hx w (List.mem_cons_of_mem _ q)) (fun w q => hy w (List.mem_cons_of_mem _ q)) z q
theorem carried01 : ∀ (xs ys : List Int) (c : Int), ∀ z ∈ carried xs ys c, z = 0 ∨ z = 1
  | [], _, _, z, q => by simp [carried] at q
  | _ :: _, [], _, z, q => by simp [carried] at q
  | x :: xs, y :: ys, c, z, q => by
    rw [carried] at q
    rcases List.mem_cons.mp q with rfl | q
    · omega
    · exact carried01 xs ys _ z q
theorem carried_len : ∀ (xs ys : List Int) (c : Int), (carried xs ys c).length ≤ xs.length
  | [], _, _ => by simp [carried]
  | _ :: _, [], _ => by simp [carried]
  | x :: xs, y :: ys, c => by
    rw [carried]
    exact Nat.succ_le_succ (carried_len xs ys _)
theorem made01 {bs : List Int} (hl : bs.length ≤ 1000) (h : ∀ x ∈ bs, x = 0 ∨ x = 1) : p__law_made [.lst (bs.map .int)] m = .ok (.int (val bs)) m := f_made hl fun x hx => by have := h x hx; omega
theorem carry_loop {v0 v1 v2 : SV} : ∀ (xs ys : List Int) (c : Int) (acc : List A) (v5 v6 : SV), acc.length + xs.length < 1000000 → ∃ c' v5' v6', forA (tTup 2 (tCons (tNm 5) (tCons (tNm 6) tNil))) b1__law_carried (zipA (xs.map A.int) (ys.map A.int)) [v0, v1, v2, .val (.int c), .own acc, v5, v6] m = .nx [v0, v1, v2, .val (.int c'), .own (acc ++ (carried xs ys c).map .int), v5', v6'] m
  | [], ys, c, acc, v5, v6, _ => ⟨c, v5, v6, by simp [zipA, forA, carried]⟩
  | _ :: _, [], c, acc, v5, v6, _ => ⟨c, v5, v6, by simp [zipA, forA, carried]⟩
  | x :: xs, y :: ys, c, acc, v5, v6, hl => by
    have hl2 : acc.length < 1000000 := by rw [List.length_cons] at hl; omega
    obtain ⟨c', v5', v6', e⟩ := carry_loop (v0 := v0) (v1 := v1) (v2 := v2) xs ys (if 1 < x + y + c then 1 else 0) (acc ++ [.int ((x + y + c) % 2)]) (.val (.int x)) (.val (.int y)) (by rw [List.length_append, List.length_singleton]; rw [List.length_cons] at hl; omega)
    refine ⟨c', v5', v6', ?_⟩
    have z : zipA ((x :: xs).map A.int) ((y :: ys).map A.int) = .tup [.int x, .int y] :: zipA (xs.map A.int) (ys.map A.int) := rfl
    rw [z, forA]
    have g : tTup 2 (tCons (tNm 5) (tCons (tNm 6) tNil)) (.tup [.int x, .int y]) [v0, v1, v2, .val (.int c), .own acc, v5, v6] = some [v0, v1, v2, .val (.int c), .own acc, .val (.int x), .val (.int y)] := rfl
    have b : b1__law_carried [v0, v1, v2, .val (.int c), .own acc, .val (.int x), .val (.int y)] m = .nx [v0, v1, v2, .val (.int (if 1 < x + y + c then 1 else 0)), .own (acc ++ [.int ((x + y + c) % 2)]), .val (.int x), .val (.int y)] m := by
      unfold b1__law_carried
      simp only [e_ok, e_ex, e_bad, e_sok, e_sex, e_sbad, e_var0, e_varS, e_varB0, e_varB1, e_varBS, e_c, e_nil, e_cons, e_op, e_some, e_none, e_cb, e_tup, e_lstF, e_val, e_bOf, e_iOf, e_andT, e_orT, e_notT, e_and, e_or, e_not, e_if, e_chain, e_neg, e_dct0, e_isi2, e_noP, e_pt, e_sl, e_P1, e_slL, e_slT, e_rev, e_call, e_callK, e_lstV, e_new, e_vLst, e_vCat, e_vSl, e_vList, e_vRep, e_lcV, e_compK, e_forK, e_iSq, e_iEn, e_iRg, e_vsqL, e_vsqT, e_iZp, e_catLL, e_catTT, e_aI0, e_aI, e_seqL, e_seqT, e_ixL, e_ixT, e_lenL, e_lenT, e_isi, e_max, e_min, e_tupL, e_tupT, e_intI, e_intB, e_listL, e_listT, e_all, e_any, e_sum, e_all, e_eqII, e_eqSS, e_next, e_seq, e_snx, e_srt, e_sbk, e_sct, e_sxx, e_sbd, e_drop, e_ret, e_retN, e_qif, e_break, e_cont, e_asg, e_asgT, e_ownV, e_app, e_par, e_raise, e_for, e_try, e_txx, e_tnx, e_trt, e_hrt, e_body, e_fnx, e_frt, e_fex, e_start0, e_startS, e_rep0, e_repS, List.append_nil, List.nil_append, List.set_cons_zero, List.set_cons_succ, List.length_cons, List.length_nil, List.length_map, List.length_range, Nat.reduceAdd, Nat.reduceLeDiff, Nat.reduceLT, Int.reduceLT, Int.reduceEq, Int.reduceLE, Int.reducePow, Int.reduceNeg, Int.reduceMul, Int.reduceAdd, Int.reduceSub, Int.reduceToNat, if_true, if_false, cond_true, cond_false, decide_true, decide_false, Bool.and_true, Bool.true_and, Bool.and_false, Bool.false_and, Bool.or_true, Bool.true_or, Bool.or_false, Bool.false_or, Bool.not_true, Bool.not_false, Bool.false_eq_true, Option.some.injEq, and_true, true_and, and_self, t_non, t_bl, t_int, t_str, t_lst, t_tup, t_dct, isiB, tyNs, List.contains_cons, List.contains_nil, String.reduceBEq, Bool.or_self, Bool.and_self, beq_self_eq_true, nc0, nc1, nc2, nc3, nc4, nc5, nc6, nc7, nc8, nc9, nc10, nc11, nc12, e_at0, e_at1, e_at2, e_at3, e_at4, e_at5, e_at6, e_at7, e_at8, e_at9, e_at10, e_at11, e_atm1, e_atm2, e_atm3, e_atm4, e_atm5, cmd (i := x + y + c) (j := 2) (by decide), List.getElem?_cons_succ, List.getElem?_cons_zero, hl2, decide_eq_true_eq]
    simp only [g, b, e]
    rw [carried, List.map_cons, List.append_assoc]
    rfl
theorem f_carried {n a b c : Int} (h0 : 0 ≤ n) (h8 : n ≤ 1000) : p__law_carried [.int n, .int a, .int b, .int c] m = .ok (.int (val (carried (bitsI n.toNat a) (bitsI n.toNat b) c))) m := by
  unfold p__law_carried q__law_carried
  obtain ⟨c', v5, v6, e⟩ := carry_loop (m := m) (v0 := .val (.int n)) (v1 := .val (.int a)) (v2 := .val (.int b)) (bitsI n.toNat a) (bitsI n.toNat b) c [] .no .no (by rw [bitsI_length, List.length_nil]; omega)
  simp only [e_ok, e_ex, e_bad, e_sok, e_sex, e_sbad, e_var0, e_varS, e_varB0, e_varB1, e_varBS, e_c, e_nil, e_cons, e_op, e_some, e_none, e_cb, e_tup, e_lstF, e_val, e_bOf, e_iOf, e_andT, e_orT, e_notT, e_and, e_or, e_not, e_if, e_chain, e_neg, e_dct0, e_isi2, e_noP, e_pt, e_sl, e_P1, e_slL, e_slT, e_rev, e_call, e_callK, e_lstV, e_new, e_vLst, e_vCat, e_vSl, e_vList, e_vRep, e_lcV, e_compK, e_forK, e_iSq, e_iEn, e_iRg, e_vsqL, e_vsqT, e_iZp, e_catLL, e_catTT, e_aI0, e_aI, e_seqL, e_seqT, e_ixL, e_ixT, e_lenL, e_lenT, e_isi, e_max, e_min, e_tupL, e_tupT, e_intI, e_intB, e_listL, e_listT, e_all, e_any, e_sum, e_all, e_eqII, e_eqSS, e_next, e_seq, e_snx, e_srt, e_sbk, e_sct, e_sxx, e_sbd, e_drop, e_ret, e_retN, e_qif, e_break, e_cont, e_asg, e_asgT, e_ownV, e_app, e_par, e_raise, e_for, e_try, e_txx, e_tnx, e_trt, e_hrt, e_body, e_fnx, e_frt, e_fex, e_start0, e_startS, e_rep0, e_repS, List.append_nil, List.nil_append, List.set_cons_zero, List.set_cons_succ, List.length_cons, List.length_nil, List.length_map, List.length_range, Nat.reduceAdd, Nat.reduceLeDiff, Nat.reduceLT, Int.reduceLT, Int.reduceEq, Int.reduceLE, Int.reducePow, Int.reduceNeg, Int.reduceMul, Int.reduceAdd, Int.reduceSub, Int.reduceToNat, if_true, if_false, cond_true, cond_false, decide_true, decide_false, Bool.and_true, Bool.true_and, Bool.and_false, Bool.false_and, Bool.or_true, Bool.true_or, Bool.or_false, Bool.false_or, Bool.not_true, Bool.not_false, Bool.false_eq_true, Option.some.injEq, and_true, true_and, and_self, t_non, t_bl, t_int, t_str, t_lst, t_tup, t_dct, isiB, tyNs, List.contains_cons, List.contains_nil, String.reduceBEq, Bool.or_self, Bool.and_self, beq_self_eq_true, nc0, nc1, nc2, nc3, nc4, nc5, nc6, nc7, nc8, nc9, nc10, nc11, nc12, e_at0, e_at1, e_at2, e_at3, e_at4, e_at5, e_at6, e_at7, e_at8, e_at9, e_at10, e_at11, e_atm1, e_atm2, e_atm3, e_atm4, e_atm5, f_lbits h0 h8, e, qFrz, List.getElem?_cons_succ, List.getElem?_cons_zero, List.nil_append]
  rw [made01 (Nat.le_trans (carried_len _ _ _) (by rw [bitsI_length]; omega)) (carried01 _ _ _)]
  simp only [e_ok, e_ex, e_bad, e_sok, e_sex, e_sbad, e_var0, e_varS, e_varB0, e_varB1, e_varBS, e_c, e_nil, e_cons, e_op, e_some, e_none, e_cb, e_tup, e_lstF, e_val, e_bOf, e_iOf, e_andT, e_orT, e_notT, e_and, e_or, e_not, e_if, e_chain, e_neg, e_dct0, e_isi2, e_noP, e_pt, e_sl, e_P1, e_slL, e_slT, e_rev, e_call, e_callK, e_lstV, e_new, e_vLst, e_vCat, e_vSl, e_vList, e_vRep, e_lcV, e_compK, e_forK, e_iSq, e_iEn, e_iRg, e_vsqL, e_vsqT, e_iZp, e_catLL, e_catTT, e_aI0, e_aI, e_seqL, e_seqT, e_ixL, e_ixT, e_lenL, e_lenT, e_isi, e_max, e_min, e_tupL, e_tupT, e_intI, e_intB, e_listL, e_listT, e_all, e_any, e_sum, e_all, e_eqII, e_eqSS, e_next, e_seq, e_snx, e_srt, e_sbk, e_sct, e_sxx, e_sbd, e_drop, e_ret, e_retN, e_qif, e_break, e_cont, e_asg, e_asgT, e_ownV, e_app, e_par, e_raise, e_for, e_try, e_txx, e_tnx, e_trt, e_hrt, e_body, e_fnx, e_frt, e_fex, e_start0, e_startS, e_rep0, e_repS, List.append_nil, List.nil_append, List.set_cons_zero, List.set_cons_succ, List.length_cons, List.length_nil, List.length_map, List.length_range, Nat.reduceAdd, Nat.reduceLeDiff, Nat.reduceLT, Int.reduceLT, Int.reduceEq, Int.reduceLE, Int.reducePow, Int.reduceNeg, Int.reduceMul, Int.reduceAdd, Int.reduceSub, Int.reduceToNat, if_true, if_false, cond_true, cond_false, decide_true, decide_false, Bool.and_true, Bool.true_and, Bool.and_false, Bool.false_and, Bool.or_true, Bool.true_or, Bool.or_false, Bool.false_or, Bool.not_true, Bool.not_false, Bool.false_eq_true, Option.some.injEq, and_true, true_and, and_self, t_non, t_bl, t_int, t_str, t_lst, t_tup, t_dct, isiB, tyNs, List.contains_cons, List.contains_nil, String.reduceBEq, Bool.or_self, Bool.and_self, beq_self_eq_true, nc0, nc1, nc2, nc3, nc4, nc5, nc6, nc7, nc8, nc9, nc10, nc11, nc12, e_at0, e_at1, e_at2, e_at3, e_at4, e_at5, e_at6, e_at7, e_at8, e_at9, e_at10, e_at11, e_atm1, e_atm2, e_atm3, e_atm4, e_atm5]
def sqA (b : Bool) (l : List A) : A := cond b (.lst l) (.tup l)
theorem eqv_ints : ∀ xs ys : List Int, PyData.eqvAll (xs.map .int) (ys.map .int) = decide (xs = ys)
  | [], [] => (by simp [PyData.eqvAll])
  | [], _ :: _ => (by simp [PyData.eqvAll])
  | _ :: _, [] => (by simp [PyData.eqvAll])
  | x :: xs, y :: ys => by
    rw [List.map_cons, List.map_cons, PyData.eqvAll, eqv_ints xs ys, Bool.eq_iff_iff]
    simp [PyData.eqv]
theorem e_eqL {m : AM} {neg : Bool} {xs ys : List Int} : aEq neg (.lst (xs.map A.int)) (.lst (ys.map A.int)) m = some (.bl (if neg then !decide (xs = ys) else decide (xs = ys)), m) := by
  rw [e_eqP (pd_ints xs) (pd_ints ys) (shaped_ints xs) (shaped_ints ys)]
  simp only [PyData.eqv, eqv_ints]
theorem e_ltL {m : AM} {xs ys : List Int} (h : xs.length = ys.length) : aLtP (.lst (xs.map A.int)) (.lst (ys.map A.int)) m = some (.bl (HT.lexLt xs ys), m) := by
  have c : (PySem.W.alike (.list (xs.map PyData.int)) (.list (ys.map PyData.int)) && !isNone (.list (xs.map .int)) && decide ((PyData.list (xs.map .int)).depth ≤ 60)) = true := by
    simp only [PySem.W.alike, alike_ints, isNone, PyData.depth, depInts]
    decide
  simp only [aLtP, pd_ints, c, if_true, dataLt_ints xs ys h]
end L03
set_option maxHeartbeats 400001
namespace L03
open PySem PySem.Spec
open PyProof.Rows L2 DL FL
variable {m : AM}
theorem map_sub (bs : List Int) : (bs.map A.int).map (fun d => match d with | .int x => A.int (1 - x) | _ => .non) = (bs.map fun x => 1 - x).map A.int := by
  rw [(List.map_map), List.map_map]
  rfl
theorem f_nots {bs : List Int} {env : AEnv} {φe : FE} (he : ∀ x : Int, φe (env.set 7 (.val (.int x))) m = .ok (.int (1 - x)) m) : compA (tNm 7) env pYes φe (bs.map A.int) m = .ok ((bs.map fun x => 1 - x).map A.int) m := by
  rw [← map_sub]
  refine compA_pure fun d hd => ?_
  obtain ⟨x, _, rfl⟩ := List.mem_map.mp hd
  exact ⟨_, rfl, he x⟩
theorem f_zips {xs ys : List Int} {env : AEnv} {φe : FE} (f : Int → Int → Int) (he : ∀ x y : Int, φe ((env.set 8 (.val (.int x))).set 9 (.val (.int y))) m = .ok (.int (f x y)) m) : compA (tTup 2 (tCons (tNm 8) (tCons (tNm 9) tNil))) env pYes φe (zipA (xs.map A.int) (ys.map A.int)) m = .ok ((zipB f xs ys).map A.int) m := by
  rw [← zipA_map f (fun d => match d with | .tup [.int x, .int y] => A.int (f x y) | _ => .non) fun _ _ => rfl]
  refine compA_pure fun d hd => ?_
  obtain ⟨x, y, rfl⟩ := zipA_mem hd
  exact ⟨_, rfl, he x y⟩
theorem nots01 {bs : List Int} (h : ∀ x ∈ bs, x = 0 ∨ x = 1) : ∀ z ∈ bs.map (fun x => 1 - x), z = 0 ∨ z = 1 := fun z hz => by
  obtain ⟨x, hx, rfl⟩ := List.mem_map.mp hz
  have := h x hx
  omega
theorem f_due1 {w : Str} {n a r into spot : Int} (h1 : 1 ≤ n) (h8 : n ≤ 8) (a0 : 0 ≤ a) (a1 : a < 2 ^ n.toNat) (hi : 1 ≤ into) (hi8 : into ≤ 8) (hs : 0 ≤ spot) (hsn : spot < n)
    (hw : (w = "not" ∧ r = 2 ^ n.toNat - 1 - a) ∨ (w = "wide" ∧ r = a % 2 ^ into.toNat) ∨ (w = "bit" ∧ r = a / 2 ^ spot.toNat % 2)) : p__law_due [.str w, .int n, .lst [.int a], .int into, .int spot] m = .ok (.int r) m := by
  unfold p__law_due q__law_due
  have la := bitsI_length n.toNat a
  have a01 := bits01 n.toNat a
  have hl : (bitsI n.toNat a).length < 1000000 := by omega
  have hn : n.toNat ≤ 8 := by omega
  have fb : ∀ x, p__law_bits [.int n, .int x] m = .ok (.lst ((bitsI n.toNat x).map .int)) m := fun x => f_lbits (by omega) (by omega)
  rcases hw with ⟨rfl, rfl⟩ | ⟨rfl, rfl⟩ | ⟨rfl, rfl⟩
  · simp (config := { decide := true }) only [e_ok, e_ex, e_bad, e_sok, e_sex, e_sbad, e_var0, e_varS, e_varB0, e_varB1, e_varBS, e_c, e_nil, e_cons, e_op, e_some, e_none, e_cb, e_tup, e_lstF, e_val, e_bOf, e_iOf, e_andT, e_orT, e_notT, e_and, e_or, e_not, e_if, e_chain, e_neg, e_dct0, e_isi2, e_noP, e_pt, e_sl, e_P1, e_slL, e_slT, e_rev, e_call, e_callK, e_lstV, e_new, e_vLst, e_vCat, e_vSl, e_vList, e_vRep, e_lcV, e_compK, e_forK, e_iSq, e_iEn, e_iRg, e_vsqL, e_vsqT, e_iZp, e_catLL, e_catTT, e_aI0, e_aI, e_seqL, e_seqT, e_ixL, e_ixT, e_lenL, e_lenT, e_isi, e_max, e_min, e_tupL, e_tupT, e_intI, e_intB, e_listL, e_listT, e_all, e_any, e_sum, e_all, e_eqII, e_eqSS, e_next, e_seq, e_snx, e_srt, e_sbk, e_sct, e_sxx, e_sbd, e_drop, e_ret, e_retN, e_qif, e_break, e_cont, e_asg, e_asgT, e_ownV, e_app, e_par, e_raise, e_for, e_try, e_txx, e_tnx, e_trt, e_hrt, e_body, e_fnx, e_frt, e_fex, e_start0, e_startS, e_rep0, e_repS, List.append_nil, List.nil_append, List.set_cons_zero, List.set_cons_succ, List.length_cons, List.length_nil, List.length_map, List.length_range, Nat.reduceAdd, Nat.reduceLeDiff, Nat.reduceLT, Int.reduceLT, Int.reduceEq, Int.reduceLE, Int.reducePow, Int.reduceNeg, Int.reduceMul, Int.reduceAdd, Int.reduceSub, Int.reduceToNat, if_true, if_false, cond_true, cond_false, decide_true, decide_false, Bool.and_true, Bool.true_and, Bool.and_false, Bool.false_and, Bool.or_true, Bool.true_or, Bool.or_false, Bool.false_or, Bool.not_true, Bool.not_false, Bool.false_eq_true, Option.some.injEq, and_true, true_and, and_self, t_non, t_bl, t_int, t_str, t_lst, t_tup, t_dct, isiB, tyNs, List.contains_cons, List.contains_nil, String.reduceBEq, Bool.or_self, Bool.and_self, beq_self_eq_true, nc0, nc1, nc2, nc3, nc4, nc5, nc6, nc7, nc8, nc9, nc10, nc11, nc12, e_at0, e_at1, e_at2, e_at3, e_at4, e_at5, e_at6, e_at7, e_at8, e_at9, e_at10, e_at11, e_atm1, e_atm2, e_atm3, e_atm4, e_atm5, e_condB, e_condS, e_condQ, e_condF, e_condT, e_condO, e_cc, e_condBl, e_condAA, c_F, c_T, c_nF, c_nT, fb, hl, wipeA]
    rw [f_nots fun x => by simp only [e_ok, e_ex, e_bad, e_sok, e_sex, e_sbad, e_var0, e_varS, e_varB0, e_varB1, e_varBS, e_c, e_nil, e_cons, e_op, e_some, e_none, e_cb, e_tup, e_lstF, e_val, e_bOf, e_iOf, e_andT, e_orT, e_notT, e_and, e_or, e_not, e_if, e_chain, e_neg, e_dct0, e_isi2, e_noP, e_pt, e_sl, e_P1, e_slL, e_slT, e_rev, e_call, e_callK, e_lstV, e_new, e_vLst, e_vCat, e_vSl, e_vList, e_vRep, e_lcV, e_compK, e_forK, e_iSq, e_iEn, e_iRg, e_vsqL, e_vsqT, e_iZp, e_catLL, e_catTT, e_aI0, e_aI, e_seqL, e_seqT, e_ixL, e_ixT, e_lenL, e_lenT, e_isi, e_max, e_min, e_tupL, e_tupT, e_intI, e_intB, e_listL, e_listT, e_all, e_any, e_sum, e_all, e_eqII, e_eqSS, e_next, e_seq, e_snx, e_srt, e_sbk, e_sct, e_sxx, e_sbd, e_drop, e_ret, e_retN, e_qif, e_break, e_cont, e_asg, e_asgT, e_ownV, e_app, e_par, e_raise, e_for, e_try, e_txx, e_tnx, e_trt, e_hrt, e_body, e_fnx, e_frt, e_fex, e_start0, e_startS, e_rep0, e_repS, List.append_nil, List.nil_append, List.set_cons_zero, List.set_cons_succ, List.length_cons, List.length_nil, List.length_map, List.length_range, Nat.reduceAdd, Nat.reduceLeDiff, Nat.reduceLT, Int.reduceLT, Int.reduceEq, Int.reduceLE, Int.reducePow, Int.reduceNeg, Int.reduceMul, Int.reduceAdd, Int.reduceSub, Int.reduceToNat, if_true, if_false, cond_true, cond_false, decide_true, decide_false, Bool.and_true, Bool.true_and, Bool.and_false, Bool.false_and, Bool.or_true, Bool.true_or, Bool.or_false, Bool.false_or, Bool.not_true, Bool.not_false, Bool.false_eq_true, Option.some.injEq, and_true, true_and, and_self, t_non, t_bl, t_int, t_str, t_lst, t_tup, t_dct, isiB, tyNs, List.contains_cons, List.contains_nil, String.reduceBEq, Bool.or_self, Bool.and_self, beq_self_eq_true, nc0, nc1, nc2, nc3, nc4, nc5, nc6, nc7, nc8, nc9, nc10, nc11, nc12, e_at0, e_at1, e_at2, e_at3, e_at4, e_at5, e_at6, e_at7, e_at8, e_at9, e_at10, e_at11, e_atm1, e_atm2, e_atm3, e_atm4, e_atm5]]
    simp (config := { decide := true }) only [e_ok, e_ex, e_bad, e_sok, e_sex, e_sbad, e_var0, e_varS, e_varB0, e_varB1, e_varBS, e_c, e_nil, e_cons, e_op, e_some, e_none, e_cb, e_tup, e_lstF, e_val, e_bOf, e_iOf, e_andT, e_orT, e_notT, e_and, e_or, e_not, e_if, e_chain, e_neg, e_dct0, e_isi2, e_noP, e_pt, e_sl, e_P1, e_slL, e_slT, e_rev, e_call, e_callK, e_lstV, e_new, e_vLst, e_vCat, e_vSl, e_vList, e_vRep, e_lcV, e_compK, e_forK, e_iSq, e_iEn, e_iRg, e_vsqL, e_vsqT, e_iZp, e_catLL, e_catTT, e_aI0, e_aI, e_seqL, e_seqT, e_ixL, e_ixT, e_lenL, e_lenT, e_isi, e_max, e_min, e_tupL, e_tupT, e_intI, e_intB, e_listL, e_listT, e_all, e_any, e_sum, e_all, e_eqII, e_eqSS, e_next, e_seq, e_snx, e_srt, e_sbk, e_sct, e_sxx, e_sbd, e_drop, e_ret, e_retN, e_qif, e_break, e_cont, e_asg, e_asgT, e_ownV, e_app, e_par, e_raise, e_for, e_try, e_txx, e_tnx, e_trt, e_hrt, e_body, e_fnx, e_frt, e_fex, e_start0, e_startS, e_rep0, e_repS, List.append_nil, List.nil_append, List.set_cons_zero, List.set_cons_succ, List.length_cons, List.length_nil, List.length_map, List.length_range, Nat.reduceAdd, Nat.reduceLeDiff, Nat.reduceLT, Int.reduceLT, Int.reduceEq, Int.reduceLE, Int.reducePow, Int.reduceNeg, Int.reduceMul, Int.reduceAdd, Int.reduceSub, Int.reduceToNat, if_true, if_false, cond_true, cond_false, decide_true, decide_false, Bool.and_true, Bool.true_and, Bool.and_false, Bool.false_and, Bool.or_true, Bool.true_or, Bool.or_false, Bool.false_or, Bool.not_true, Bool.not_false, Bool.false_eq_true, Option.some.injEq, and_true, true_and, and_self, t_non, t_bl, t_int, t_str, t_lst, t_tup, t_dct, isiB, tyNs, List.contains_cons, List.contains_nil, String.reduceBEq, Bool.or_self, Bool.and_self, beq_self_eq_true, nc0, nc1, nc2, nc3, nc4, nc5, nc6, nc7, nc8, nc9, nc10, nc11, nc12, e_at0, e_at1, e_at2, e_at3, e_at4, e_at5, e_at6, e_at7, e_at8, e_at9, e_at10, e_at11, e_atm1, e_atm2, e_atm3, e_atm4, e_atm5, e_condB, e_condS, e_condQ, e_condF, e_condT, e_condO, e_cc, e_condBl, e_condAA, c_F, c_T, c_nF, c_nT, made01 (bs := (bitsI n.toNat a).map fun x => 1 - x) (by rw [List.length_map]; omega) (nots01 a01), val_not, la, val_bits n.toNat a a0 a1]
  · have c1 : n.toNat + 8 ≤ 1000000 := by omega
    have e1 : (List.replicate (Int.toNat 8) [A.int 0]).flatten = (List.replicate 8 (0 : Int)).map A.int := rfl
    have ec : cutA ((bitsI (n.toNat + 8) a).map A.int) none (some into) = (bitsI into.toNat a).map A.int := by
      unfold FL.cutA HT.sIx
      have hi : ¬ into < 0 := by omega
      simp only [if_neg hi, List.drop_zero, Nat.sub_zero, List.length_map, bitsI_length]
      rw [Nat.min_eq_left (by omega), ← List.map_take, bitsI_take _ _ _ (by omega)]
    have e8 : ((0 : Int) ≤ 8 ∧ (8 : Int) ≤ 1000 ∧ 0 + 1 ≤ 1000) := ⟨by decide, by decide, by decide⟩
    have e2 : ∀ k : AM → R A, (vRep (vLst (pCons (pC (A.int 0)) pNil)) (pC (A.int 8)) : FEs) = fun _ m => .ok ((List.replicate 8 (0 : Int)).map A.int) m := fun _ => by
      funext env m
      rfl
    simp (config := { decide := true }) only [e_ok, e_ex, e_bad, e_sok, e_sex, e_sbad, e_var0, e_varS, e_varB0, e_varB1, e_varBS, e_c, e_nil, e_cons, e_op, e_some, e_none, e_cb, e_tup, e_lstF, e_val, e_bOf, e_iOf, e_andT, e_orT, e_notT, e_and, e_or, e_not, e_if, e_chain, e_neg, e_dct0, e_isi2, e_noP, e_pt, e_sl, e_P1, e_slL, e_slT, e_rev, e_call, e_callK, e_lstV, e_new, e_vLst, e_vCat, e_vSl, e_vList, e_vRep, e_lcV, e_compK, e_forK, e_iSq, e_iEn, e_iRg, e_vsqL, e_vsqT, e_iZp, e_catLL, e_catTT, e_aI0, e_aI, e_seqL, e_seqT, e_ixL, e_ixT, e_lenL, e_lenT, e_isi, e_max, e_min, e_tupL, e_tupT, e_intI, e_intB, e_listL, e_listT, e_all, e_any, e_sum, e_all, e_eqII, e_eqSS, e_next, e_seq, e_snx, e_srt, e_sbk, e_sct, e_sxx, e_sbd, e_drop, e_ret, e_retN, e_qif, e_break, e_cont, e_asg, e_asgT, e_ownV, e_app, e_par, e_raise, e_for, e_try, e_txx, e_tnx, e_trt, e_hrt, e_body, e_fnx, e_frt, e_fex, e_start0, e_startS, e_rep0, e_repS, List.append_nil, List.nil_append, List.set_cons_zero, List.set_cons_succ, List.length_cons, List.length_nil, List.length_map, List.length_range, Nat.reduceAdd, Nat.reduceLeDiff, Nat.reduceLT, Int.reduceLT, Int.reduceEq, Int.reduceLE, Int.reducePow, Int.reduceNeg, Int.reduceMul, Int.reduceAdd, Int.reduceSub, Int.reduceToNat, if_true, if_false, cond_true, cond_false, decide_true, decide_false, Bool.and_true, Bool.true_and, Bool.and_false, Bool.false_and, Bool.or_true, Bool.true_or, Bool.or_false, Bool.false_or, Bool.not_true, Bool.not_false, Bool.false_eq_true, Option.some.injEq, and_true, true_and, and_self, t_non, t_bl, t_int, t_str, t_lst, t_tup, t_dct, isiB, tyNs, List.contains_cons, List.contains_nil, String.reduceBEq, Bool.or_self, Bool.and_self, beq_self_eq_true, nc0, nc1, nc2, nc3, nc4, nc5, nc6, nc7, nc8, nc9, nc10, nc11, nc12, e_at0, e_at1, e_at2, e_at3, e_at4, e_at5, e_at6, e_at7, e_at8, e_at9, e_at10, e_at11, e_atm1, e_atm2, e_atm3, e_atm4, e_atm5, e_condB, e_condS, e_condQ, e_condF, e_condT, e_condO, e_cc, e_condBl, e_condAA, c_F, c_T, c_nF, c_nT, fb, e2 fun _ => .bad, la, List.length_replicate, c1, ← List.map_append, ← bits_more _ _ _ a0 a1, ec]
    rw [made01 (by rw [bitsI_length]; omega) (bits01 _ _), val_mod]
    simp only [e_ok, e_ex, e_bad, e_sok, e_sex, e_sbad, e_var0, e_varS, e_varB0, e_varB1, e_varBS, e_c, e_nil, e_cons, e_op, e_some, e_none, e_cb, e_tup, e_lstF, e_val, e_bOf, e_iOf, e_andT, e_orT, e_notT, e_and, e_or, e_not, e_if, e_chain, e_neg, e_dct0, e_isi2, e_noP, e_pt, e_sl, e_P1, e_slL, e_slT, e_rev, e_call, e_callK, e_lstV, e_new, e_vLst, e_vCat, e_vSl, e_vList, e_vRep, e_lcV, e_compK, e_forK, e_iSq, e_iEn, e_iRg, e_vsqL, e_vsqT, e_iZp, e_catLL, e_catTT, e_aI0, e_aI, e_seqL, e_seqT, e_ixL, e_ixT, e_lenL, e_lenT, e_isi, e_max, e_min, e_tupL, e_tupT, e_intI, e_intB, e_listL, e_listT, e_all, e_any, e_sum, e_all, e_eqII, e_eqSS, e_next, e_seq, e_snx, e_srt, e_sbk, e_sct, e_sxx, e_sbd, e_drop, e_ret, e_retN, e_qif, e_break, e_cont, e_asg, e_asgT, e_ownV, e_app, e_par, e_raise, e_for, e_try, e_txx, e_tnx, e_trt, e_hrt, e_body, e_fnx, e_frt, e_fex, e_start0, e_startS, e_rep0, e_repS, List.append_nil, List.nil_append, List.set_cons_zero, List.set_cons_succ, List.length_cons, List.length_nil, List.length_map, List.length_range, Nat.reduceAdd, Nat.reduceLeDiff, Nat.reduceLT, Int.reduceLT, Int.reduceEq, Int.reduceLE, Int.reducePow, Int.reduceNeg, Int.reduceMul, Int.reduceAdd, Int.reduceSub, Int.reduceToNat, if_true, if_false, cond_true, cond_false, decide_true, decide_false, Bool.and_true, Bool.true_and, Bool.and_false, Bool.false_and, Bool.or_true, Bool.true_or, Bool.or_false, Bool.false_or, Bool.not_true, Bool.not_false, Bool.false_eq_true, Option.some.injEq, and_true, true_and, and_self, t_non, t_bl, t_int, t_str, t_lst, t_tup, t_dct, isiB, tyNs, List.contains_cons, List.contains_nil, String.reduceBEq, Bool.or_self, Bool.and_self, beq_self_eq_true, nc0, nc1, nc2, nc3, nc4, nc5, nc6, nc7, nc8, nc9, nc10, nc11, nc12, e_at0, e_at1, e_at2, e_at3, e_at4, e_at5, e_at6, e_at7, e_at8, e_at9, e_at10, e_at11, e_atm1, e_atm2, e_atm3, e_atm4, e_atm5]
  · have e : atI ((bitsI n.toNat a).map A.int) spot = some (.int (a / 2 ^ spot.toNat % 2)) := by
      unfold atI ixN
      rw [if_pos hs, if_pos (by rw [List.length_map, la]; omega)]
      show ((bitsI n.toNat a).map A.int)[spot.toNat]? = _
      rw [List.getElem?_map, bitsI_get _ _ _ (by omega)]
      rfl
    simp (config := { decide := true }) only [e_ok, e_ex, e_bad, e_sok, e_sex, e_sbad, e_var0, e_varS, e_varB0, e_varB1, e_varBS, e_c, e_nil, e_cons, e_op, e_some, e_none, e_cb, e_tup, e_lstF, e_val, e_bOf, e_iOf, e_andT, e_orT, e_notT, e_and, e_or, e_not, e_if, e_chain, e_neg, e_dct0, e_isi2, e_noP, e_pt, e_sl, e_P1, e_slL, e_slT, e_rev, e_call, e_callK, e_lstV, e_new, e_vLst, e_vCat, e_vSl, e_vList, e_vRep, e_lcV, e_compK, e_forK, e_iSq, e_iEn, e_iRg, e_vsqL, e_vsqT, e_iZp, e_catLL, e_catTT, e_aI0, e_aI, e_seqL, e_seqT, e_ixL, e_ixT, e_lenL, e_lenT, e_isi, e_max, e_min, e_tupL, e_tupT, e_intI, e_intB, e_listL, e_listT, e_all, e_any, e_sum, e_all, e_eqII, e_eqSS, e_next, e_seq, e_snx, e_srt, e_sbk, e_sct, e_sxx, e_sbd, e_drop, e_ret, e_retN, e_qif, e_break, e_cont, e_asg, e_asgT, e_ownV, e_app, e_par, e_raise, e_for, e_try, e_txx, e_tnx, e_trt, e_hrt, e_body, e_fnx, e_frt, e_fex, e_start0, e_startS, e_rep0, e_repS, List.append_nil, List.nil_append, List.set_cons_zero, List.set_cons_succ, List.length_cons, List.length_nil, List.length_map, List.length_range, Nat.reduceAdd, Nat.reduceLeDiff, Nat.reduceLT, Int.reduceLT, Int.reduceEq, Int.reduceLE, Int.reducePow, Int.reduceNeg, Int.reduceMul, Int.reduceAdd, Int.reduceSub, Int.reduceToNat, if_true, if_false, cond_true, cond_false, decide_true, decide_false, Bool.and_true, Bool.true_and, Bool.and_false, Bool.false_and, Bool.or_true, Bool.true_or, Bool.or_false, Bool.false_or, Bool.not_true, Bool.not_false, Bool.false_eq_true, Option.some.injEq, and_true, true_and, and_self, t_non, t_bl, t_int, t_str, t_lst, t_tup, t_dct, isiB, tyNs, List.contains_cons, List.contains_nil, String.reduceBEq, Bool.or_self, Bool.and_self, beq_self_eq_true, nc0, nc1, nc2, nc3, nc4, nc5, nc6, nc7, nc8, nc9, nc10, nc11, nc12, e_at0, e_at1, e_at2, e_at3, e_at4, e_at5, e_at6, e_at7, e_at8, e_at9, e_at10, e_at11, e_atm1, e_atm2, e_atm3, e_atm4, e_atm5, e_condB, e_condS, e_condQ, e_condF, e_condT, e_condO, e_cc, e_condBl, e_condAA, c_F, c_T, c_nF, c_nT, fb, e]
theorem f_due2 {w : Str} {n a c r into spot : Int} (h1 : 1 ≤ n) (h8 : n ≤ 8) (a0 : 0 ≤ a) (a1 : a < 2 ^ n.toNat) (c0 : 0 ≤ c) (c1 : c < 2 ^ n.toNat)
    (hw : (w = "and" ∧ r = Builtin.bitAnd a c) ∨ (w = "or" ∧ r = Builtin.bitOr a c) ∨ (w = "xor" ∧ r = Builtin.bitXor a c) ∨ (w = "add" ∧ r = (a + c) % 2 ^ n.toNat) ∨ (w = "sub" ∧ r = (a - c) % 2 ^ n.toNat) ∨
      (w = "less" ∧ r = if a < c then 1 else 0) ∨ (w = "same" ∧ r = if a = c then 1 else 0)) : p__law_due [.str w, .int n, .lst [.int a, .int c], .int into, .int spot] m = .ok (.int r) m := by
  unfold p__law_due q__law_due
  have la := bitsI_length n.toNat a
  have lc := bitsI_length n.toNat c
  have a01 := bits01 n.toNat a
  have c01 := bits01 n.toNat c
  have va := val_bits n.toNat a a0 a1
  have vc := val_bits n.toNat c c0 c1
  have hz : (zipA ((bitsI n.toNat a).map A.int) ((bitsI n.toNat c).map A.int)).length < 1000000 := by rw [zipA_length, List.length_map, la]; omega
  have hl : (bitsI n.toNat c).length < 1000000 := by omega
  have hn : n.toNat ≤ 8 := by omega
  have fb : ∀ x, p__law_bits [.int n, .int x] m = .ok (.lst ((bitsI n.toNat x).map .int)) m := fun x => f_lbits (by omega) (by omega)
  have zl : ∀ f, (zipB f (bitsI n.toNat a) (bitsI n.toNat c)).length ≤ 1000 := fun f => Nat.le_trans (zipB_len _ _ _) (by omega)
  have ea : a % 2 ^ n.toNat = a := Int.emod_eq_of_lt a0 a1
  have ec : c % 2 ^ n.toNat = c := Int.emod_eq_of_lt c0 c1
  rcases hw with ⟨rfl, rfl⟩ | ⟨rfl, rfl⟩ | ⟨rfl, rfl⟩ | ⟨rfl, rfl⟩ | ⟨rfl, rfl⟩ | ⟨rfl, rfl⟩ | ⟨rfl, rfl⟩
  · simp (config := { decide := true }) only [e_ok, e_ex, e_bad, e_sok, e_sex, e_sbad, e_var0, e_varS, e_varB0, e_varB1, e_varBS, e_c, e_nil, e_cons, e_op, e_some, e_none, e_cb, e_tup, e_lstF, e_val, e_bOf, e_iOf, e_andT, e_orT, e_notT, e_and, e_or, e_not, e_if, e_chain, e_neg, e_dct0, e_isi2, e_noP, e_pt, e_sl, e_P1, e_slL, e_slT, e_rev, e_call, e_callK, e_lstV, e_new, e_vLst, e_vCat, e_vSl, e_vList, e_vRep, e_lcV, e_compK, e_forK, e_iSq, e_iEn, e_iRg, e_vsqL, e_vsqT, e_iZp, e_catLL, e_catTT, e_aI0, e_aI, e_seqL, e_seqT, e_ixL, e_ixT, e_lenL, e_lenT, e_isi, e_max, e_min, e_tupL, e_tupT, e_intI, e_intB, e_listL, e_listT, e_all, e_any, e_sum, e_all, e_eqII, e_eqSS, e_next, e_seq, e_snx, e_srt, e_sbk, e_sct, e_sxx, e_sbd, e_drop, e_ret, e_retN, e_qif, e_break, e_cont, e_asg, e_asgT, e_ownV, e_app, e_par, e_raise, e_for, e_try, e_txx, e_tnx, e_trt, e_hrt, e_body, e_fnx, e_frt, e_fex, e_start0, e_startS, e_rep0, e_repS, List.append_nil, List.nil_append, List.set_cons_zero, List.set_cons_succ, List.length_cons, List.length_nil, List.length_map, List.length_range, Nat.reduceAdd, Nat.reduceLeDiff, Nat.reduceLT, Int.reduceLT, Int.reduceEq, Int.reduceLE, Int.reducePow, Int.reduceNeg, Int.reduceMul, Int.reduceAdd, Int.reduceSub, Int.reduceToNat, if_true, if_false, cond_true, cond_false, decide_true, decide_false, Bool.and_true, Bool.true_and, Bool.and_false, Bool.false_and, Bool.or_true, Bool.true_or, Bool.or_false, Bool.false_or, Bool.not_true, Bool.not_false, Bool.false_eq_true, Option.some.injEq, and_true, true_and, and_self, t_non, t_bl, t_int, t_str, t_lst, t_tup, t_dct, isiB, tyNs, List.contains_cons, List.contains_nil, String.reduceBEq, Bool.or_self, Bool.and_self, beq_self_eq_true, nc0, nc1, nc2, nc3, nc4, nc5, nc6, nc7, nc8, nc9, nc10, nc11, nc12, e_at0, e_at1, e_at2, e_at3, e_at4, e_at5, e_at6, e_at7, e_at8, e_at9, e_at10, e_at11, e_atm1, e_atm2, e_atm3, e_atm4, e_atm5, e_condB, e_condS, e_condQ, e_condF, e_condT, e_condO, e_cc, e_condBl, e_condAA, c_F, c_T, c_nF, c_nT, fb, hz, wipeA]
    rw [f_zips (fun x y => if y < x then y else x) fun x y => by simp only [e_ok, e_ex, e_bad, e_sok, e_sex, e_sbad, e_var0, e_varS, e_varB0, e_varB1, e_varBS, e_c, e_nil, e_cons, e_op, e_some, e_none, e_cb, e_tup, e_lstF, e_val, e_bOf, e_iOf, e_andT, e_orT, e_notT, e_and, e_or, e_not, e_if, e_chain, e_neg, e_dct0, e_isi2, e_noP, e_pt, e_sl, e_P1, e_slL, e_slT, e_rev, e_call, e_callK, e_lstV, e_new, e_vLst, e_vCat, e_vSl, e_vList, e_vRep, e_lcV, e_compK, e_forK, e_iSq, e_iEn, e_iRg, e_vsqL, e_vsqT, e_iZp, e_catLL, e_catTT, e_aI0, e_aI, e_seqL, e_seqT, e_ixL, e_ixT, e_lenL, e_lenT, e_isi, e_max, e_min, e_tupL, e_tupT, e_intI, e_intB, e_listL, e_listT, e_all, e_any, e_sum, e_all, e_eqII, e_eqSS, e_next, e_seq, e_snx, e_srt, e_sbk, e_sct, e_sxx, e_sbd, e_drop, e_ret, e_retN, e_qif, e_break, e_cont, e_asg, e_asgT, e_ownV, e_app, e_par, e_raise, e_for, e_try, e_txx, e_tnx, e_trt, e_hrt, e_body, e_fnx, e_frt, e_fex, e_start0, e_startS, e_rep0, e_repS, List.append_nil, List.nil_append, List.set_cons_zero, List.set_cons_succ, List.length_cons, List.length_nil, List.length_map, List.length_range, Nat.reduceAdd, Nat.reduceLeDiff, Nat.reduceLT, Int.reduceLT, Int.reduceEq, Int.reduceLE, Int.reducePow, Int.reduceNeg, Int.reduceMul, Int.reduceAdd, Int.reduceSub, Int.reduceToNat, if_true, if_false, cond_true, cond_false, decide_true, decide_false, Bool.and_true, Bool.true_and, Bool.and_false, Bool.false_and, Bool.or_true, Bool.true_or, Bool.or_false, Bool.false_or, Bool.not_true, Bool.not_false, Bool.false_eq_true, Option.some.injEq, and_true, true_and, and_self, t_non, t_bl, t_int, t_str, t_lst, t_tup, t_dct, isiB, tyNs, List.contains_cons, List.contains_nil, String.reduceBEq, Bool.or_self, Bool.and_self, beq_self_eq_true, nc0, nc1, nc2, nc3, nc4, nc5, nc6, nc7, nc8, nc9, nc10, nc11, nc12, e_at0, e_at1, e_at2, e_at3, e_at4, e_at5, e_at6, e_at7, e_at8, e_at9, e_at10, e_at11, e_atm1, e_atm2, e_atm3, e_atm4, e_atm5]]
    simp only [e_ok, e_ex, e_bad, e_sok, e_sex, e_sbad, e_var0, e_varS, e_varB0, e_varB1, e_varBS, e_c, e_nil, e_cons, e_op, e_some, e_none, e_cb, e_tup, e_lstF, e_val, e_bOf, e_iOf, e_andT, e_orT, e_notT, e_and, e_or, e_not, e_if, e_chain, e_neg, e_dct0, e_isi2, e_noP, e_pt, e_sl, e_P1, e_slL, e_slT, e_rev, e_call, e_callK, e_lstV, e_new, e_vLst, e_vCat, e_vSl, e_vList, e_vRep, e_lcV, e_compK, e_forK, e_iSq, e_iEn, e_iRg, e_vsqL, e_vsqT, e_iZp, e_catLL, e_catTT, e_aI0, e_aI, e_seqL, e_seqT, e_ixL, e_ixT, e_lenL, e_lenT, e_isi, e_max, e_min, e_tupL, e_tupT, e_intI, e_intB, e_listL, e_listT, e_all, e_any, e_sum, e_all, e_eqII, e_eqSS, e_next, e_seq, e_snx, e_srt, e_sbk, e_sct, e_sxx, e_sbd, e_drop, e_ret, e_retN, e_qif, e_break, e_cont, e_asg, e_asgT, e_ownV, e_app, e_par, e_raise, e_for, e_try, e_txx, e_tnx, e_trt, e_hrt, e_body, e_fnx, e_frt, e_fex, e_start0, e_startS, e_rep0, e_repS, List.append_nil, List.nil_append, List.set_cons_zero, List.set_cons_succ, List.length_cons, List.length_nil, List.length_map, List.length_range, Nat.reduceAdd, Nat.reduceLeDiff, Nat.reduceLT, Int.reduceLT, Int.reduceEq, Int.reduceLE, Int.reducePow, Int.reduceNeg, Int.reduceMul, Int.reduceAdd, Int.reduceSub, Int.reduceToNat, if_true, if_false, cond_true, cond_false, decide_true, decide_false, Bool.and_true, Bool.true_and, Bool.and_false, Bool.false_and, Bool.or_true, Bool.true_or, Bool.or_false, Bool.false_or, Bool.not_true, Bool.not_false, Bool.false_eq_true, Option.some.injEq, and_true, true_and, and_self, t_non, t_bl, t_int, t_str, t_lst, t_tup, t_dct, isiB, tyNs, List.contains_cons, List.contains_nil, String.reduceBEq, Bool.or_self, Bool.and_self, beq_self_eq_true, nc0, nc1, nc2, nc3, nc4, nc5, nc6, nc7, nc8, nc9, nc10, nc11, nc12, e_at0, e_at1, e_at2, e_at3, e_at4, e_at5, e_at6, e_at7, e_at8, e_at9, e_at10, e_at11, e_atm1, e_atm2, e_atm3, e_atm4, e_atm5]
    rw [made01 (zl _) (zipB01 _ (fun x y hx hy => by split <;> assumption) _ _ a01 c01), val_and _ _ _ a0 c0 a1 c1]
    simp only [e_ok, e_ex, e_bad, e_sok, e_sex, e_sbad, e_var0, e_varS, e_varB0, e_varB1, e_varBS, e_c, e_nil, e_cons, e_op, e_some, e_none, e_cb, e_tup, e_lstF, e_val, e_bOf, e_iOf, e_andT, e_orT, e_notT, e_and, e_or, e_not, e_if, e_chain, e_neg, e_dct0, e_isi2, e_noP, e_pt, e_sl, e_P1, e_slL, e_slT, e_rev, e_call, e_callK, e_lstV, e_new, e_vLst, e_vCat, e_vSl, e_vList, e_vRep, e_lcV, e_compK, e_forK, e_iSq, e_iEn, e_iRg, e_vsqL, e_vsqT, e_iZp, e_catLL, e_catTT, e_aI0, e_aI, e_seqL, e_seqT, e_ixL, e_ixT, e_lenL, e_lenT, e_isi, e_max, e_min, e_tupL, e_tupT, e_intI, e_intB, e_listL, e_listT, e_all, e_any, e_sum, e_all, e_eqII, e_eqSS, e_next, e_seq, e_snx, e_srt, e_sbk, e_sct, e_sxx, e_sbd, e_drop, e_ret, e_retN, e_qif, e_break, e_cont, e_asg, e_asgT, e_ownV, e_app, e_par, e_raise, e_for, e_try, e_txx, e_tnx, e_trt, e_hrt, e_body, e_fnx, e_frt, e_fex, e_start0, e_startS, e_rep0, e_repS, List.append_nil, List.nil_append, List.set_cons_zero, List.set_cons_succ, List.length_cons, List.length_nil, List.length_map, List.length_range, Nat.reduceAdd, Nat.reduceLeDiff, Nat.reduceLT, Int.reduceLT, Int.reduceEq, Int.reduceLE, Int.reducePow, Int.reduceNeg, Int.reduceMul, Int.reduceAdd, Int.reduceSub, Int.reduceToNat, if_true, if_false, cond_true, cond_false, decide_true, decide_false, Bool.and_true, Bool.true_and, Bool.and_false, Bool.false_and, Bool.or_true, Bool.true_or, Bool.or_false, Bool.false_or, Bool.not_true, Bool.not_false, Bool.false_eq_true, Option.some.injEq, and_true, true_and, and_self, t_non, t_bl, t_int, t_str, t_lst, t_tup, t_dct, isiB, tyNs, List.contains_cons, List.contains_nil, String.reduceBEq, Bool.or_self, Bool.and_self, beq_self_eq_true, nc0, nc1, nc2, nc3, nc4, nc5, nc6, nc7, nc8, nc9, nc10, nc11, nc12, e_at0, e_at1, e_at2, e_at3, e_at4, e_at5, e_at6, e_at7, e_at8, e_at9, e_at10, e_at11, e_atm1, e_atm2, e_atm3, e_atm4, e_atm5]
  · simp (config := { decide := true }) only [e_ok, e_ex, e_bad, e_sok, e_sex, e_sbad, e_var0, e_varS, e_varB0, e_varB1, e_varBS, e_c, e_nil, e_cons, e_op, e_some, e_none, e_cb, e_tup, e_lstF, e_val, e_bOf, e_iOf, e_andT, e_orT, e_notT, e_and, e_or, e_not, e_if, e_chain, e_neg, e_dct0, e_isi2, e_noP, e_pt, e_sl, e_P1, e_slL, e_slT, e_rev, e_call, e_callK, e_lstV, e_new, e_vLst, e_vCat, e_vSl, e_vList, e_vRep, e_lcV, e_compK, e_forK, e_iSq, e_iEn, e_iRg, e_vsqL, e_vsqT, e_iZp, e_catLL, e_catTT, e_aI0, e_aI, e_seqL, e_seqT, e_ixL, e_ixT, e_lenL, e_lenT, e_isi, e_max, e_min, e_tupL, e_tupT, e_intI, e_intB, e_listL, e_listT, e_all, e_any, e_sum, e_all, e_eqII, e_eqSS, e_next, e_seq, e_snx, e_srt, e_sbk, e_sct, e_sxx, e_sbd, e_drop, e_ret, e_retN, e_qif, e_break, e_cont, e_asg, e_asgT, e_ownV, e_app, e_par, e_raise, e_for, e_try, e_txx, e_tnx, e_trt, e_hrt, e_body, e_fnx, e_frt, e_fex, e_start0, e_startS, e_rep0, e_repS, List.append_nil, List.nil_append, List.set_cons_zero, List.set_cons_succ, List.length_cons, List.length_nil, List.length_map, List.length_range, Nat.reduceAdd, Nat.reduceLeDiff, Nat.reduceLT, Int.reduceLT, Int.reduceEq, Int.reduceLE, Int.reducePow, Int.reduceNeg, Int.reduceMul, Int.reduceAdd, Int.reduceSub, Int.reduceToNat, if_true, if_false, cond_true, cond_false, decide_true, decide_false, Bool.and_true, Bool.true_and, Bool.and_false, Bool.false_and, Bool.or_true, Bool.true_or, Bool.or_false, Bool.false_or, Bool.not_true, Bool.not_false, Bool.false_eq_true, Option.some.injEq, and_true, true_and, and_self, t_non, t_bl, t_int, t_str, t_lst, t_tup, t_dct, isiB, tyNs, List.contains_cons, List.contains_nil, String.reduceBEq, Bool.or_self, Bool.and_self, beq_self_eq_true, nc0, nc1, nc2, nc3, nc4, nc5, nc6, nc7, nc8, nc9, nc10, nc11, nc12, e_at0, e_at1, e_at2, e_at3, e_at4, e_at5, e_at6, e_at7, e_at8, e_at9, e_at10, e_at11, e_atm1, e_atm2, e_atm3, e_atm4, e_atm5, e_condB, e_condS, e_condQ, e_condF, e_condT, e_condO, e_cc, e_condBl, e_condAA, c_F, c_T, c_nF, c_nT, fb, hz, wipeA]
    rw [f_zips (fun x y => if x < y then y else x) fun x y => by simp only [e_ok, e_ex, e_bad, e_sok, e_sex, e_sbad, e_var0, e_varS, e_varB0, e_varB1, e_varBS, e_c, e_nil, e_cons, e_op, e_some, e_none, e_cb, e_tup, e_lstF, e_val, e_bOf, e_iOf, e_andT, e_orT, e_notT, e_and, e_or, e_not, e_if, e_chain, e_neg, e_dct0, e_isi2, e_noP, e_pt, e_sl, e_P1, e_slL, e_slT, e_rev, e_call, e_callK, e_lstV, e_new, e_vLst, e_vCat, e_vSl, e_vList, e_vRep, e_lcV, e_compK, e_forK, e_iSq, e_iEn, e_iRg, e_vsqL, e_vsqT, e_iZp, e_catLL, e_catTT, e_aI0, e_aI, e_seqL, e_seqT, e_ixL, e_ixT, e_lenL, e_lenT, e_isi, e_max, e_min, e_tupL, e_tupT, e_intI, e_intB, e_listL, e_listT, e_all, e_any, e_sum, e_all, e_eqII, e_eqSS, e_next, e_seq, e_snx, e_srt, e_sbk, e_sct, e_sxx, e_sbd, e_drop, e_ret, e_retN, e_qif, e_break, e_cont, e_asg, e_asgT, e_ownV, e_app, e_par, e_raise, e_for, e_try, e_txx, e_tnx, e_trt, e_hrt, e_body, e_fnx, e_frt, e_fex, e_start0, e_startS, e_rep0, e_repS, List.append_nil, List.nil_append, List.set_cons_zero, List.set_cons_succ, List.length_cons, List.length_nil, List.length_map, List.length_range, Nat.reduceAdd, Nat.reduceLeDiff, Nat.reduceLT, Int.reduceLT, Int.reduceEq, Int.reduceLE, Int.reducePow, Int.reduceNeg, Int.reduceMul, Int.reduceAdd, Int.reduceSub, Int.reduceToNat, if_true, if_false, cond_true, cond_false, decide_true, decide_false, Bool.and_true, Bool.true_and, Bool.and_false, Bool.false_and, Bool.or_true, Bool.true_or, Bool.or_false, Bool.false_or, Bool.not_true, Bool.not_false, Bool.false_eq_true, Option.some.injEq, and_true, true_and, and_self, t_non, t_bl, t_int, t_str, t_lst, t_tup, t_dct, isiB, tyNs, List.contains_cons, List.contains_nil, String.reduceBEq, Bool.or_self, Bool.and_self, beq_self_eq_true, nc0, nc1, nc2, nc3, nc4, nc5, nc6, nc7, nc8, nc9, nc10, nc11, nc12, e_at0, e_at1, e_at2, e_at3, e_at4, e_at5, e_at6, e_at7, e_at8, e_at9, e_at10, e_at11, e_atm1, e_atm2, e_atm3, e_atm4, e_atm5]]
    simp only [e_ok, e_ex, e_bad, e_sok, e_sex, e_sbad, e_var0, e_varS, e_varB0, e_varB1, e_varBS, e_c, e_nil, e_cons, e_op, e_some, e_none, e_cb, e_tup, e_lstF, e_val, e_bOf, e_iOf, e_andT, e_orT, e_notT, e_and, e_or, e_not, e_if, e_chain, e_neg, e_dct0, e_isi2, e_noP, e_pt, e_sl, e_P1, e_slL, e_slT, e_rev, e_call, e_callK, e_lstV, e_new, e_vLst, e_vCat, e_vSl, e_vList, e_vRep, e_lcV, e_compK, e_forK, e_iSq, e_iEn, e_iRg, e_vsqL, e_vsqT, e_iZp, e_catLL, e_catTT, e_aI0, e_aI, e_seqL, e_seqT, e_ixL, e_ixT, e_lenL, e_lenT, e_isi, e_max, e_min, e_tupL, e_tupT, e_intI, e_intB, e_listL, e_listT, e_all, e_any, e_sum, e_all, e_eqII, e_eqSS, e_next, e_seq, e_snx, e_srt, e_sbk, e_sct, e_sxx, e_sbd, e_drop, e_ret, e_retN, e_qif, e_break, e_cont, e_asg, e_asgT, e_ownV, e_app, e_par, e_raise, e_for, e_try, e_txx, e_tnx, e_trt, e_hrt, e_body, e_fnx, e_frt, e_fex, e_start0, e_startS, e_rep0, e_repS, List.append_nil, List.nil_append, List.set_cons_zero, List.set_cons_succ, List.length_cons, List.length_nil, List.length_map, List.length_range, Nat.reduceAdd, Nat.reduceLeDiff, Nat.reduceLT, Int.reduceLT, Int.reduceEq, Int.reduceLE, Int.reducePow, Int.reduceNeg, Int.reduceMul, Int.reduceAdd, Int.reduceSub, Int.reduceToNat, if_true, if_false, cond_true, cond_false, decide_true, decide_false, Bool.and_true, Bool.true_and, Bool.and_false, Bool.false_and, Bool.or_true, Bool.true_or, Bool.or_false, Bool.false_or, Bool.not_true, Bool.not_false, Bool.false_eq_true, Option.some.injEq, and_true, true_and, and_self, t_non, t_bl, t_int, t_str, t_lst, t_tup, t_dct, isiB, tyNs, List.contains_cons, List.contains_nil, String.reduceBEq, Bool.or_self, Bool.and_self, beq_self_eq_true, nc0, nc1, nc2, nc3, nc4, nc5, nc6, nc7, nc8, nc9, nc10, nc11, nc12, e_at0, e_at1, e_at2, e_at3, e_at4, e_at5, e_at6, e_at7, e_at8, e_at9, e_at10, e_at11, e_atm1, e_atm2, e_atm3, e_atm4, e_atm5]
    rw [made01 (zl _) (zipB01 _ (fun x y hx hy => by split <;> assumption) _ _ a01 c01), val_or _ _ _ a0 c0 a1 c1]
    simp only [e_ok, e_ex, e_bad, e_sok, e_sex, e_sbad, e_var0, e_varS, e_varB0, e_varB1, e_varBS, e_c, e_nil, e_cons, e_op, e_some, e_none, e_cb, e_tup, e_lstF, e_val, e_bOf, e_iOf, e_andT, e_orT, e_notT, e_and, e_or, e_not, e_if, e_chain, e_neg, e_dct0, e_isi2, e_noP, e_pt, e_sl, e_P1, e_slL, e_slT, e_rev, e_call, e_callK, e_lstV, e_new, e_vLst, e_vCat, e_vSl, e_vList, e_vRep, e_lcV, e_compK, e_forK, e_iSq, e_iEn, e_iRg, e_vsqL, e_vsqT, e_iZp, e_catLL, e_catTT, e_aI0, e_aI, e_seqL, e_seqT, e_ixL, e_ixT, e_lenL, e_lenT, e_isi, e_max, e_min, e_tupL, e_tupT, e_intI, e_intB, e_listL, e_listT, e_all, e_any, e_sum, e_all, e_eqII, e_eqSS, e_next, e_seq, e_snx, e_srt, e_sbk, e_sct, e_sxx, e_sbd, e_drop, e_ret, e_retN, e_qif, e_break, e_cont, e_asg, e_asgT, e_ownV, e_app, e_par, e_raise, e_for, e_try, e_txx, e_tnx, e_trt, e_hrt, e_body, e_fnx, e_frt, e_fex, e_start0, e_startS, e_rep0, e_repS, List.append_nil, List.nil_append, List.set_cons_zero, List.set_cons_succ, List.length_cons, List.length_nil, List.length_map, List.length_range, Nat.reduceAdd, Nat.reduceLeDiff, Nat.reduceLT, Int.reduceLT, Int.reduceEq, Int.reduceLE, Int.reducePow, Int.reduceNeg, Int.reduceMul, Int.reduceAdd, Int.reduceSub, Int.reduceToNat, if_true, if_false, cond_true, cond_false, decide_true, decide_false, Bool.and_true, Bool.true_and, Bool.and_false, Bool.false_and, Bool.or_true, Bool.true_or, Bool.or_false, Bool.false_or, Bool.not_true, Bool.not_false, Bool.false_eq_true, Option.some.injEq, and_true, true_and, and_self, t_non, t_bl, t_int, t_str, t_lst, t_tup, t_dct, isiB, tyNs, List.contains_cons, List.contains_nil, String.reduceBEq, Bool.or_self, Bool.and_self, beq_self_eq_true, nc0, nc1, nc2, nc3, nc4, nc5, nc6, nc7, nc8, nc9, nc10, nc11, nc12, e_at0, e_at1, e_at2, e_at3, e_at4, e_at5, e_at6, e_at7, e_at8, e_at9, e_at10, e_at11, e_atm1, e_atm2, e_atm3, e_atm4, e_atm5]
  · simp (config := { decide := true }) only [e_ok, e_ex, e_bad, e_sok, e_sex, e_sbad, e_var0, e_varS, e_varB0, e_varB1, e_varBS, e_c, e_nil, e_cons, e_op, e_some, e_none, e_cb, e_tup, e_lstF, e_val, e_bOf, e_iOf, e_andT, e_orT, e_notT, e_and, e_or, e_not, e_if, e_chain, e_neg, e_dct0, e_isi2, e_noP, e_pt, e_sl, e_P1, e_slL, e_slT, e_rev, e_call, e_callK, e_lstV, e_new, e_vLst, e_vCat, e_vSl, e_vList, e_vRep, e_lcV, e_compK, e_forK, e_iSq, e_iEn, e_iRg, e_vsqL, e_vsqT, e_iZp, e_catLL, e_catTT, e_aI0, e_aI, e_seqL, e_seqT, e_ixL, e_ixT, e_lenL, e_lenT, e_isi, e_max, e_min, e_tupL, e_tupT, e_intI, e_intB, e_listL, e_listT, e_all, e_any, e_sum, e_all, e_eqII, e_eqSS, e_next, e_seq, e_snx, e_srt, e_sbk, e_sct, e_sxx, e_sbd, e_drop, e_ret, e_retN, e_qif, e_break, e_cont, e_asg, e_asgT, e_ownV, e_app, e_par, e_raise, e_for, e_try, e_txx, e_tnx, e_trt, e_hrt, e_body, e_fnx, e_frt, e_fex, e_start0, e_startS, e_rep0, e_repS, List.append_nil, List.nil_append, List.set_cons_zero, List.set_cons_succ, List.length_cons, List.length_nil, List.length_map, List.length_range, Nat.reduceAdd, Nat.reduceLeDiff, Nat.reduceLT, Int.reduceLT, Int.reduceEq, Int.reduceLE, Int.reducePow, Int.reduceNeg, Int.reduceMul, Int.reduceAdd, Int.reduceSub, Int.reduceToNat, if_true, if_false, cond_true, cond_false, decide_true, decide_false, Bool.and_true, Bool.true_and, Bool.and_false, Bool.false_and, Bool.or_true, Bool.true_or, Bool.or_false, Bool.false_or, Bool.not_true, Bool.not_false, Bool.false_eq_true, Option.some.injEq, and_true, true_and, and_self, t_non, t_bl, t_int, t_str, t_lst, t_tup, t_dct, isiB, tyNs, List.contains_cons, List.contains_nil, String.reduceBEq, Bool.or_self, Bool.and_self, beq_self_eq_true, nc0, nc1, nc2, nc3, nc4, nc5, nc6, nc7, nc8, nc9, nc10, nc11, nc12, e_at0, e_at1, e_at2, e_at3, e_at4, e_at5, e_at6, e_at7, e_at8, e_at9, e_at10, e_at11, e_atm1, e_atm2, e_atm3, e_atm4, e_atm5, e_condB, e_condS, e_condQ, e_condF, e_condT, e_condO, e_cc, e_condBl, e_condAA, c_F, c_T, c_nF, c_nT, fb, hz, wipeA]
    rw [f_zips (fun x y => if x = y then 0 else 1) fun x y => by
      simp only [e_ok, e_ex, e_bad, e_sok, e_sex, e_sbad, e_var0, e_varS, e_varB0, e_varB1, e_varBS, e_c, e_nil, e_cons, e_op, e_some, e_none, e_cb, e_tup, e_lstF, e_val, e_bOf, e_iOf, e_andT, e_orT, e_notT, e_and, e_or, e_not, e_if, e_chain, e_neg, e_dct0, e_isi2, e_noP, e_pt, e_sl, e_P1, e_slL, e_slT, e_rev, e_call, e_callK, e_lstV, e_new, e_vLst, e_vCat, e_vSl, e_vList, e_vRep, e_lcV, e_compK, e_forK, e_iSq, e_iEn, e_iRg, e_vsqL, e_vsqT, e_iZp, e_catLL, e_catTT, e_aI0, e_aI, e_seqL, e_seqT, e_ixL, e_ixT, e_lenL, e_lenT, e_isi, e_max, e_min, e_tupL, e_tupT, e_intI, e_intB, e_listL, e_listT, e_all, e_any, e_sum, e_all, e_eqII, e_eqSS, e_next, e_seq, e_snx, e_srt, e_sbk, e_sct, e_sxx, e_sbd, e_drop, e_ret, e_retN, e_qif, e_break, e_cont, e_asg, e_asgT, e_ownV, e_app, e_par, e_raise, e_for, e_try, e_txx, e_tnx, e_trt, e_hrt, e_body, e_fnx, e_frt, e_fex, e_start0, e_startS, e_rep0, e_repS, List.append_nil, List.nil_append, List.set_cons_zero, List.set_cons_succ, List.length_cons, List.length_nil, List.length_map, List.length_range, Nat.reduceAdd, Nat.reduceLeDiff, Nat.reduceLT, Int.reduceLT, Int.reduceEq, Int.reduceLE, Int.reducePow, Int.reduceNeg, Int.reduceMul, Int.reduceAdd, Int.reduceSub, Int.reduceToNat, if_true, if_false, cond_true, cond_false, decide_true, decide_false, Bool.and_true, Bool.true_and, Bool.and_false, Bool.false_and, Bool.or_true, Bool.true_or, Bool.or_false, Bool.false_or, Bool.not_true, Bool.not_false, Bool.false_eq_true, Option.some.injEq, and_true, true_and, and_self, t_non, t_bl, t_int, t_str, t_lst, t_tup, t_dct, isiB, tyNs, List.contains_cons, List.contains_nil, String.reduceBEq, Bool.or_self, Bool.and_self, beq_self_eq_true, nc0, nc1, nc2, nc3, nc4, nc5, nc6, nc7, nc8, nc9, nc10, nc11, nc12, e_at0, e_at1, e_at2, e_at3, e_at4, e_at5, e_at6, e_at7, e_at8, e_at9, e_at10, e_at11, e_atm1, e_atm2, e_atm3, e_atm4, e_atm5]
      by_cases h : x = y <;> simp [h]]
    simp only [e_ok, e_ex, e_bad, e_sok, e_sex, e_sbad, e_var0, e_varS, e_varB0, e_varB1, e_varBS, e_c, e_nil, e_cons, e_op, e_some, e_none, e_cb, e_tup, e_lstF, e_val, e_bOf, e_iOf, e_andT, e_orT, e_notT, e_and, e_or, e_not, e_if, e_chain, e_neg, e_dct0, e_isi2, e_noP, e_pt, e_sl, e_P1, e_slL, e_slT, e_rev, e_call, e_callK, e_lstV, e_new, e_vLst, e_vCat, e_vSl, e_vList, e_vRep, e_lcV, e_compK, e_forK, e_iSq, e_iEn, e_iRg, e_vsqL, e_vsqT, e_iZp, e_catLL, e_catTT, e_aI0, e_aI, e_seqL, e_seqT, e_ixL, e_ixT, e_lenL, e_lenT, e_isi, e_max, e_min, e_tupL, e_tupT, e_intI, e_intB, e_listL, e_listT, e_all, e_any, e_sum, e_all, e_eqII, e_eqSS, e_next, e_seq, e_snx, e_srt, e_sbk, e_sct, e_sxx, e_sbd, e_drop, e_ret, e_retN, e_qif, e_break, e_cont, e_asg, e_asgT, e_ownV, e_app, e_par, e_raise, e_for, e_try, e_txx, e_tnx, e_trt, e_hrt, e_body, e_fnx, e_frt, e_fex, e_start0, e_startS, e_rep0, e_repS, List.append_nil, List.nil_append, List.set_cons_zero, List.set_cons_succ, List.length_cons, List.length_nil, List.length_map, List.length_range, Nat.reduceAdd, Nat.reduceLeDiff, Nat.reduceLT, Int.reduceLT, Int.reduceEq, Int.reduceLE, Int.reducePow, Int.reduceNeg, Int.reduceMul, Int.reduceAdd, Int.reduceSub, Int.reduceToNat, if_true, if_false, cond_true, cond_false, decide_true, decide_false, Bool.and_true, Bool.true_and, Bool.and_false, Bool.false_and, Bool.or_true, Bool.true_or, Bool.or_false, Bool.false_or, Bool.not_true, Bool.not_false, Bool.false_eq_true, Option.some.injEq, and_true, true_and, and_self, t_non, t_bl, t_int, t_str, t_lst, t_tup, t_dct, isiB, tyNs, List.contains_cons, List.contains_nil, String.reduceBEq, Bool.or_self, Bool.and_self, beq_self_eq_true, nc0, nc1, nc2, nc3, nc4, nc5, nc6, nc7, nc8, nc9, nc10, nc11, nc12, e_at0, e_at1, e_at2, e_at3, e_at4, e_at5, e_at6, e_at7, e_at8, e_at9, e_at10, e_at11, e_atm1, e_atm2, e_atm3, e_atm4, e_atm5]
    rw [made01 (zl _) (zipB01 _ (fun x y hx hy => by split <;> simp) _ _ a01 c01), val_xr _ _ _ a0 c0 a1 c1]
    simp only [e_ok, e_ex, e_bad, e_sok, e_sex, e_sbad, e_var0, e_varS, e_varB0, e_varB1, e_varBS, e_c, e_nil, e_cons, e_op, e_some, e_none, e_cb, e_tup, e_lstF, e_val, e_bOf, e_iOf, e_andT, e_orT, e_notT, e_and, e_or, e_not, e_if, e_chain, e_neg, e_dct0, e_isi2, e_noP, e_pt, e_sl, e_P1, e_slL, e_slT, e_rev, e_call, e_callK, e_lstV, e_new, e_vLst, e_vCat, e_vSl, e_vList, e_vRep, e_lcV, e_compK, e_forK, e_iSq, e_iEn, e_iRg, e_vsqL, e_vsqT, e_iZp, e_catLL, e_catTT, e_aI0, e_aI, e_seqL, e_seqT, e_ixL, e_ixT, e_lenL, e_lenT, e_isi, e_max, e_min, e_tupL, e_tupT, e_intI, e_intB, e_listL, e_listT, e_all, e_any, e_sum, e_all, e_eqII, e_eqSS, e_next, e_seq, e_snx, e_srt, e_sbk, e_sct, e_sxx, e_sbd, e_drop, e_ret, e_retN, e_qif, e_break, e_cont, e_asg, e_asgT, e_ownV, e_app, e_par, e_raise, e_for, e_try, e_txx, e_tnx, e_trt, e_hrt, e_body, e_fnx, e_frt, e_fex, e_start0, e_startS, e_rep0, e_repS, List.append_nil, List.nil_append, List.set_cons_zero, List.set_cons_succ, List.length_cons, List.length_nil, List.length_map, List.length_range, Nat.reduceAdd, Nat.reduceLeDiff, Nat.reduceLT, Int.reduceLT, Int.reduceEq, Int.reduceLE, Int.reducePow, Int.reduceNeg, Int.reduceMul, Int.reduceAdd, Int.reduceSub, Int.reduceToNat, if_true, if_false, cond_true, cond_false, decide_true, decide_false, Bool.and_true, Bool.true_and, Bool.and_false, Bool.false_and, Bool.or_true, Bool.true_or, Bool.or_false, Bool.false_or, Bool.not_true, Bool.not_false, Bool.false_eq_true, Option.some.injEq, and_true, true_and, and_self, t_non, t_bl, t_int, t_str, t_lst, t_tup, t_dct, isiB, tyNs, List.contains_cons, List.contains_nil, String.reduceBEq, Bool.or_self, Bool.and_self, beq_self_eq_true, nc0, nc1, nc2, nc3, nc4, nc5, nc6, nc7, nc8, nc9, nc10, nc11, nc12, e_at0, e_at1, e_at2, e_at3, e_at4, e_at5, e_at6, e_at7, e_at8, e_at9, e_at10, e_at11, e_atm1, e_atm2, e_atm3, e_atm4, e_atm5]
  · simp (config := { decide := true }) only [e_ok, e_ex, e_bad, e_sok, e_sex, e_sbad, e_var0, e_varS, e_varB0, e_varB1, e_varBS, e_c, e_nil, e_cons, e_op, e_some, e_none, e_cb, e_tup, e_lstF, e_val, e_bOf, e_iOf, e_andT, e_orT, e_notT, e_and, e_or, e_not, e_if, e_chain, e_neg, e_dct0, e_isi2, e_noP, e_pt, e_sl, e_P1, e_slL, e_slT, e_rev, e_call, e_callK, e_lstV, e_new, e_vLst, e_vCat, e_vSl, e_vList, e_vRep, e_lcV, e_compK, e_forK, e_iSq, e_iEn, e_iRg, e_vsqL, e_vsqT, e_iZp, e_catLL, e_catTT, e_aI0, e_aI, e_seqL, e_seqT, e_ixL, e_ixT, e_lenL, e_lenT, e_isi, e_max, e_min, e_tupL, e_tupT, e_intI, e_intB, e_listL, e_listT, e_all, e_any, e_sum, e_all, e_eqII, e_eqSS, e_next, e_seq, e_snx, e_srt, e_sbk, e_sct, e_sxx, e_sbd, e_drop, e_ret, e_retN, e_qif, e_break, e_cont, e_asg, e_asgT, e_ownV, e_app, e_par, e_raise, e_for, e_try, e_txx, e_tnx, e_trt, e_hrt, e_body, e_fnx, e_frt, e_fex, e_start0, e_startS, e_rep0, e_repS, List.append_nil, List.nil_append, List.set_cons_zero, List.set_cons_succ, List.length_cons, List.length_nil, List.length_map, List.length_range, Nat.reduceAdd, Nat.reduceLeDiff, Nat.reduceLT, Int.reduceLT, Int.reduceEq, Int.reduceLE, Int.reducePow, Int.reduceNeg, Int.reduceMul, Int.reduceAdd, Int.reduceSub, Int.reduceToNat, if_true, if_false, cond_true, cond_false, decide_true, decide_false, Bool.and_true, Bool.true_and, Bool.and_false, Bool.false_and, Bool.or_true, Bool.true_or, Bool.or_false, Bool.false_or, Bool.not_true, Bool.not_false, Bool.false_eq_true, Option.some.injEq, and_true, true_and, and_self, t_non, t_bl, t_int, t_str, t_lst, t_tup, t_dct, isiB, tyNs, List.contains_cons, List.contains_nil, String.reduceBEq, Bool.or_self, Bool.and_self, beq_self_eq_true, nc0, nc1, nc2, nc3, nc4, nc5, nc6, nc7, nc8, nc9, nc10, nc11, nc12, e_at0, e_at1, e_at2, e_at3, e_at4, e_at5, e_at6, e_at7, e_at8, e_at9, e_at10, e_at11, e_atm1, e_atm2, e_atm3, e_atm4, e_atm5, e_condB, e_condS, e_condQ, e_condF, e_condT, e_condO, e_cc, e_condBl, e_condAA, c_F, c_T, c_nF, c_nT, fb]
    rw [f_carried (by omega) (by omega), val_carried _ _ _ (by rw [la, lc]) a01 c01 (.inl rfl), la, va, vc, Int.add_zero]
    simp only [e_ok, e_ex, e_bad, e_sok, e_sex, e_sbad, e_var0, e_varS, e_varB0, e_varB1, e_varBS, e_c, e_nil, e_cons, e_op, e_some, e_none, e_cb, e_tup, e_lstF, e_val, e_bOf, e_iOf, e_andT, e_orT, e_notT, e_and, e_or, e_not, e_if, e_chain, e_neg, e_dct0, e_isi2, e_noP, e_pt, e_sl, e_P1, e_slL, e_slT, e_rev, e_call, e_callK, e_lstV, e_new, e_vLst, e_vCat, e_vSl, e_vList, e_vRep, e_lcV, e_compK, e_forK, e_iSq, e_iEn, e_iRg, e_vsqL, e_vsqT, e_iZp, e_catLL, e_catTT, e_aI0, e_aI, e_seqL, e_seqT, e_ixL, e_ixT, e_lenL, e_lenT, e_isi, e_max, e_min, e_tupL, e_tupT, e_intI, e_intB, e_listL, e_listT, e_all, e_any, e_sum, e_all, e_eqII, e_eqSS, e_next, e_seq, e_snx, e_srt, e_sbk, e_sct, e_sxx, e_sbd, e_drop, e_ret, e_retN, e_qif, e_break, e_cont, e_asg, e_asgT, e_ownV, e_app, e_par, e_raise, e_for, e_try, e_txx, e_tnx, e_trt, e_hrt, e_body, e_fnx, e_frt, e_fex, e_start0, e_startS, e_rep0, e_repS, List.append_nil, List.nil_append, List.set_cons_zero, List.set_cons_succ, List.length_cons, List.length_nil, List.length_map, List.length_range, Nat.reduceAdd, Nat.reduceLeDiff, Nat.reduceLT, Int.reduceLT, Int.reduceEq, Int.reduceLE, Int.reducePow, Int.reduceNeg, Int.reduceMul, Int.reduceAdd, Int.reduceSub, Int.reduceToNat, if_true, if_false, cond_true, cond_false, decide_true, decide_false, Bool.and_true, Bool.true_and, Bool.and_false, Bool.false_and, Bool.or_true, Bool.true_or, Bool.or_false, Bool.false_or, Bool.not_true, Bool.not_false, Bool.false_eq_true, Option.some.injEq, and_true, true_and, and_self, t_non, t_bl, t_int, t_str, t_lst, t_tup, t_dct, isiB, tyNs, List.contains_cons, List.contains_nil, String.reduceBEq, Bool.or_self, Bool.and_self, beq_self_eq_true, nc0, nc1, nc2, nc3, nc4, nc5, nc6, nc7, nc8, nc9, nc10, nc11, nc12, e_at0, e_at1, e_at2, e_at3, e_at4, e_at5, e_at6, e_at7, e_at8, e_at9, e_at10, e_at11, e_atm1, e_atm2, e_atm3, e_atm4, e_atm5]
  · simp (config := { decide := true }) only [e_ok, e_ex, e_bad, e_sok, e_sex, e_sbad, e_var0, e_varS, e_varB0, e_varB1, e_varBS, e_c, e_nil, e_cons, e_op, e_some, e_none, e_cb, e_tup, e_lstF, e_val, e_bOf, e_iOf, e_andT, e_orT, e_notT, e_and, e_or, e_not, e_if, e_chain, e_neg, e_dct0, e_isi2, e_noP, e_pt, e_sl, e_P1, e_slL, e_slT, e_rev, e_call, e_callK, e_lstV, e_new, e_vLst, e_vCat, e_vSl, e_vList, e_vRep, e_lcV, e_compK, e_forK, e_iSq, e_iEn, e_iRg, e_vsqL, e_vsqT, e_iZp, e_catLL, e_catTT, e_aI0, e_aI, e_seqL, e_seqT, e_ixL, e_ixT, e_lenL, e_lenT, e_isi, e_max, e_min, e_tupL, e_tupT, e_intI, e_intB, e_listL, e_listT, e_all, e_any, e_sum, e_all, e_eqII, e_eqSS, e_next, e_seq, e_snx, e_srt, e_sbk, e_sct, e_sxx, e_sbd, e_drop, e_ret, e_retN, e_qif, e_break, e_cont, e_asg, e_asgT, e_ownV, e_app, e_par, e_raise, e_for, e_try, e_txx, e_tnx, e_trt, e_hrt, e_body, e_fnx, e_frt, e_fex, e_start0, e_startS, e_rep0, e_repS, List.append_nil, List.nil_append, List.set_cons_zero, List.set_cons_succ, List.length_cons, List.length_nil, List.length_map, List.length_range, Nat.reduceAdd, Nat.reduceLeDiff, Nat.reduceLT, Int.reduceLT, Int.reduceEq, Int.reduceLE, Int.reducePow, Int.reduceNeg, Int.reduceMul, Int.reduceAdd, Int.reduceSub, Int.reduceToNat, if_true, if_false, cond_true, cond_false, decide_true, decide_false, Bool.and_true, Bool.true_and, Bool.and_false, Bool.false_and, Bool.or_true, Bool.true_or, Bool.or_false, Bool.false_or, Bool.not_true, Bool.not_false, Bool.false_eq_true, Option.some.injEq, and_true, true_and, and_self, t_non, t_bl, t_int, t_str, t_lst, t_tup, t_dct, isiB, tyNs, List.contains_cons, List.contains_nil, String.reduceBEq, Bool.or_self, Bool.and_self, beq_self_eq_true, nc0, nc1, nc2, nc3, nc4, nc5, nc6, nc7, nc8, nc9, nc10, nc11, nc12, e_at0, e_at1, e_at2, e_at3, e_at4, e_at5, e_at6, e_at7, e_at8, e_at9, e_at10, e_at11, e_atm1, e_atm2, e_atm3, e_atm4, e_atm5, e_condB, e_condS, e_condQ, e_condF, e_condT, e_condO, e_cc, e_condBl, e_condAA, c_F, c_T, c_nF, c_nT, fb, hl, wipeA]
    rw [f_nots fun x => by simp only [e_ok, e_ex, e_bad, e_sok, e_sex, e_sbad, e_var0, e_varS, e_varB0, e_varB1, e_varBS, e_c, e_nil, e_cons, e_op, e_some, e_none, e_cb, e_tup, e_lstF, e_val, e_bOf, e_iOf, e_andT, e_orT, e_notT, e_and, e_or, e_not, e_if, e_chain, e_neg, e_dct0, e_isi2, e_noP, e_pt, e_sl, e_P1, e_slL, e_slT, e_rev, e_call, e_callK, e_lstV, e_new, e_vLst, e_vCat, e_vSl, e_vList, e_vRep, e_lcV, e_compK, e_forK, e_iSq, e_iEn, e_iRg, e_vsqL, e_vsqT, e_iZp, e_catLL, e_catTT, e_aI0, e_aI, e_seqL, e_seqT, e_ixL, e_ixT, e_lenL, e_lenT, e_isi, e_max, e_min, e_tupL, e_tupT, e_intI, e_intB, e_listL, e_listT, e_all, e_any, e_sum, e_all, e_eqII, e_eqSS, e_next, e_seq, e_snx, e_srt, e_sbk, e_sct, e_sxx, e_sbd, e_drop, e_ret, e_retN, e_qif, e_break, e_cont, e_asg, e_asgT, e_ownV, e_app, e_par, e_raise, e_for, e_try, e_txx, e_tnx, e_trt, e_hrt, e_body, e_fnx, e_frt, e_fex, e_start0, e_startS, e_rep0, e_repS, List.append_nil, List.nil_append, List.set_cons_zero, List.set_cons_succ, List.length_cons, List.length_nil, List.length_map, List.length_range, Nat.reduceAdd, Nat.reduceLeDiff, Nat.reduceLT, Int.reduceLT, Int.reduceEq, Int.reduceLE, Int.reducePow, Int.reduceNeg, Int.reduceMul, Int.reduceAdd, Int.reduceSub, Int.reduceToNat, if_true, if_false, cond_true, cond_false, decide_true, decide_false, Bool.and_true, Bool.true_and, Bool.and_false, Bool.false_and, Bool.or_true, Bool.true_or, Bool.or_false, Bool.false_or, Bool.not_true, Bool.not_false, Bool.false_eq_true, Option.some.injEq, and_true, true_and, and_self, t_non, t_bl, t_int, t_str, t_lst, t_tup, t_dct, isiB, tyNs, List.contains_cons, List.contains_nil, String.reduceBEq, Bool.or_self, Bool.and_self, beq_self_eq_true, nc0, nc1, nc2, nc3, nc4, nc5, nc6, nc7, nc8, nc9, nc10, nc11, nc12, e_at0, e_at1, e_at2, e_at3, e_at4, e_at5, e_at6, e_at7, e_at8, e_at9, e_at10, e_at11, e_atm1, e_atm2, e_atm3, e_atm4, e_atm5]]
    simp (config := { decide := true }) only [e_ok, e_ex, e_bad, e_sok, e_sex, e_sbad, e_var0, e_varS, e_varB0, e_varB1, e_varBS, e_c, e_nil, e_cons, e_op, e_some, e_none, e_cb, e_tup, e_lstF, e_val, e_bOf, e_iOf, e_andT, e_orT, e_notT, e_and, e_or, e_not, e_if, e_chain, e_neg, e_dct0, e_isi2, e_noP, e_pt, e_sl, e_P1, e_slL, e_slT, e_rev, e_call, e_callK, e_lstV, e_new, e_vLst, e_vCat, e_vSl, e_vList, e_vRep, e_lcV, e_compK, e_forK, e_iSq, e_iEn, e_iRg, e_vsqL, e_vsqT, e_iZp, e_catLL, e_catTT, e_aI0, e_aI, e_seqL, e_seqT, e_ixL, e_ixT, e_lenL, e_lenT, e_isi, e_max, e_min, e_tupL, e_tupT, e_intI, e_intB, e_listL, e_listT, e_all, e_any, e_sum, e_all, e_eqII, e_eqSS, e_next, e_seq, e_snx, e_srt, e_sbk, e_sct, e_sxx, e_sbd, e_drop, e_ret, e_retN, e_qif, e_break, e_cont, e_asg, e_asgT, e_ownV, e_app, e_par, e_raise, e_for, e_try, e_txx, e_tnx, e_trt, e_hrt, e_body, e_fnx, e_frt, e_fex, e_start0, e_startS, e_rep0, e_repS, List.append_nil, List.nil_append, List.set_cons_zero, List.set_cons_succ, List.length_cons, List.length_nil, List.length_map, List.length_range, Nat.reduceAdd, Nat.reduceLeDiff, Nat.reduceLT, Int.reduceLT, Int.reduceEq, Int.reduceLE, Int.reducePow, Int.reduceNeg, Int.reduceMul, Int.reduceAdd, Int.reduceSub, Int.reduceToNat, if_true, if_false, cond_true, cond_false, decide_true, decide_false, Bool.and_true, Bool.true_and, Bool.and_false, Bool.false_and, Bool.or_true, Bool.true_or, Bool.or_false, Bool.false_or, Bool.not_true, Bool.not_false, Bool.false_eq_true, Option.some.injEq, and_true, true_and, and_self, t_non, t_bl, t_int, t_str, t_lst, t_tup, t_dct, isiB, tyNs, List.contains_cons, List.contains_nil, String.reduceBEq, Bool.or_self, Bool.and_self, beq_self_eq_true, nc0, nc1, nc2, nc3, nc4, nc5, nc6, nc7, nc8, nc9, nc10, nc11, nc12, e_at0, e_at1, e_at2, e_at3, e_at4, e_at5, e_at6, e_at7, e_at8, e_at9, e_at10, e_at11, e_atm1, e_atm2, e_atm3, e_atm4, e_atm5, e_condB, e_condS, e_condQ, e_condF, e_condT, e_condO, e_cc, e_condBl, e_condAA, c_F, c_T, c_nF, c_nT, made01 (bs := (bitsI n.toNat c).map fun x => 1 - x) (by rw [List.length_map]; omega) (nots01 c01), val_not, lc, vc]
    have e2 : (2 ^ n.toNat - 1 - c) % 2 ^ n.toNat = 2 ^ n.toNat - 1 - c := Int.emod_eq_of_lt (by omega) (by omega)
    have e3 : a + (2 ^ n.toNat - 1 - c) + 1 = a - c + 2 ^ n.toNat := by omega
    rw [f_carried (by omega) (by omega), val_carried _ _ _ (by rw [la, bitsI_length]) a01 (bits01 _ _) (.inr rfl), la, va, val_bits _ _ (by omega) (by omega), e3, Int.add_emod_right]
    simp only [e_ok, e_ex, e_bad, e_sok, e_sex, e_sbad, e_var0, e_varS, e_varB0, e_varB1, e_varBS, e_c, e_nil, e_cons, e_op, e_some, e_none, e_cb, e_tup, e_lstF, e_val, e_bOf, e_iOf, e_andT, e_orT, e_notT, e_and, e_or, e_not, e_if, e_chain, e_neg, e_dct0, e_isi2, e_noP, e_pt, e_sl, e_P1, e_slL, e_slT, e_rev, e_call, e_callK, e_lstV, e_new, e_vLst, e_vCat, e_vSl, e_vList, e_vRep, e_lcV, e_compK, e_forK, e_iSq, e_iEn, e_iRg, e_vsqL, e_vsqT, e_iZp, e_catLL, e_catTT, e_aI0, e_aI, e_seqL, e_seqT, e_ixL, e_ixT, e_lenL, e_lenT, e_isi, e_max, e_min, e_tupL, e_tupT, e_intI, e_intB, e_listL, e_listT, e_all, e_any, e_sum, e_all, e_eqII, e_eqSS, e_next, e_seq, e_snx, e_srt, e_sbk, e_sct, e_sxx, e_sbd, e_drop, e_ret, e_retN, e_qif, e_break, e_cont, e_asg, e_asgT, e_ownV, e_app, e_par, e_raise, e_for, e_try, e_txx, e_tnx, e_trt, e_hrt, e_body, e_fnx, e_frt, e_fex, e_start0, e_startS, e_rep0, e_repS, List.append_nil, List.nil_append, List.set_cons_zero, List.set_cons_succ, List.length_cons, List.length_nil, List.length_map, List.length_range, Nat.reduceAdd, Nat.reduceLeDiff, Nat.reduceLT, Int.reduceLT, Int.reduceEq, Int.reduceLE, Int.reducePow, Int.reduceNeg, Int.reduceMul, Int.reduceAdd, Int.reduceSub, Int.reduceToNat, if_true, if_false, cond_true, cond_false, decide_true, decide_false, Bool.and_true, Bool.true_and, Bool.and_false, Bool.false_and, Bool.or_true, Bool.true_or, Bool.or_false, Bool.false_or, Bool.not_true, Bool.not_false, Bool.false_eq_true, Option.some.injEq, and_true, true_and, and_self, t_non, t_bl, t_int, t_str, t_lst, t_tup, t_dct, isiB, tyNs, List.contains_cons, List.contains_nil, String.reduceBEq, Bool.or_self, Bool.and_self, beq_self_eq_true, nc0, nc1, nc2, nc3, nc4, nc5, nc6, nc7, nc8, nc9, nc10, nc11, nc12, e_at0, e_at1, e_at2, e_at3, e_at4, e_at5, e_at6, e_at7, e_at8, e_at9, e_at10, e_at11, e_atm1, e_atm2, e_atm3, e_atm4, e_atm5]
  · have lx := lex_bits _ _ (la.trans lc.symm) a01 c01
    rw [va, vc] at lx
    simp (config := { decide := true }) only [e_ok, e_ex, e_bad, e_sok, e_sex, e_sbad, e_var0, e_varS, e_varB0, e_varB1, e_varBS, e_c, e_nil, e_cons, e_op, e_some, e_none, e_cb, e_tup, e_lstF, e_val, e_bOf, e_iOf, e_andT, e_orT, e_notT, e_and, e_or, e_not, e_if, e_chain, e_neg, e_dct0, e_isi2, e_noP, e_pt, e_sl, e_P1, e_slL, e_slT, e_rev, e_call, e_callK, e_lstV, e_new, e_vLst, e_vCat, e_vSl, e_vList, e_vRep, e_lcV, e_compK, e_forK, e_iSq, e_iEn, e_iRg, e_vsqL, e_vsqT, e_iZp, e_catLL, e_catTT, e_aI0, e_aI, e_seqL, e_seqT, e_ixL, e_ixT, e_lenL, e_lenT, e_isi, e_max, e_min, e_tupL, e_tupT, e_intI, e_intB, e_listL, e_listT, e_all, e_any, e_sum, e_all, e_eqII, e_eqSS, e_next, e_seq, e_snx, e_srt, e_sbk, e_sct, e_sxx, e_sbd, e_drop, e_ret, e_retN, e_qif, e_break, e_cont, e_asg, e_asgT, e_ownV, e_app, e_par, e_raise, e_for, e_try, e_txx, e_tnx, e_trt, e_hrt, e_body, e_fnx, e_frt, e_fex, e_start0, e_startS, e_rep0, e_repS, List.append_nil, List.nil_append, List.set_cons_zero, List.set_cons_succ, List.length_cons, List.length_nil, List.length_map, List.length_range, Nat.reduceAdd, Nat.reduceLeDiff, Nat.reduceLT, Int.reduceLT, Int.reduceEq, Int.reduceLE, Int.reducePow, Int.reduceNeg, Int.reduceMul, Int.reduceAdd, Int.reduceSub, Int.reduceToNat, if_true, if_false, cond_true, cond_false, decide_true, decide_false, Bool.and_true, Bool.true_and, Bool.and_false, Bool.false_and, Bool.or_true, Bool.true_or, Bool.or_false, Bool.false_or, Bool.not_true, Bool.not_false, Bool.false_eq_true, Option.some.injEq, and_true, true_and, and_self, t_non, t_bl, t_int, t_str, t_lst, t_tup, t_dct, isiB, tyNs, List.contains_cons, List.contains_nil, String.reduceBEq, Bool.or_self, Bool.and_self, beq_self_eq_true, nc0, nc1, nc2, nc3, nc4, nc5, nc6, nc7, nc8, nc9, nc10, nc11, nc12, e_at0, e_at1, e_at2, e_at3, e_at4, e_at5, e_at6, e_at7, e_at8, e_at9, e_at10, e_at11, e_atm1, e_atm2, e_atm3, e_atm4, e_atm5, e_condB, e_condS, e_condQ, e_condF, e_condT, e_condO, e_cc, e_condBl, e_condAA, c_F, c_T, c_nF, c_nT, fb, e_rev, ← List.map_reverse, e_ltL (show (bitsI n.toNat a).reverse.length = (bitsI n.toNat c).reverse.length by rw [List.length_reverse, List.length_reverse, la, lc]), lx, decide_eq_true_eq]
  · have e : (bitsI n.toNat a = bitsI n.toNat c) = (a = c) := propext ⟨fun h => by rw [← va, ← vc, h], fun h => by rw [h]⟩
    simp (config := { decide := true }) only [e_ok, e_ex, e_bad, e_sok, e_sex, e_sbad, e_var0, e_varS, e_varB0, e_varB1, e_varBS, e_c, e_nil, e_cons, e_op, e_some, e_none, e_cb, e_tup, e_lstF, e_val, e_bOf, e_iOf, e_andT, e_orT, e_notT, e_and, e_or, e_not, e_if, e_chain, e_neg, e_dct0, e_isi2, e_noP, e_pt, e_sl, e_P1, e_slL, e_slT, e_rev, e_call, e_callK, e_lstV, e_new, e_vLst, e_vCat, e_vSl, e_vList, e_vRep, e_lcV, e_compK, e_forK, e_iSq, e_iEn, e_iRg, e_vsqL, e_vsqT, e_iZp, e_catLL, e_catTT, e_aI0, e_aI, e_seqL, e_seqT, e_ixL, e_ixT, e_lenL, e_lenT, e_isi, e_max, e_min, e_tupL, e_tupT, e_intI, e_intB, e_listL, e_listT, e_all, e_any, e_sum, e_all, e_eqII, e_eqSS, e_next, e_seq, e_snx, e_srt, e_sbk, e_sct, e_sxx, e_sbd, e_drop, e_ret, e_retN, e_qif, e_break, e_cont, e_asg, e_asgT, e_ownV, e_app, e_par, e_raise, e_for, e_try, e_txx, e_tnx, e_trt, e_hrt, e_body, e_fnx, e_frt, e_fex, e_start0, e_startS, e_rep0, e_repS, List.append_nil, List.nil_append, List.set_cons_zero, List.set_cons_succ, List.length_cons, List.length_nil, List.length_map, List.length_range, Nat.reduceAdd, Nat.reduceLeDiff, Nat.reduceLT, Int.reduceLT, Int.reduceEq, Int.reduceLE, Int.reducePow, Int.reduceNeg, Int.reduceMul, Int.reduceAdd, Int.reduceSub, Int.reduceToNat, if_true, if_false, cond_true, cond_false, decide_true, decide_false, Bool.and_true, Bool.true_and, Bool.and_false, Bool.false_and, Bool.or_true, Bool.true_or, Bool.or_false, Bool.false_or, Bool.not_true, Bool.not_false, Bool.false_eq_true, Option.some.injEq, and_true, true_and, and_self, t_non, t_bl, t_int, t_str, t_lst, t_tup, t_dct, isiB, tyNs, List.contains_cons, List.contains_nil, String.reduceBEq, Bool.or_self, Bool.and_self, beq_self_eq_true, nc0, nc1, nc2, nc3, nc4, nc5, nc6, nc7, nc8, nc9, nc10, nc11, nc12, e_at0, e_at1, e_at2, e_at3, e_at4, e_at5, e_at6, e_at7, e_at8, e_at9, e_at10, e_at11, e_atm1, e_atm2, e_atm3, e_atm4, e_atm5, e_condB, e_condS, e_condQ, e_condF, e_condT, e_condO, e_cc, e_condBl, e_condAA, c_F, c_T, c_nF, c_nT, fb, e_eqL, e, decide_eq_true_eq]
end L03
set_option maxHeartbeats 400001
namespace L03
open PySem PySem.Spec
open PyProof.Rows L2 DL FL
variable {m : AM}
def wordsV : List V := [.str "not", .str "and", .str "or", .str "xor", .str "add", .str "sub", .str "less", .str "same", .str "wide", .str "bit"]
def singleV : List V := [.str "not", .str "wide", .str "bit"]
theorem in_words {neg : Bool} {w : Str} : aIn neg (.str w) (.tup a_WORDS) m = some (.bl (if neg then !inV (.str w) wordsV else inV (.str w) wordsV), m) := (Eq.refl _).trans rfl
theorem in_single {neg : Bool} {w : Str} : aIn neg (.str w) (.tup a_SINGLE) m = some (.bl (if neg then !inV (.str w) singleV else inV (.str w) singleV), m) := (Eq.refl _).trans rfl
theorem f_single {w : Str} {n a r : Int} {to at_ : A} (h1 : 1 ≤ n) (h8 : n ≤ 8)
    (hw : (w = "not" ∧ r = 2 ^ n.toNat - 1 - a) ∨ (w = "wide" ∧ ∃ t : Int, to = .int t ∧ 1 ≤ t ∧ t ≤ 8 ∧ r = a % 2 ^ t.toNat) ∨ (w = "bit" ∧ ∃ t : Int, at_ = .int t ∧ 0 ≤ t ∧ r = a / 2 ^ t.toNat % 2)) : p_reckoned_single [.str w, .int n, .int a, to, at_] m = .ok (.int r) m := by
  unfold p_reckoned_single q_reckoned_single
  rcases hw with ⟨rfl, rfl⟩ | ⟨rfl, t, rfl, t1, t8, rfl⟩ | ⟨rfl, t, rfl, t0, rfl⟩
  · simp (config := { decide := true }) only [e_ok, e_ex, e_bad, e_sok, e_sex, e_sbad, e_var0, e_varS, e_varB0, e_varB1, e_varBS, e_c, e_nil, e_cons, e_op, e_some, e_none, e_cb, e_tup, e_lstF, e_val, e_bOf, e_iOf, e_andT, e_orT, e_notT, e_and, e_or, e_not, e_if, e_chain, e_neg, e_dct0, e_isi2, e_noP, e_pt, e_sl, e_P1, e_slL, e_slT, e_rev, e_call, e_callK, e_lstV, e_new, e_vLst, e_vCat, e_vSl, e_vList, e_vRep, e_lcV, e_compK, e_forK, e_iSq, e_iEn, e_iRg, e_vsqL, e_vsqT, e_iZp, e_catLL, e_catTT, e_aI0, e_aI, e_seqL, e_seqT, e_ixL, e_ixT, e_lenL, e_lenT, e_isi, e_max, e_min, e_tupL, e_tupT, e_intI, e_intB, e_listL, e_listT, e_all, e_any, e_sum, e_all, e_eqII, e_eqSS, e_next, e_seq, e_snx, e_srt, e_sbk, e_sct, e_sxx, e_sbd, e_drop, e_ret, e_retN, e_qif, e_break, e_cont, e_asg, e_asgT, e_ownV, e_app, e_par, e_raise, e_for, e_try, e_txx, e_tnx, e_trt, e_hrt, e_body, e_fnx, e_frt, e_fex, e_start0, e_startS, e_rep0, e_repS, List.append_nil, List.nil_append, List.set_cons_zero, List.set_cons_succ, List.length_cons, List.length_nil, List.length_map, List.length_range, Nat.reduceAdd, Nat.reduceLeDiff, Nat.reduceLT, Int.reduceLT, Int.reduceEq, Int.reduceLE, Int.reducePow, Int.reduceNeg, Int.reduceMul, Int.reduceAdd, Int.reduceSub, Int.reduceToNat, if_true, if_false, cond_true, cond_false, decide_true, decide_false, Bool.and_true, Bool.true_and, Bool.and_false, Bool.false_and, Bool.or_true, Bool.true_or, Bool.or_false, Bool.false_or, Bool.not_true, Bool.not_false, Bool.false_eq_true, Option.some.injEq, and_true, true_and, and_self, t_non, t_bl, t_int, t_str, t_lst, t_tup, t_dct, isiB, tyNs, List.contains_cons, List.contains_nil, String.reduceBEq, Bool.or_self, Bool.and_self, beq_self_eq_true, nc0, nc1, nc2, nc3, nc4, nc5, nc6, nc7, nc8, nc9, nc10, nc11, nc12, e_at0, e_at1, e_at2, e_at3, e_at4, e_at5, e_at6, e_at7, e_at8, e_at9, e_at10, e_at11, e_atm1, e_atm2, e_atm3, e_atm4, e_atm5, e_condB, e_condS, e_condQ, e_condF, e_condT, e_condO, e_cc, e_condBl, e_condAA, c_F, c_T, c_nF, c_nT, cp (i := 1) (j := n) (by omega) (by omega) (by decide), Int.one_mul]
  · simp (config := { decide := true }) only [e_ok, e_ex, e_bad, e_sok, e_sex, e_sbad, e_var0, e_varS, e_varB0, e_varB1, e_varBS, e_c, e_nil, e_cons, e_op, e_some, e_none, e_cb, e_tup, e_lstF, e_val, e_bOf, e_iOf, e_andT, e_orT, e_notT, e_and, e_or, e_not, e_if, e_chain, e_neg, e_dct0, e_isi2, e_noP, e_pt, e_sl, e_P1, e_slL, e_slT, e_rev, e_call, e_callK, e_lstV, e_new, e_vLst, e_vCat, e_vSl, e_vList, e_vRep, e_lcV, e_compK, e_forK, e_iSq, e_iEn, e_iRg, e_vsqL, e_vsqT, e_iZp, e_catLL, e_catTT, e_aI0, e_aI, e_seqL, e_seqT, e_ixL, e_ixT, e_lenL, e_lenT, e_isi, e_max, e_min, e_tupL, e_tupT, e_intI, e_intB, e_listL, e_listT, e_all, e_any, e_sum, e_all, e_eqII, e_eqSS, e_next, e_seq, e_snx, e_srt, e_sbk, e_sct, e_sxx, e_sbd, e_drop, e_ret, e_retN, e_qif, e_break, e_cont, e_asg, e_asgT, e_ownV, e_app, e_par, e_raise, e_for, e_try, e_txx, e_tnx, e_trt, e_hrt, e_body, e_fnx, e_frt, e_fex, e_start0, e_startS, e_rep0, e_repS, List.append_nil, List.nil_append, List.set_cons_zero, List.set_cons_succ, List.length_cons, List.length_nil, List.length_map, List.length_range, Nat.reduceAdd, Nat.reduceLeDiff, Nat.reduceLT, Int.reduceLT, Int.reduceEq, Int.reduceLE, Int.reducePow, Int.reduceNeg, Int.reduceMul, Int.reduceAdd, Int.reduceSub, Int.reduceToNat, if_true, if_false, cond_true, cond_false, decide_true, decide_false, Bool.and_true, Bool.true_and, Bool.and_false, Bool.false_and, Bool.or_true, Bool.true_or, Bool.or_false, Bool.false_or, Bool.not_true, Bool.not_false, Bool.false_eq_true, Option.some.injEq, and_true, true_and, and_self, t_non, t_bl, t_int, t_str, t_lst, t_tup, t_dct, isiB, tyNs, List.contains_cons, List.contains_nil, String.reduceBEq, Bool.or_self, Bool.and_self, beq_self_eq_true, nc0, nc1, nc2, nc3, nc4, nc5, nc6, nc7, nc8, nc9, nc10, nc11, nc12, e_at0, e_at1, e_at2, e_at3, e_at4, e_at5, e_at6, e_at7, e_at8, e_at9, e_at10, e_at11, e_atm1, e_atm2, e_atm3, e_atm4, e_atm5, e_condB, e_condS, e_condQ, e_condF, e_condT, e_condO, e_cc, e_condBl, e_condAA, c_F, c_T, c_nF, c_nT, cp (i := 1) (j := t) (by omega) (by omega) (by decide), Int.one_mul, cmd (i := a) (j := 2 ^ t.toNat) (Int.pow_pos (by decide))]
  · simp (config := { decide := true }) only [e_ok, e_ex, e_bad, e_sok, e_sex, e_sbad, e_var0, e_varS, e_varB0, e_varB1, e_varBS, e_c, e_nil, e_cons, e_op, e_some, e_none, e_cb, e_tup, e_lstF, e_val, e_bOf, e_iOf, e_andT, e_orT, e_notT, e_and, e_or, e_not, e_if, e_chain, e_neg, e_dct0, e_isi2, e_noP, e_pt, e_sl, e_P1, e_slL, e_slT, e_rev, e_call, e_callK, e_lstV, e_new, e_vLst, e_vCat, e_vSl, e_vList, e_vRep, e_lcV, e_compK, e_forK, e_iSq, e_iEn, e_iRg, e_vsqL, e_vsqT, e_iZp, e_catLL, e_catTT, e_aI0, e_aI, e_seqL, e_seqT, e_ixL, e_ixT, e_lenL, e_lenT, e_isi, e_max, e_min, e_tupL, e_tupT, e_intI, e_intB, e_listL, e_listT, e_all, e_any, e_sum, e_all, e_eqII, e_eqSS, e_next, e_seq, e_snx, e_srt, e_sbk, e_sct, e_sxx, e_sbd, e_drop, e_ret, e_retN, e_qif, e_break, e_cont, e_asg, e_asgT, e_ownV, e_app, e_par, e_raise, e_for, e_try, e_txx, e_tnx, e_trt, e_hrt, e_body, e_fnx, e_frt, e_fex, e_start0, e_startS, e_rep0, e_repS, List.append_nil, List.nil_append, List.set_cons_zero, List.set_cons_succ, List.length_cons, List.length_nil, List.length_map, List.length_range, Nat.reduceAdd, Nat.reduceLeDiff, Nat.reduceLT, Int.reduceLT, Int.reduceEq, Int.reduceLE, Int.reducePow, Int.reduceNeg, Int.reduceMul, Int.reduceAdd, Int.reduceSub, Int.reduceToNat, if_true, if_false, cond_true, cond_false, decide_true, decide_false, Bool.and_true, Bool.true_and, Bool.and_false, Bool.false_and, Bool.or_true, Bool.true_or, Bool.or_false, Bool.false_or, Bool.not_true, Bool.not_false, Bool.false_eq_true, Option.some.injEq, and_true, true_and, and_self, t_non, t_bl, t_int, t_str, t_lst, t_tup, t_dct, isiB, tyNs, List.contains_cons, List.contains_nil, String.reduceBEq, Bool.or_self, Bool.and_self, beq_self_eq_true, nc0, nc1, nc2, nc3, nc4, nc5, nc6, nc7, nc8, nc9, nc10, nc11, nc12, e_at0, e_at1, e_at2, e_at3, e_at4, e_at5, e_at6, e_at7, e_at8, e_at9, e_at10, e_at11, e_atm1, e_atm2, e_atm3, e_atm4, e_atm5, e_condB, e_condS, e_condQ, e_condF, e_condT, e_condO, e_cc, e_condBl, e_condAA, c_F, c_T, c_nF, c_nT, csr (i := a) t0, bitAnd1]
theorem f_two {w : Str} {n a b r : Int} (h1 : 1 ≤ n) (h8 : n ≤ 8)
    (hw : (w = "and" ∧ r = Builtin.bitAnd a b) ∨ (w = "or" ∧ r = Builtin.bitOr a b) ∨ (w = "xor" ∧ r = Builtin.bitXor a b) ∨ (w = "add" ∧ r = (a + b) % 2 ^ n.toNat) ∨ (w = "sub" ∧ r = (a - b) % 2 ^ n.toNat) ∨
      (w = "less" ∧ r = if a < b then 1 else 0) ∨ (w = "same" ∧ r = if a = b then 1 else 0)) : p_reckoned_two [.str w, .int n, .int a, .int b] m = .ok (.int r) m := by
  unfold p_reckoned_two q_reckoned_two
  have c1 := cp (i := 1) (j := n) (by omega) (by omega) (by decide)
  have c2 : ∀ i : Int, cMod i (2 ^ n.toNat) = true := fun i => cmd (Int.pow_pos (by decide))
  rcases hw with ⟨rfl, rfl⟩ | ⟨rfl, rfl⟩ | ⟨rfl, rfl⟩ | ⟨rfl, rfl⟩ | ⟨rfl, rfl⟩ | ⟨rfl, rfl⟩ | ⟨rfl, rfl⟩
  · simp (config := { decide := true }) only [e_ok, e_ex, e_bad, e_sok, e_sex, e_sbad, e_var0, e_varS, e_varB0, e_varB1, e_varBS, e_c, e_nil, e_cons, e_op, e_some, e_none, e_cb, e_tup, e_lstF, e_val, e_bOf, e_iOf, e_andT, e_orT, e_notT, e_and, e_or, e_not, e_if, e_chain, e_neg, e_dct0, e_isi2, e_noP, e_pt, e_sl, e_P1, e_slL, e_slT, e_rev, e_call, e_callK, e_lstV, e_new, e_vLst, e_vCat, e_vSl, e_vList, e_vRep, e_lcV, e_compK, e_forK, e_iSq, e_iEn, e_iRg, e_vsqL, e_vsqT, e_iZp, e_catLL, e_catTT, e_aI0, e_aI, e_seqL, e_seqT, e_ixL, e_ixT, e_lenL, e_lenT, e_isi, e_max, e_min, e_tupL, e_tupT, e_intI, e_intB, e_listL, e_listT, e_all, e_any, e_sum, e_all, e_eqII, e_eqSS, e_next, e_seq, e_snx, e_srt, e_sbk, e_sct, e_sxx, e_sbd, e_drop, e_ret, e_retN, e_qif, e_break, e_cont, e_asg, e_asgT, e_ownV, e_app, e_par, e_raise, e_for, e_try, e_txx, e_tnx, e_trt, e_hrt, e_body, e_fnx, e_frt, e_fex, e_start0, e_startS, e_rep0, e_repS, List.append_nil, List.nil_append, List.set_cons_zero, List.set_cons_succ, List.length_cons, List.length_nil, List.length_map, List.length_range, Nat.reduceAdd, Nat.reduceLeDiff, Nat.reduceLT, Int.reduceLT, Int.reduceEq, Int.reduceLE, Int.reducePow, Int.reduceNeg, Int.reduceMul, Int.reduceAdd, Int.reduceSub, Int.reduceToNat, if_true, if_false, cond_true, cond_false, decide_true, decide_false, Bool.and_true, Bool.true_and, Bool.and_false, Bool.false_and, Bool.or_true, Bool.true_or, Bool.or_false, Bool.false_or, Bool.not_true, Bool.not_false, Bool.false_eq_true, Option.some.injEq, and_true, true_and, and_self, t_non, t_bl, t_int, t_str, t_lst, t_tup, t_dct, isiB, tyNs, List.contains_cons, List.contains_nil, String.reduceBEq, Bool.or_self, Bool.and_self, beq_self_eq_true, nc0, nc1, nc2, nc3, nc4, nc5, nc6, nc7, nc8, nc9, nc10, nc11, nc12, e_at0, e_at1, e_at2, e_at3, e_at4, e_at5, e_at6, e_at7, e_at8, e_at9, e_at10, e_at11, e_atm1, e_atm2, e_atm3, e_atm4, e_atm5, e_condB, e_condS, e_condQ, e_condF, e_condT, e_condO, e_cc, e_condBl, e_condAA, c_F, c_T, c_nF, c_nT]
  · simp (config := { decide := true }) only [e_ok, e_ex, e_bad, e_sok, e_sex, e_sbad, e_var0, e_varS, e_varB0, e_varB1, e_varBS, e_c, e_nil, e_cons, e_op, e_some, e_none, e_cb, e_tup, e_lstF, e_val, e_bOf, e_iOf, e_andT, e_orT, e_notT, e_and, e_or, e_not, e_if, e_chain, e_neg, e_dct0, e_isi2, e_noP, e_pt, e_sl, e_P1, e_slL, e_slT, e_rev, e_call, e_callK, e_lstV, e_new, e_vLst, e_vCat, e_vSl, e_vList, e_vRep, e_lcV, e_compK, e_forK, e_iSq, e_iEn, e_iRg, e_vsqL, e_vsqT, e_iZp, e_catLL, e_catTT, e_aI0, e_aI, e_seqL, e_seqT, e_ixL, e_ixT, e_lenL, e_lenT, e_isi, e_max, e_min, e_tupL, e_tupT, e_intI, e_intB, e_listL, e_listT, e_all, e_any, e_sum, e_all, e_eqII, e_eqSS, e_next, e_seq, e_snx, e_srt, e_sbk, e_sct, e_sxx, e_sbd, e_drop, e_ret, e_retN, e_qif, e_break, e_cont, e_asg, e_asgT, e_ownV, e_app, e_par, e_raise, e_for, e_try, e_txx, e_tnx, e_trt, e_hrt, e_body, e_fnx, e_frt, e_fex, e_start0, e_startS, e_rep0, e_repS, List.append_nil, List.nil_append, List.set_cons_zero, List.set_cons_succ, List.length_cons, List.length_nil, List.length_map, List.length_range, Nat.reduceAdd, Nat.reduceLeDiff, Nat.reduceLT, Int.reduceLT, Int.reduceEq, Int.reduceLE, Int.reducePow, Int.reduceNeg, Int.reduceMul, Int.reduceAdd, Int.reduceSub, Int.reduceToNat, if_true, if_false, cond_true, cond_false, decide_true, decide_false, Bool.and_true, Bool.true_and, Bool.and_false, Bool.false_and, Bool.or_true, Bool.true_or, Bool.or_false, Bool.false_or, Bool.not_true, Bool.not_false, Bool.false_eq_true, Option.some.injEq, and_true, true_and, and_self, t_non, t_bl, t_int, t_str, t_lst, t_tup, t_dct, isiB, tyNs, List.contains_cons, List.contains_nil, String.reduceBEq, Bool.or_self, Bool.and_self, beq_self_eq_true, nc0, nc1, nc2, nc3, nc4, nc5, nc6, nc7, nc8, nc9, nc10, nc11, nc12, e_at0, e_at1, e_at2, e_at3, e_at4, e_at5, e_at6, e_at7, e_at8, e_at9, e_at10, e_at11, e_atm1, e_atm2, e_atm3, e_atm4, e_atm5, e_condB, e_condS, e_condQ, e_condF, e_condT, e_condO, e_cc, e_condBl, e_condAA, c_F, c_T, c_nF, c_nT]
  · simp (config := { decide := true }) only [e_ok, e_ex, e_bad, e_sok, e_sex, e_sbad, e_var0, e_varS, e_varB0, e_varB1, e_varBS, e_c, e_nil, e_cons, e_op, e_some, e_none, e_cb, e_tup, e_lstF, e_val, e_bOf, e_iOf, e_andT, e_orT, e_notT, e_and, e_or, e_not, e_if, e_chain, e_neg, e_dct0, e_isi2, e_noP, e_pt, e_sl, e_P1, e_slL, e_slT, e_rev, e_call, e_callK, e_lstV, e_new, e_vLst, e_vCat, e_vSl, e_vList, e_vRep, e_lcV, e_compK, e_forK, e_iSq, e_iEn, e_iRg, e_vsqL, e_vsqT, e_iZp, e_catLL, e_catTT, e_aI0, e_aI, e_seqL, e_seqT, e_ixL, e_ixT, e_lenL, e_lenT, e_isi, e_max, e_min, e_tupL, e_tupT, e_intI, e_intB, e_listL, e_listT, e_all, e_any, e_sum, e_all, e_eqII, e_eqSS, e_next, e_seq, e_snx, e_srt, e_sbk, e_sct, e_sxx, e_sbd, e_drop, e_ret, e_retN, e_qif, e_break, e_cont, e_asg, e_asgT, e_ownV, e_app, e_par, e_raise, e_for, e_try, e_txx, e_tnx, e_trt, e_hrt, e_body, e_fnx, e_frt, e_fex, e_start0, e_startS, e_rep0, e_repS, List.append_nil, List.nil_append, List.set_cons_zero, List.set_cons_succ, List.length_cons, List.length_nil, List.length_map, List.length_range, Nat.reduceAdd, Nat.reduceLeDiff, Nat.reduceLT, Int.reduceLT, Int.reduceEq, Int.reduceLE, Int.reducePow, Int.reduceNeg, Int.reduceMul, Int.reduceAdd, Int.reduceSub, Int.reduceToNat, if_true, if_false, cond_true, cond_false, decide_true, decide_false, Bool.and_true, Bool.true_and, Bool.and_false, Bool.false_and, Bool.or_true, Bool.true_or, Bool.or_false, Bool.false_or, Bool.not_true, Bool.not_false, Bool.false_eq_true, Option.some.injEq, and_true, true_and, and_self, t_non, t_bl, t_int, t_str, t_lst, t_tup, t_dct, isiB, tyNs, List.contains_cons, List.contains_nil, String.reduceBEq, Bool.or_self, Bool.and_self, beq_self_eq_true, nc0, nc1, nc2, nc3, nc4, nc5, nc6, nc7, nc8, nc9, nc10, nc11, nc12, e_at0, e_at1, e_at2, e_at3, e_at4, e_at5, e_at6, e_at7, e_at8, e_at9, e_at10, e_at11, e_atm1, e_atm2, e_atm3, e_atm4, e_atm5, e_condB, e_condS, e_condQ, e_condF, e_condT, e_condO, e_cc, e_condBl, e_condAA, c_F, c_T, c_nF, c_nT]
  · simp (config := { decide := true }) only [e_ok, e_ex, e_bad, e_sok, e_sex, e_sbad, e_var0, e_varS, e_varB0, e_varB1, e_varBS, e_c, e_nil, e_cons, e_op, e_some, e_none, e_cb, e_tup, e_lstF, e_val, e_bOf, e_iOf, e_andT, e_orT, e_notT, e_and, e_or, e_not, e_if, e_chain, e_neg, e_dct0, e_isi2, e_noP, e_pt, e_sl, e_P1, e_slL, e_slT, e_rev, e_call, e_callK, e_lstV, e_new, e_vLst, e_vCat, e_vSl, e_vList, e_vRep, e_lcV, e_compK, e_forK, e_iSq, e_iEn, e_iRg, e_vsqL, e_vsqT, e_iZp, e_catLL, e_catTT, e_aI0, e_aI, e_seqL, e_seqT, e_ixL, e_ixT, e_lenL, e_lenT, e_isi, e_max, e_min, e_tupL, e_tupT, e_intI, e_intB, e_listL, e_listT, e_all, e_any, e_sum, e_all, e_eqII, e_eqSS, e_next, e_seq, e_snx, e_srt, e_sbk, e_sct, e_sxx, e_sbd, e_drop, e_ret, e_retN, e_qif, e_break, e_cont, e_asg, e_asgT, e_ownV, e_app, e_par, e_raise, e_for, e_try, e_txx, e_tnx, e_trt, e_hrt, e_body, e_fnx, e_frt, e_fex, e_start0, e_startS, e_rep0, e_repS, List.append_nil, List.nil_append, List.set_cons_zero, List.set_cons_succ, List.length_cons, List.length_nil, List.length_map, List.length_range, Nat.reduceAdd, Nat.reduceLeDiff, Nat.reduceLT, Int.reduceLT, Int.reduceEq, Int.reduceLE, Int.reducePow, Int.reduceNeg, Int.reduceMul, Int.reduceAdd, Int.reduceSub, Int.reduceToNat, if_true, if_false, cond_true, cond_false, decide_true, decide_false, Bool.and_true, Bool.true_and, Bool.and_false, Bool.false_and, Bool.or_true, Bool.true_or, Bool.or_false, Bool.false_or, Bool.not_true, Bool.not_false, Bool.false_eq_true, Option.some.injEq, and_true, true_and, and_self, t_non, t_bl, t_int, t_str, t_lst, t_tup, t_dct, isiB, tyNs, List.contains_cons, List.contains_nil, String.reduceBEq, Bool.or_self, Bool.and_self, beq_self_eq_true, nc0, nc1, nc2, nc3, nc4, nc5, nc6, nc7, nc8, nc9, nc10, nc11, nc12, e_at0, e_at1, e_at2, e_at3, e_at4, e_at5, e_at6, e_at7, e_at8, e_at9, e_at10, e_at11, e_atm1, e_atm2, e_atm3, e_atm4, e_atm5, e_condB, e_condS, e_condQ, e_condF, e_condT, e_condO, e_cc, e_condBl, e_condAA, c_F, c_T, c_nF, c_nT, c1, Int.one_mul, c2]
  · simp (config := { decide := true }) only [e_ok, e_ex, e_bad, e_sok, e_sex, e_sbad, e_var0, e_varS, e_varB0, e_varB1, e_varBS, e_c, e_nil, e_cons, e_op, e_some, e_none, e_cb, e_tup, e_lstF, e_val, e_bOf, e_iOf, e_andT, e_orT, e_notT, e_and, e_or, e_not, e_if, e_chain, e_neg, e_dct0, e_isi2, e_noP, e_pt, e_sl, e_P1, e_slL, e_slT, e_rev, e_call, e_callK, e_lstV, e_new, e_vLst, e_vCat, e_vSl, e_vList, e_vRep, e_lcV, e_compK, e_forK, e_iSq, e_iEn, e_iRg, e_vsqL, e_vsqT, e_iZp, e_catLL, e_catTT, e_aI0, e_aI, e_seqL, e_seqT, e_ixL, e_ixT, e_lenL, e_lenT, e_isi, e_max, e_min, e_tupL, e_tupT, e_intI, e_intB, e_listL, e_listT, e_all, e_any, e_sum, e_all, e_eqII, e_eqSS, e_next, e_seq, e_snx, e_srt, e_sbk, e_sct, e_sxx, e_sbd, e_drop, e_ret, e_retN, e_qif, e_break, e_cont, e_asg, e_asgT, e_ownV, e_app, e_par, e_raise, e_for, e_try, e_txx, e_tnx, e_trt, e_hrt, e_body, e_fnx, e_frt, e_fex, e_start0, e_startS, e_rep0, e_repS, List.append_nil, List.nil_append, List.set_cons_zero, List.set_cons_succ, List.length_cons, List.length_nil, List.length_map, List.length_range, Nat.reduceAdd, Nat.reduceLeDiff, Nat.reduceLT, Int.reduceLT, Int.reduceEq, Int.reduceLE, Int.reducePow, Int.reduceNeg, Int.reduceMul, Int.reduceAdd, Int.reduceSub, Int.reduceToNat, if_true, if_false, cond_true, cond_false, decide_true, decide_false, Bool.and_true, Bool.true_and, Bool.and_false, Bool.false_and, Bool.or_true, Bool.true_or, Bool.or_false, Bool.false_or, Bool.not_true, Bool.not_false, Bool.false_eq_true, Option.some.injEq, and_true, true_and, and_self, t_non, t_bl, t_int, t_str, t_lst, t_tup, t_dct, isiB, tyNs, List.contains_cons, List.contains_nil, String.reduceBEq, Bool.or_self, Bool.and_self, beq_self_eq_true, nc0, nc1, nc2, nc3, nc4, nc5, nc6, nc7, nc8, nc9, nc10, nc11, nc12, e_at0, e_at1, e_at2, e_at3, e_at4, e_at5, e_at6, e_at7, e_at8, e_at9, e_at10, e_at11, e_atm1, e_atm2, e_atm3, e_atm4, e_atm5, e_condB, e_condS, e_condQ, e_condF, e_condT, e_condO, e_cc, e_condBl, e_condAA, c_F, c_T, c_nF, c_nT, c1, Int.one_mul, c2]
  · simp (config := { decide := true }) only [e_ok, e_ex, e_bad, e_sok, e_sex, e_sbad, e_var0, e_varS, e_varB0, e_varB1, e_varBS, e_c, e_nil, e_cons, e_op, e_some, e_none, e_cb, e_tup, e_lstF, e_val, e_bOf, e_iOf, e_andT, e_orT, e_notT, e_and, e_or, e_not, e_if, e_chain, e_neg, e_dct0, e_isi2, e_noP, e_pt, e_sl, e_P1, e_slL, e_slT, e_rev, e_call, e_callK, e_lstV, e_new, e_vLst, e_vCat, e_vSl, e_vList, e_vRep, e_lcV, e_compK, e_forK, e_iSq, e_iEn, e_iRg, e_vsqL, e_vsqT, e_iZp, e_catLL, e_catTT, e_aI0, e_aI, e_seqL, e_seqT, e_ixL, e_ixT, e_lenL, e_lenT, e_isi, e_max, e_min, e_tupL, e_tupT, e_intI, e_intB, e_listL, e_listT, e_all, e_any, e_sum, e_all, e_eqII, e_eqSS, e_next, e_seq, e_snx, e_srt, e_sbk, e_sct, e_sxx, e_sbd, e_drop, e_ret, e_retN, e_qif, e_break, e_cont, e_asg, e_asgT, e_ownV, e_app, e_par, e_raise, e_for, e_try, e_txx, e_tnx, e_trt, e_hrt, e_body, e_fnx, e_frt, e_fex, e_start0, e_startS, e_rep0, e_repS, List.append_nil, List.nil_append, List.set_cons_zero, List.set_cons_succ, List.length_cons, List.length_nil, List.length_map, List.length_range, Nat.reduceAdd, Nat.reduceLeDiff, Nat.reduceLT, Int.reduceLT, Int.reduceEq, Int.reduceLE, Int.reducePow, Int.reduceNeg, Int.reduceMul, Int.reduceAdd, Int.reduceSub, Int.reduceToNat, if_true, if_false, cond_true, cond_false, decide_true, decide_false, Bool.and_true, Bool.true_and, Bool.and_false, Bool.false_and, Bool.or_true, Bool.true_or, Bool.or_false, Bool.false_or, Bool.not_true, Bool.not_false, Bool.false_eq_true, Option.some.injEq, and_true, true_and, and_self, t_non, t_bl, t_int, t_str, t_lst, t_tup, t_dct, isiB, tyNs, List.contains_cons, List.contains_nil, String.reduceBEq, Bool.or_self, Bool.and_self, beq_self_eq_true, nc0, nc1, nc2, nc3, nc4, nc5, nc6, nc7, nc8, nc9, nc10, nc11, nc12, e_at0, e_at1, e_at2, e_at3, e_at4, e_at5, e_at6, e_at7, e_at8, e_at9, e_at10, e_at11, e_atm1, e_atm2, e_atm3, e_atm4, e_atm5, e_condB, e_condS, e_condQ, e_condF, e_condT, e_condO, e_cc, e_condBl, e_condAA, c_F, c_T, c_nF, c_nT, decide_eq_true_eq]
  · simp (config := { decide := true }) only [e_ok, e_ex, e_bad, e_sok, e_sex, e_sbad, e_var0, e_varS, e_varB0, e_varB1, e_varBS, e_c, e_nil, e_cons, e_op, e_some, e_none, e_cb, e_tup, e_lstF, e_val, e_bOf, e_iOf, e_andT, e_orT, e_notT, e_and, e_or, e_not, e_if, e_chain, e_neg, e_dct0, e_isi2, e_noP, e_pt, e_sl, e_P1, e_slL, e_slT, e_rev, e_call, e_callK, e_lstV, e_new, e_vLst, e_vCat, e_vSl, e_vList, e_vRep, e_lcV, e_compK, e_forK, e_iSq, e_iEn, e_iRg, e_vsqL, e_vsqT, e_iZp, e_catLL, e_catTT, e_aI0, e_aI, e_seqL, e_seqT, e_ixL, e_ixT, e_lenL, e_lenT, e_isi, e_max, e_min, e_tupL, e_tupT, e_intI, e_intB, e_listL, e_listT, e_all, e_any, e_sum, e_all, e_eqII, e_eqSS, e_next, e_seq, e_snx, e_srt, e_sbk, e_sct, e_sxx, e_sbd, e_drop, e_ret, e_retN, e_qif, e_break, e_cont, e_asg, e_asgT, e_ownV, e_app, e_par, e_raise, e_for, e_try, e_txx, e_tnx, e_trt, e_hrt, e_body, e_fnx, e_frt, e_fex, e_start0, e_startS, e_rep0, e_repS, List.append_nil, List.nil_append, List.set_cons_zero, List.set_cons_succ, List.length_cons, List.length_nil, List.length_map, List.length_range, Nat.reduceAdd, Nat.reduceLeDiff, Nat.reduceLT, Int.reduceLT, Int.reduceEq, Int.reduceLE, Int.reducePow, Int.reduceNeg, Int.reduceMul, Int.reduceAdd, Int.reduceSub, Int.reduceToNat, if_true, if_false, cond_true, cond_false, decide_true, decide_false, Bool.and_true, Bool.true_and, Bool.and_false, Bool.false_and, Bool.or_true, Bool.true_or, Bool.or_false, Bool.false_or, Bool.not_true, Bool.not_false, Bool.false_eq_true, Option.some.injEq, and_true, true_and, and_self, t_non, t_bl, t_int, t_str, t_lst, t_tup, t_dct, isiB, tyNs, List.contains_cons, List.contains_nil, String.reduceBEq, Bool.or_self, Bool.and_self, beq_self_eq_true, nc0, nc1, nc2, nc3, nc4, nc5, nc6, nc7, nc8, nc9, nc10, nc11, nc12, e_at0, e_at1, e_at2, e_at3, e_at4, e_at5, e_at6, e_at7, e_at8, e_at9, e_at10, e_at11, e_atm1, e_atm2, e_atm3, e_atm4, e_atm5, e_condB, e_condS, e_condQ, e_condF, e_condT, e_condO, e_cc, e_condBl, e_condAA, c_F, c_T, c_nF, c_nT, decide_eq_true_eq]
/-- as a list or a tuple -/
def Sq2 (ws : A) (l : List A) : Prop := ws = .lst l ∨ ws = .tup l
theorem f_reck1 {w : Str} {n a r : Int} {ws to at_ : A} (h1 : 1 ≤ n) (h8 : n ≤ 8) (hs : Sq2 ws [.int a]) (a0 : 0 ≤ a) (a1 : a < 2 ^ n.toNat)
    (hw : (w = "not" ∧ r = 2 ^ n.toNat - 1 - a) ∨ (w = "wide" ∧ ∃ t : Int, to = .int t ∧ 1 ≤ t ∧ t ≤ 8 ∧ r = a % 2 ^ t.toNat) ∨ (w = "bit" ∧ ∃ t : Int, at_ = .int t ∧ 0 ≤ t ∧ t ≤ n - 1 ∧ r = a / 2 ^ t.toNat % 2)) :
    p_reckoned [.str w, .int n, ws, to, at_] m = .ok (.int r) m := by
  unfold p_reckoned q_reckoned
  have eA : wholeA (.int a) 0 (2 ^ n.toNat - 1) = true := by
    simp only [wholeA, Bool.and_eq_true, decide_eq_true_eq]
    omega
  have fs := f_single (m := m) (to := to) (at_ := at_) (w := w) (r := r) (a := a) h1 h8 (by
    rcases hw with h | ⟨h, t, e, x, y, z⟩ | ⟨h, t, e, x, y, z⟩
    · exact .inl h
    · exact .inr (.inl ⟨h, t, e, x, y, z⟩)
    · exact .inr (.inr ⟨h, t, e, x, z⟩))
  have bl1 : [A.bl true] = [true].map A.bl := rfl
  have key : ∀ {env : AEnv} {φe : FE}, φe (env.set 6 (.val (.int a))) m = .ok (.bl true) m → compA (tNm 6) env pYes φe [.int a] m = .ok ([true].map A.bl) m := fun {env φe} he => by
    rw [compA_pure (v := fun _ => .bl true) fun d hd => ?_]
    · rfl
    · rw [List.mem_singleton.mp hd]
      exact ⟨_, rfl, he⟩
  have iw : inV (.str w) wordsV = true := by rcases hw with ⟨rfl, _⟩ | ⟨rfl, _⟩ | ⟨rfl, _⟩ <;> decide
  have is : inV (.str w) singleV = true := by rcases hw with ⟨rfl, _⟩ | ⟨rfl, _⟩ | ⟨rfl, _⟩ <;> decide
  rcases hw with ⟨rfl, _⟩ | ⟨rfl, t, rfl, t1, t8, _⟩ | ⟨rfl, t, rfl, t0, tn, _⟩
  · rcases hs with rfl | rfl
    · simp (config := { decide := true }) only [e_ok, e_ex, e_bad, e_sok, e_sex, e_sbad, e_var0, e_varS, e_varB0, e_varB1, e_varBS, e_c, e_nil, e_cons, e_op, e_some, e_none, e_cb, e_tup, e_lstF, e_val, e_bOf, e_iOf, e_andT, e_orT, e_notT, e_and, e_or, e_not, e_if, e_chain, e_neg, e_dct0, e_isi2, e_noP, e_pt, e_sl, e_P1, e_slL, e_slT, e_rev, e_call, e_callK, e_lstV, e_new, e_vLst, e_vCat, e_vSl, e_vList, e_vRep, e_lcV, e_compK, e_forK, e_iSq, e_iEn, e_iRg, e_vsqL, e_vsqT, e_iZp, e_catLL, e_catTT, e_aI0, e_aI, e_seqL, e_seqT, e_ixL, e_ixT, e_lenL, e_lenT, e_isi, e_max, e_min, e_tupL, e_tupT, e_intI, e_intB, e_listL, e_listT, e_all, e_any, e_sum, e_all, e_eqII, e_eqSS, e_next, e_seq, e_snx, e_srt, e_sbk, e_sct, e_sxx, e_sbd, e_drop, e_ret, e_retN, e_qif, e_break, e_cont, e_asg, e_asgT, e_ownV, e_app, e_par, e_raise, e_for, e_try, e_txx, e_tnx, e_trt, e_hrt, e_body, e_fnx, e_frt, e_fex, e_start0, e_startS, e_rep0, e_repS, List.append_nil, List.nil_append, List.set_cons_zero, List.set_cons_succ, List.length_cons, List.length_nil, List.length_map, List.length_range, Nat.reduceAdd, Nat.reduceLeDiff, Nat.reduceLT, Int.reduceLT, Int.reduceEq, Int.reduceLE, Int.reducePow, Int.reduceNeg, Int.reduceMul, Int.reduceAdd, Int.reduceSub, Int.reduceToNat, if_true, if_false, cond_true, cond_false, decide_true, decide_false, Bool.and_true, Bool.true_and, Bool.and_false, Bool.false_and, Bool.or_true, Bool.true_or, Bool.or_false, Bool.false_or, Bool.not_true, Bool.not_false, Bool.false_eq_true, Option.some.injEq, and_true, true_and, and_self, t_non, t_bl, t_int, t_str, t_lst, t_tup, t_dct, isiB, tyNs, List.contains_cons, List.contains_nil, String.reduceBEq, Bool.or_self, Bool.and_self, beq_self_eq_true, nc0, nc1, nc2, nc3, nc4, nc5, nc6, nc7, nc8, nc9, nc10, nc11, nc12, e_at0, e_at1, e_at2, e_at3, e_at4, e_at5, e_at6, e_at7, e_at8, e_at9, e_at10, e_at11, e_atm1, e_atm2, e_atm3, e_atm4, e_atm5, e_condB, e_condS, e_condQ, e_condF, e_condT, e_condO, e_cc, e_condBl, e_condAA, c_F, c_T, c_nF, c_nT, in_words, in_single, iw, is, f_width (t_int (m := m)), w8 h1 h8, wipeA]
      rw [key (by simp only [e_ok, e_ex, e_bad, e_sok, e_sex, e_sbad, e_var0, e_varS, e_varB0, e_varB1, e_varBS, e_c, e_nil, e_cons, e_op, e_some, e_none, e_cb, e_tup, e_lstF, e_val, e_bOf, e_iOf, e_andT, e_orT, e_notT, e_and, e_or, e_not, e_if, e_chain, e_neg, e_dct0, e_isi2, e_noP, e_pt, e_sl, e_P1, e_slL, e_slT, e_rev, e_call, e_callK, e_lstV, e_new, e_vLst, e_vCat, e_vSl, e_vList, e_vRep, e_lcV, e_compK, e_forK, e_iSq, e_iEn, e_iRg, e_vsqL, e_vsqT, e_iZp, e_catLL, e_catTT, e_aI0, e_aI, e_seqL, e_seqT, e_ixL, e_ixT, e_lenL, e_lenT, e_isi, e_max, e_min, e_tupL, e_tupT, e_intI, e_intB, e_listL, e_listT, e_all, e_any, e_sum, e_all, e_eqII, e_eqSS, e_next, e_seq, e_snx, e_srt, e_sbk, e_sct, e_sxx, e_sbd, e_drop, e_ret, e_retN, e_qif, e_break, e_cont, e_asg, e_asgT, e_ownV, e_app, e_par, e_raise, e_for, e_try, e_txx, e_tnx, e_trt, e_hrt, e_body, e_fnx, e_frt, e_fex, e_start0, e_startS, e_rep0, e_repS, List.append_nil, List.nil_append, List.set_cons_zero, List.set_cons_succ, List.length_cons, List.length_nil, List.length_map, List.length_range, Nat.reduceAdd, Nat.reduceLeDiff, Nat.reduceLT, Int.reduceLT, Int.reduceEq, Int.reduceLE, Int.reducePow, Int.reduceNeg, Int.reduceMul, Int.reduceAdd, Int.reduceSub, Int.reduceToNat, if_true, if_false, cond_true, cond_false, decide_true, decide_false, Bool.and_true, Bool.true_and, Bool.and_false, Bool.false_and, Bool.or_true, Bool.true_or, Bool.or_false, Bool.false_or, Bool.not_true, Bool.not_false, Bool.false_eq_true, Option.some.injEq, and_true, true_and, and_self, t_non, t_bl, t_int, t_str, t_lst, t_tup, t_dct, isiB, tyNs, List.contains_cons, List.contains_nil, String.reduceBEq, Bool.or_self, Bool.and_self, beq_self_eq_true, nc0, nc1, nc2, nc3, nc4, nc5, nc6, nc7, nc8, nc9, nc10, nc11, nc12, e_at0, e_at1, e_at2, e_at3, e_at4, e_at5, e_at6, e_at7, e_at8, e_at9, e_at10, e_at11, e_atm1, e_atm2, e_atm3, e_atm4, e_atm5, f_worth h1 h8 t_int, eA])]
      simp (config := { decide := true }) only [e_ok, e_ex, e_bad, e_sok, e_sex, e_sbad, e_var0, e_varS, e_varB0, e_varB1, e_varBS, e_c, e_nil, e_cons, e_op, e_some, e_none, e_cb, e_tup, e_lstF, e_val, e_bOf, e_iOf, e_andT, e_orT, e_notT, e_and, e_or, e_not, e_if, e_chain, e_neg, e_dct0, e_isi2, e_noP, e_pt, e_sl, e_P1, e_slL, e_slT, e_rev, e_call, e_callK, e_lstV, e_new, e_vLst, e_vCat, e_vSl, e_vList, e_vRep, e_lcV, e_compK, e_forK, e_iSq, e_iEn, e_iRg, e_vsqL, e_vsqT, e_iZp, e_catLL, e_catTT, e_aI0, e_aI, e_seqL, e_seqT, e_ixL, e_ixT, e_lenL, e_lenT, e_isi, e_max, e_min, e_tupL, e_tupT, e_intI, e_intB, e_listL, e_listT, e_all, e_any, e_sum, e_all, e_eqII, e_eqSS, e_next, e_seq, e_snx, e_srt, e_sbk, e_sct, e_sxx, e_sbd, e_drop, e_ret, e_retN, e_qif, e_break, e_cont, e_asg, e_asgT, e_ownV, e_app, e_par, e_raise, e_for, e_try, e_txx, e_tnx, e_trt, e_hrt, e_body, e_fnx, e_frt, e_fex, e_start0, e_startS, e_rep0, e_repS, List.append_nil, List.nil_append, List.set_cons_zero, List.set_cons_succ, List.length_cons, List.length_nil, List.length_map, List.length_range, Nat.reduceAdd, Nat.reduceLeDiff, Nat.reduceLT, Int.reduceLT, Int.reduceEq, Int.reduceLE, Int.reducePow, Int.reduceNeg, Int.reduceMul, Int.reduceAdd, Int.reduceSub, Int.reduceToNat, if_true, if_false, cond_true, cond_false, decide_true, decide_false, Bool.and_true, Bool.true_and, Bool.and_false, Bool.false_and, Bool.or_true, Bool.true_or, Bool.or_false, Bool.false_or, Bool.not_true, Bool.not_false, Bool.false_eq_true, Option.some.injEq, and_true, true_and, and_self, t_non, t_bl, t_int, t_str, t_lst, t_tup, t_dct, isiB, tyNs, List.contains_cons, List.contains_nil, String.reduceBEq, Bool.or_self, Bool.and_self, beq_self_eq_true, nc0, nc1, nc2, nc3, nc4, nc5, nc6, nc7, nc8, nc9, nc10, nc11, nc12, e_at0, e_at1, e_at2, e_at3, e_at4, e_at5, e_at6, e_at7, e_at8, e_at9, e_at10, e_at11, e_atm1, e_atm2, e_atm3, e_atm4, e_atm5, e_condB, e_condS, e_condQ, e_condF, e_condT, e_condO, e_cc, e_condBl, e_condAA, c_F, c_T, c_nF, c_nT, e_all, List.all_cons, List.all_nil, id, fs]
    · simp (config := { decide := true }) only [e_ok, e_ex, e_bad, e_sok, e_sex, e_sbad, e_var0, e_varS, e_varB0, e_varB1, e_varBS, e_c, e_nil, e_cons, e_op, e_some, e_none, e_cb, e_tup, e_lstF, e_val, e_bOf, e_iOf, e_andT, e_orT, e_notT, e_and, e_or, e_not, e_if, e_chain, e_neg, e_dct0, e_isi2, e_noP, e_pt, e_sl, e_P1, e_slL, e_slT, e_rev, e_call, e_callK, e_lstV, e_new, e_vLst, e_vCat, e_vSl, e_vList, e_vRep, e_lcV, e_compK, e_forK, e_iSq, e_iEn, e_iRg, e_vsqL, e_vsqT, e_iZp, e_catLL, e_catTT, e_aI0, e_aI, e_seqL, e_seqT, e_ixL, e_ixT, e_lenL, e_lenT, e_isi, e_max, e_min, e_tupL, e_tupT, e_intI, e_intB, e_listL, e_listT, e_all, e_any, e_sum, e_all, e_eqII, e_eqSS, e_next, e_seq, e_snx, e_srt, e_sbk, e_sct, e_sxx, e_sbd, e_drop, e_ret, e_retN, e_qif, e_break, e_cont, e_asg, e_asgT, e_ownV, e_app, e_par, e_raise, e_for, e_try, e_txx, e_tnx, e_trt, e_hrt, e_body, e_fnx, e_frt, e_fex, e_start0, e_startS, e_rep0, e_repS, List.append_nil, List.nil_append, List.set_cons_zero, List.set_cons_succ, List.length_cons, List.length_nil, List.length_map, List.length_range, Nat.reduceAdd, Nat.reduceLeDiff, Nat.reduceLT, Int.reduceLT, Int.reduceEq, Int.reduceLE, Int.reducePow, Int.reduceNeg, Int.reduceMul, Int.reduceAdd, Int.reduceSub, Int.reduceToNat, if_true, if_false, cond_true, cond_false, decide_true, decide_false, Bool.and_true, Bool.true_and, Bool.and_false, Bool.false_and, Bool.or_true, Bool.true_or, Bool.or_false, Bool.false_or, Bool.not_true, Bool.not_false, Bool.false_eq_true, Option.some.injEq, and_true, true_and, and_self, t_non, t_bl, t_int, t_str, t_lst, t_tup, t_dct, isiB, tyNs, List.contains_cons, List.contains_nil, String.reduceBEq, Bool.or_self, Bool.and_self, beq_self_eq_true, nc0, nc1, nc2, nc3, nc4, nc5, nc6, nc7, nc8, nc9, nc10, nc11, nc12, e_at0, e_at1, e_at2, e_at3, e_at4, e_at5, e_at6, e_at7, e_at8, e_at9, e_at10, e_at11, e_atm1, e_atm2, e_atm3, e_atm4, e_atm5, e_condB, e_condS, e_condQ, e_condF, e_condT, e_condO, e_cc, e_condBl, e_condAA, c_F, c_T, c_nF, c_nT, in_words, in_single, iw, is, f_width (t_int (m := m)), w8 h1 h8, wipeA]
      rw [key (by simp only [e_ok, e_ex, e_bad, e_sok, e_sex, e_sbad, e_var0, e_varS, e_varB0, e_varB1, e_varBS, e_c, e_nil, e_cons, e_op, e_some, e_none, e_cb, e_tup, e_lstF, e_val, e_bOf, e_iOf, e_andT, e_orT, e_notT, e_and, e_or, e_not, e_if, e_chain, e_neg, e_dct0, e_isi2, e_noP, e_pt, e_sl, e_P1, e_slL, e_slT, e_rev, e_call, e_callK, e_lstV, e_new, e_vLst, e_vCat, e_vSl, e_vList, e_vRep, e_lcV, e_compK, e_forK, e_iSq, e_iEn, e_iRg, e_vsqL, e_vsqT, e_iZp, e_catLL, e_catTT, e_aI0, e_aI, e_seqL, e_seqT, e_ixL, e_ixT, e_lenL, e_lenT, e_isi, e_max, e_min, e_tupL, e_tupT, e_intI, e_intB, e_listL, e_listT, e_all, e_any, e_sum, e_all, e_eqII, e_eqSS, e_next, e_seq, e_snx, e_srt, e_sbk, e_sct, e_sxx, e_sbd, e_drop, e_ret, e_retN, e_qif, e_break, e_cont, e_asg, e_asgT, e_ownV, e_app, e_par, e_raise, e_for, e_try, e_txx, e_tnx, e_trt, e_hrt, e_body, e_fnx, e_frt, e_fex, e_start0, e_startS, e_rep0, e_repS, List.append_nil, List.nil_append, List.set_cons_zero, List.set_cons_succ, List.length_cons, List.length_nil, List.length_map, List.length_range, Nat.reduceAdd, Nat.reduceLeDiff, Nat.reduceLT, Int.reduceLT, Int.reduceEq, Int.reduceLE, Int.reducePow, Int.reduceNeg, Int.reduceMul, Int.reduceAdd, Int.reduceSub, Int.reduceToNat, if_true, if_false, cond_true, cond_false, decide_true, decide_false, Bool.and_true, Bool.true_and, Bool.and_false, Bool.false_and, Bool.or_true, Bool.true_or, Bool.or_false, Bool.false_or, Bool.not_true, Bool.not_false, Bool.false_eq_true, Option.some.injEq, and_true, true_and, and_self, t_non, t_bl, t_int, t_str, t_lst, t_tup, t_dct, isiB, tyNs, List.contains_cons, List.contains_nil, String.reduceBEq, Bool.or_self, Bool.and_self, beq_self_eq_true, nc0, nc1, nc2, nc3, nc4, nc5, nc6, nc7, nc8, nc9, nc10, nc11, nc12, e_at0, e_at1, e_at2, e_at3, e_at4, e_at5, e_at6, e_at7, e_at8, e_at9, e_at10, e_at11, e_atm1, e_atm2, e_atm3, e_atm4, e_atm5, f_worth h1 h8 t_int, eA])]
      simp (config := { decide := true }) only [e_ok, e_ex, e_bad, e_sok, e_sex, e_sbad, e_var0, e_varS, e_varB0, e_varB1, e_varBS, e_c, e_nil, e_cons, e_op, e_some, e_none, e_cb, e_tup, e_lstF, e_val, e_bOf, e_iOf, e_andT, e_orT, e_notT, e_and, e_or, e_not, e_if, e_chain, e_neg, e_dct0, e_isi2, e_noP, e_pt, e_sl, e_P1, e_slL, e_slT, e_rev, e_call, e_callK, e_lstV, e_new, e_vLst, e_vCat, e_vSl, e_vList, e_vRep, e_lcV, e_compK, e_forK, e_iSq, e_iEn, e_iRg, e_vsqL, e_vsqT, e_iZp, e_catLL, e_catTT, e_aI0, e_aI, e_seqL, e_seqT, e_ixL, e_ixT, e_lenL, e_lenT, e_isi, e_max, e_min, e_tupL, e_tupT, e_intI, e_intB, e_listL, e_listT, e_all, e_any, e_sum, e_all, e_eqII, e_eqSS, e_next, e_seq, e_snx, e_srt, e_sbk, e_sct, e_sxx, e_sbd, e_drop, e_ret, e_retN, e_qif, e_break, e_cont, e_asg, e_asgT, e_ownV, e_app, e_par, e_raise, e_for, e_try, e_txx, e_tnx, e_trt, e_hrt, e_body, e_fnx, e_frt, e_fex, e_start0, e_startS, e_rep0, e_repS, List.append_nil, List.nil_append, List.set_cons_zero, List.set_cons_succ, List.length_cons, List.length_nil, List.length_map, List.length_range, Nat.reduceAdd, Nat.reduceLeDiff, Nat.reduceLT, Int.reduceLT, Int.reduceEq, Int.reduceLE, Int.reducePow, Int.reduceNeg, Int.reduceMul, Int.reduceAdd, Int.reduceSub, Int.reduceToNat, if_true, if_false, cond_true, cond_false, decide_true, decide_false, Bool.and_true, Bool.true_and, Bool.and_false, Bool.false_and, Bool.or_true, Bool.true_or, Bool.or_false, Bool.false_or, Bool.not_true, Bool.not_false, Bool.false_eq_true, Option.some.injEq, and_true, true_and, and_self, t_non, t_bl, t_int, t_str, t_lst, t_tup, t_dct, isiB, tyNs, List.contains_cons, List.contains_nil, String.reduceBEq, Bool.or_self, Bool.and_self, beq_self_eq_true, nc0, nc1, nc2, nc3, nc4, nc5, nc6, nc7, nc8, nc9, nc10, nc11, nc12, e_at0, e_at1, e_at2, e_at3, e_at4, e_at5, e_at6, e_at7, e_at8, e_at9, e_at10, e_at11, e_atm1, e_atm2, e_atm3, e_atm4, e_atm5, e_condB, e_condS, e_condQ, e_condF, e_condT, e_condO, e_cc, e_condBl, e_condAA, c_F, c_T, c_nF, c_nT, e_all, List.all_cons, List.all_nil, id, fs]
  · rcases hs with rfl | rfl
    · simp (config := { decide := true }) only [e_ok, e_ex, e_bad, e_sok, e_sex, e_sbad, e_var0, e_varS, e_varB0, e_varB1, e_varBS, e_c, e_nil, e_cons, e_op, e_some, e_none, e_cb, e_tup, e_lstF, e_val, e_bOf, e_iOf, e_andT, e_orT, e_notT, e_and, e_or, e_not, e_if, e_chain, e_neg, e_dct0, e_isi2, e_noP, e_pt, e_sl, e_P1, e_slL, e_slT, e_rev, e_call, e_callK, e_lstV, e_new, e_vLst, e_vCat, e_vSl, e_vList, e_vRep, e_lcV, e_compK, e_forK, e_iSq, e_iEn, e_iRg, e_vsqL, e_vsqT, e_iZp, e_catLL, e_catTT, e_aI0, e_aI, e_seqL, e_seqT, e_ixL, e_ixT, e_lenL, e_lenT, e_isi, e_max, e_min, e_tupL, e_tupT, e_intI, e_intB, e_listL, e_listT, e_all, e_any, e_sum, e_all, e_eqII, e_eqSS, e_next, e_seq, e_snx, e_srt, e_sbk, e_sct, e_sxx, e_sbd, e_drop, e_ret, e_retN, e_qif, e_break, e_cont, e_asg, e_asgT, e_ownV, e_app, e_par, e_raise, e_for, e_try, e_txx, e_tnx, e_trt, e_hrt, e_body, e_fnx, e_frt, e_fex, e_start0, e_startS, e_rep0, e_repS, List.append_nil, List.nil_append, List.set_cons_zero, List.set_cons_succ, List.length_cons, List.length_nil, List.length_map, List.length_range, Nat.reduceAdd, Nat.reduceLeDiff, Nat.reduceLT, Int.reduceLT, Int.reduceEq, Int.reduceLE, Int.reducePow, Int.reduceNeg, Int.reduceMul, Int.reduceAdd, Int.reduceSub, Int.reduceToNat, if_true, if_false, cond_true, cond_false, decide_true, decide_false, Bool.and_true, Bool.true_and, Bool.and_false, Bool.false_and, Bool.or_true, Bool.true_or, Bool.or_false, Bool.false_or, Bool.not_true, Bool.not_false, Bool.false_eq_true, Option.some.injEq, and_true, true_and, and_self, t_non, t_bl, t_int, t_str, t_lst, t_tup, t_dct, isiB, tyNs, List.contains_cons, List.contains_nil, String.reduceBEq, Bool.or_self, Bool.and_self, beq_self_eq_true, nc0, nc1, nc2, nc3, nc4, nc5, nc6, nc7, nc8, nc9, nc10, nc11, nc12, e_at0, e_at1, e_at2, e_at3, e_at4, e_at5, e_at6, e_at7, e_at8, e_at9, e_at10, e_at11, e_atm1, e_atm2, e_atm3, e_atm4, e_atm5, e_condB, e_condS, e_condQ, e_condF, e_condT, e_condO, e_cc, e_condBl, e_condAA, c_F, c_T, c_nF, c_nT, in_words, in_single, iw, is, f_width (t_int (m := m)), w8 h1 h8, wipeA]
      rw [key (by simp only [e_ok, e_ex, e_bad, e_sok, e_sex, e_sbad, e_var0, e_varS, e_varB0, e_varB1, e_varBS, e_c, e_nil, e_cons, e_op, e_some, e_none, e_cb, e_tup, e_lstF, e_val, e_bOf, e_iOf, e_andT, e_orT, e_notT, e_and, e_or, e_not, e_if, e_chain, e_neg, e_dct0, e_isi2, e_noP, e_pt, e_sl, e_P1, e_slL, e_slT, e_rev, e_call, e_callK, e_lstV, e_new, e_vLst, e_vCat, e_vSl, e_vList, e_vRep, e_lcV, e_compK, e_forK, e_iSq, e_iEn, e_iRg, e_vsqL, e_vsqT, e_iZp, e_catLL, e_catTT, e_aI0, e_aI, e_seqL, e_seqT, e_ixL, e_ixT, e_lenL, e_lenT, e_isi, e_max, e_min, e_tupL, e_tupT, e_intI, e_intB, e_listL, e_listT, e_all, e_any, e_sum, e_all, e_eqII, e_eqSS, e_next, e_seq, e_snx, e_srt, e_sbk, e_sct, e_sxx, e_sbd, e_drop, e_ret, e_retN, e_qif, e_break, e_cont, e_asg, e_asgT, e_ownV, e_app, e_par, e_raise, e_for, e_try, e_txx, e_tnx, e_trt, e_hrt, e_body, e_fnx, e_frt, e_fex, e_start0, e_startS, e_rep0, e_repS, List.append_nil, List.nil_append, List.set_cons_zero, List.set_cons_succ, List.length_cons, List.length_nil, List.length_map, List.length_range, Nat.reduceAdd, Nat.reduceLeDiff, Nat.reduceLT, Int.reduceLT, Int.reduceEq, Int.reduceLE, Int.reducePow, Int.reduceNeg, Int.reduceMul, Int.reduceAdd, Int.reduceSub, Int.reduceToNat, if_true, if_false, cond_true, cond_false, decide_true, decide_false, Bool.and_true, Bool.true_and, Bool.and_false, Bool.false_and, Bool.or_true, Bool.true_or, Bool.or_false, Bool.false_or, Bool.not_true, Bool.not_false, Bool.false_eq_true, Option.some.injEq, and_true, true_and, and_self, t_non, t_bl, t_int, t_str, t_lst, t_tup, t_dct, isiB, tyNs, List.contains_cons, List.contains_nil, String.reduceBEq, Bool.or_self, Bool.and_self, beq_self_eq_true, nc0, nc1, nc2, nc3, nc4, nc5, nc6, nc7, nc8, nc9, nc10, nc11, nc12, e_at0, e_at1, e_at2, e_at3, e_at4, e_at5, e_at6, e_at7, e_at8, e_at9, e_at10, e_at11, e_atm1, e_atm2, e_atm3, e_atm4, e_atm5, f_worth h1 h8 t_int, eA])]
      simp (config := { decide := true }) only [e_ok, e_ex, e_bad, e_sok, e_sex, e_sbad, e_var0, e_varS, e_varB0, e_varB1, e_varBS, e_c, e_nil, e_cons, e_op, e_some, e_none, e_cb, e_tup, e_lstF, e_val, e_bOf, e_iOf, e_andT, e_orT, e_notT, e_and, e_or, e_not, e_if, e_chain, e_neg, e_dct0, e_isi2, e_noP, e_pt, e_sl, e_P1, e_slL, e_slT, e_rev, e_call, e_callK, e_lstV, e_new, e_vLst, e_vCat, e_vSl, e_vList, e_vRep, e_lcV, e_compK, e_forK, e_iSq, e_iEn, e_iRg, e_vsqL, e_vsqT, e_iZp, e_catLL, e_catTT, e_aI0, e_aI, e_seqL, e_seqT, e_ixL, e_ixT, e_lenL, e_lenT, e_isi, e_max, e_min, e_tupL, e_tupT, e_intI, e_intB, e_listL, e_listT, e_all, e_any, e_sum, e_all, e_eqII, e_eqSS, e_next, e_seq, e_snx, e_srt, e_sbk, e_sct, e_sxx, e_sbd, e_drop, e_ret, e_retN, e_qif, e_break, e_cont, e_asg, e_asgT, e_ownV, e_app, e_par, e_raise, e_for, e_try, e_txx, e_tnx, e_trt, e_hrt, e_body, e_fnx, e_frt, e_fex, e_start0, e_startS, e_rep0, e_repS, List.append_nil, List.nil_append, List.set_cons_zero, List.set_cons_succ, List.length_cons, List.length_nil, List.length_map, List.length_range, Nat.reduceAdd, Nat.reduceLeDiff, Nat.reduceLT, Int.reduceLT, Int.reduceEq, Int.reduceLE, Int.reducePow, Int.reduceNeg, Int.reduceMul, Int.reduceAdd, Int.reduceSub, Int.reduceToNat, if_true, if_false, cond_true, cond_false, decide_true, decide_false, Bool.and_true, Bool.true_and, Bool.and_false, Bool.false_and, Bool.or_true, Bool.true_or, Bool.or_false, Bool.false_or, Bool.not_true, Bool.not_false, Bool.false_eq_true, Option.some.injEq, and_true, true_and, and_self, t_non, t_bl, t_int, t_str, t_lst, t_tup, t_dct, isiB, tyNs, List.contains_cons, List.contains_nil, String.reduceBEq, Bool.or_self, Bool.and_self, beq_self_eq_true, nc0, nc1, nc2, nc3, nc4, nc5, nc6, nc7, nc8, nc9, nc10, nc11, nc12, e_at0, e_at1, e_at2, e_at3, e_at4, e_at5, e_at6, e_at7, e_at8, e_at9, e_at10, e_at11, e_atm1, e_atm2, e_atm3, e_atm4, e_atm5, e_condB, e_condS, e_condQ, e_condF, e_condT, e_condO, e_cc, e_condBl, e_condAA, c_F, c_T, c_nF, c_nT, e_all, List.all_cons, List.all_nil, id, fs, f_width (t_int (m := m)), w8 t1 t8]
    · simp (config := { decide := true }) only [e_ok, e_ex, e_bad, e_sok, e_sex, e_sbad, e_var0, e_varS, e_varB0, e_varB1, e_varBS, e_c, e_nil, e_cons, e_op, e_some, e_none, e_cb, e_tup, e_lstF, e_val, e_bOf, e_iOf, e_andT, e_orT, e_notT, e_and, e_or, e_not, e_if, e_chain, e_neg, e_dct0, e_isi2, e_noP, e_pt, e_sl, e_P1, e_slL, e_slT, e_rev, e_call, e_callK, e_lstV, e_new, e_vLst, e_vCat, e_vSl, e_vList, e_vRep, e_lcV, e_compK, e_forK, e_iSq, e_iEn, e_iRg, e_vsqL, e_vsqT, e_iZp, e_catLL, e_catTT, e_aI0, e_aI, e_seqL, e_seqT, e_ixL, e_ixT, e_lenL, e_lenT, e_isi, e_max, e_min, e_tupL, e_tupT, e_intI, e_intB, e_listL, e_listT, e_all, e_any, e_sum, e_all, e_eqII, e_eqSS, e_next, e_seq, e_snx, e_srt, e_sbk, e_sct, e_sxx, e_sbd, e_drop, e_ret, e_retN, e_qif, e_break, e_cont, e_asg, e_asgT, e_ownV, e_app, e_par, e_raise, e_for, e_try, e_txx, e_tnx, e_trt, e_hrt, e_body, e_fnx, e_frt, e_fex, e_start0, e_startS, e_rep0, e_repS, List.append_nil, List.nil_append, List.set_cons_zero, List.set_cons_succ, List.length_cons, List.length_nil, List.length_map, List.length_range, Nat.reduceAdd, Nat.reduceLeDiff, Nat.reduceLT, Int.reduceLT, Int.reduceEq, Int.reduceLE, Int.reducePow, Int.reduceNeg, Int.reduceMul, Int.reduceAdd, Int.reduceSub, Int.reduceToNat, if_true, if_false, cond_true, cond_false, decide_true, decide_false, Bool.and_true, Bool.true_and, Bool.and_false, Bool.false_and, Bool.or_true, Bool.true_or, Bool.or_false, Bool.false_or, Bool.not_true, Bool.not_false, Bool.false_eq_true, Option.some.injEq, and_true, true_and, and_self, t_non, t_bl, t_int, t_str, t_lst, t_tup, t_dct, isiB, tyNs, List.contains_cons, List.contains_nil, String.reduceBEq, Bool.or_self, Bool.and_self, beq_self_eq_true, nc0, nc1, nc2, nc3, nc4, nc5, nc6, nc7, nc8, nc9, nc10, nc11, nc12, e_at0, e_at1, e_at2, e_at3, e_at4, e_at5, e_at6, e_at7, e_at8, e_at9, e_at10, e_at11, e_atm1, e_atm2, e_atm3, e_atm4, e_atm5, e_condB, e_condS, e_condQ, e_condF, e_condT, e_condO, e_cc, e_condBl, e_condAA, c_F, c_T, c_nF, c_nT, in_words, in_single, iw, is, f_width (t_int (m := m)), w8 h1 h8, wipeA]
      rw [key (by simp only [e_ok, e_ex, e_bad, e_sok, e_sex, e_sbad, e_var0, e_varS, e_varB0, e_varB1, e_varBS, e_c, e_nil, e_cons, e_op, e_some, e_none, e_cb, e_tup, e_lstF, e_val, e_bOf, e_iOf, e_andT, e_orT, e_notT, e_and, e_or, e_not, e_if, e_chain, e_neg, e_dct0, e_isi2, e_noP, e_pt, e_sl, e_P1, e_slL, e_slT, e_rev, e_call, e_callK, e_lstV, e_new, e_vLst, e_vCat, e_vSl, e_vList, e_vRep, e_lcV, e_compK, e_forK, e_iSq, e_iEn, e_iRg, e_vsqL, e_vsqT, e_iZp, e_catLL, e_catTT, e_aI0, e_aI, e_seqL, e_seqT, e_ixL, e_ixT, e_lenL, e_lenT, e_isi, e_max, e_min, e_tupL, e_tupT, e_intI, e_intB, e_listL, e_listT, e_all, e_any, e_sum, e_all, e_eqII, e_eqSS, e_next, e_seq, e_snx, e_srt, e_sbk, e_sct, e_sxx, e_sbd, e_drop, e_ret, e_retN, e_qif, e_break, e_cont, e_asg, e_asgT, e_ownV, e_app, e_par, e_raise, e_for, e_try, e_txx, e_tnx, e_trt, e_hrt, e_body, e_fnx, e_frt, e_fex, e_start0, e_startS, e_rep0, e_repS, List.append_nil, List.nil_append, List.set_cons_zero, List.set_cons_succ, List.length_cons, List.length_nil, List.length_map, List.length_range, Nat.reduceAdd, Nat.reduceLeDiff, Nat.reduceLT, Int.reduceLT, Int.reduceEq, Int.reduceLE, Int.reducePow, Int.reduceNeg, Int.reduceMul, Int.reduceAdd, Int.reduceSub, Int.reduceToNat, if_true, if_false, cond_true, cond_false, decide_true, decide_false, Bool.and_true, Bool.true_and, Bool.and_false, Bool.false_and, Bool.or_true, Bool.true_or, Bool.or_false, Bool.false_or, Bool.not_true, Bool.not_false, Bool.false_eq_true, Option.some.injEq, and_true, true_and, and_self, t_non, t_bl, t_int, t_str, t_lst, t_tup, t_dct, isiB, tyNs, List.contains_cons, List.contains_nil, String.reduceBEq, Bool.or_self, Bool.and_self, beq_self_eq_true, nc0, nc1, nc2, nc3, nc4, nc5, nc6, nc7, nc8, nc9, nc10, nc11, nc12, e_at0, e_at1, e_at2, e_at3, e_at4, e_at5, e_at6, e_at7, e_at8, e_at9, e_at10, e_at11, e_atm1, e_atm2, e_atm3, e_atm4, e_atm5, f_worth h1 h8 t_int, eA])]
      simp (config := { decide := true }) only [e_ok, e_ex, e_bad, e_sok, e_sex, e_sbad, e_var0, e_varS, e_varB0, e_varB1, e_varBS, e_c, e_nil, e_cons, e_op, e_some, e_none, e_cb, e_tup, e_lstF, e_val, e_bOf, e_iOf, e_andT, e_orT, e_notT, e_and, e_or, e_not, e_if, e_chain, e_neg, e_dct0, e_isi2, e_noP, e_pt, e_sl, e_P1, e_slL, e_slT, e_rev, e_call, e_callK, e_lstV, e_new, e_vLst, e_vCat, e_vSl, e_vList, e_vRep, e_lcV, e_compK, e_forK, e_iSq, e_iEn, e_iRg, e_vsqL, e_vsqT, e_iZp, e_catLL, e_catTT, e_aI0, e_aI, e_seqL, e_seqT, e_ixL, e_ixT, e_lenL, e_lenT, e_isi, e_max, e_min, e_tupL, e_tupT, e_intI, e_intB, e_listL, e_listT, e_all, e_any, e_sum, e_all, e_eqII, e_eqSS, e_next, e_seq, e_snx, e_srt, e_sbk, e_sct, e_sxx, e_sbd, e_drop, e_ret, e_retN, e_qif, e_break, e_cont, e_asg, e_asgT, e_ownV, e_app, e_par, e_raise, e_for, e_try, e_txx, e_tnx, e_trt, e_hrt, e_body, e_fnx, e_frt, e_fex, e_start0, e_startS, e_rep0, e_repS, List.append_nil, List.nil_append, List.set_cons_zero, List.set_cons_succ, List.length_cons, List.length_nil, List.length_map, List.length_range, Nat.reduceAdd, Nat.reduceLeDiff, Nat.reduceLT, Int.reduceLT, Int.reduceEq, Int.reduceLE, Int.reducePow, Int.reduceNeg, Int.reduceMul, Int.reduceAdd, Int.reduceSub, Int.reduceToNat, if_true, if_false, cond_true, cond_false, decide_true, decide_false, Bool.and_true, Bool.true_and, Bool.and_false, Bool.false_and, Bool.or_true, Bool.true_or, Bool.or_false, Bool.false_or, Bool.not_true, Bool.not_false, Bool.false_eq_true, Option.some.injEq, and_true, true_and, and_self, t_non, t_bl, t_int, t_str, t_lst, t_tup, t_dct, isiB, tyNs, List.contains_cons, List.contains_nil, String.reduceBEq, Bool.or_self, Bool.and_self, beq_self_eq_true, nc0, nc1, nc2, nc3, nc4, nc5, nc6, nc7, nc8, nc9, nc10, nc11, nc12, e_at0, e_at1, e_at2, e_at3, e_at4, e_at5, e_at6, e_at7, e_at8, e_at9, e_at10, e_at11, e_atm1, e_atm2, e_atm3, e_atm4, e_atm5, e_condB, e_condS, e_condQ, e_condF, e_condT, e_condO, e_cc, e_condBl, e_condAA, c_F, c_T, c_nF, c_nT, e_all, List.all_cons, List.all_nil, id, fs, f_width (t_int (m := m)), w8 t1 t8]
  · have et : wholeA (.int t) 0 (n - 1) = true := by simp [wholeA, t0, tn]
    rcases hs with rfl | rfl
    · simp (config := { decide := true }) only [e_ok, e_ex, e_bad, e_sok, e_sex, e_sbad, e_var0, e_varS, e_varB0, e_varB1, e_varBS, e_c, e_nil, e_cons, e_op, e_some, e_none, e_cb, e_tup, e_lstF, e_val, e_bOf, e_iOf, e_andT, e_orT, e_notT, e_and, e_or, e_not, e_if, e_chain, e_neg, e_dct0, e_isi2, e_noP, e_pt, e_sl, e_P1, e_slL, e_slT, e_rev, e_call, e_callK, e_lstV, e_new, e_vLst, e_vCat, e_vSl, e_vList, e_vRep, e_lcV, e_compK, e_forK, e_iSq, e_iEn, e_iRg, e_vsqL, e_vsqT, e_iZp, e_catLL, e_catTT, e_aI0, e_aI, e_seqL, e_seqT, e_ixL, e_ixT, e_lenL, e_lenT, e_isi, e_max, e_min, e_tupL, e_tupT, e_intI, e_intB, e_listL, e_listT, e_all, e_any, e_sum, e_all, e_eqII, e_eqSS, e_next, e_seq, e_snx, e_srt, e_sbk, e_sct, e_sxx, e_sbd, e_drop, e_ret, e_retN, e_qif, e_break, e_cont, e_asg, e_asgT, e_ownV, e_app, e_par, e_raise, e_for, e_try, e_txx, e_tnx, e_trt, e_hrt, e_body, e_fnx, e_frt, e_fex, e_start0, e_startS, e_rep0, e_repS, List.append_nil, List.nil_append, List.set_cons_zero, List.set_cons_succ, List.length_cons, List.length_nil, List.length_map, List.length_range, Nat.reduceAdd, Nat.reduceLeDiff, Nat.reduceLT, Int.reduceLT, Int.reduceEq, Int.reduceLE, Int.reducePow, Int.reduceNeg, Int.reduceMul, Int.reduceAdd, Int.reduceSub, Int.reduceToNat, if_true, if_false, cond_true, cond_false, decide_true, decide_false, Bool.and_true, Bool.true_and, Bool.and_false, Bool.false_and, Bool.or_true, Bool.true_or, Bool.or_false, Bool.false_or, Bool.not_true, Bool.not_false, Bool.false_eq_true, Option.some.injEq, and_true, true_and, and_self, t_non, t_bl, t_int, t_str, t_lst, t_tup, t_dct, isiB, tyNs, List.contains_cons, List.contains_nil, String.reduceBEq, Bool.or_self, Bool.and_self, beq_self_eq_true, nc0, nc1, nc2, nc3, nc4, nc5, nc6, nc7, nc8, nc9, nc10, nc11, nc12, e_at0, e_at1, e_at2, e_at3, e_at4, e_at5, e_at6, e_at7, e_at8, e_at9, e_at10, e_at11, e_atm1, e_atm2, e_atm3, e_atm4, e_atm5, e_condB, e_condS, e_condQ, e_condF, e_condT, e_condO, e_cc, e_condBl, e_condAA, c_F, c_T, c_nF, c_nT, in_words, in_single, iw, is, f_width (t_int (m := m)), w8 h1 h8, wipeA]
      rw [key (by simp only [e_ok, e_ex, e_bad, e_sok, e_sex, e_sbad, e_var0, e_varS, e_varB0, e_varB1, e_varBS, e_c, e_nil, e_cons, e_op, e_some, e_none, e_cb, e_tup, e_lstF, e_val, e_bOf, e_iOf, e_andT, e_orT, e_notT, e_and, e_or, e_not, e_if, e_chain, e_neg, e_dct0, e_isi2, e_noP, e_pt, e_sl, e_P1, e_slL, e_slT, e_rev, e_call, e_callK, e_lstV, e_new, e_vLst, e_vCat, e_vSl, e_vList, e_vRep, e_lcV, e_compK, e_forK, e_iSq, e_iEn, e_iRg, e_vsqL, e_vsqT, e_iZp, e_catLL, e_catTT, e_aI0, e_aI, e_seqL, e_seqT, e_ixL, e_ixT, e_lenL, e_lenT, e_isi, e_max, e_min, e_tupL, e_tupT, e_intI, e_intB, e_listL, e_listT, e_all, e_any, e_sum, e_all, e_eqII, e_eqSS, e_next, e_seq, e_snx, e_srt, e_sbk, e_sct, e_sxx, e_sbd, e_drop, e_ret, e_retN, e_qif, e_break, e_cont, e_asg, e_asgT, e_ownV, e_app, e_par, e_raise, e_for, e_try, e_txx, e_tnx, e_trt, e_hrt, e_body, e_fnx, e_frt, e_fex, e_start0, e_startS, e_rep0, e_repS, List.append_nil, List.nil_append, List.set_cons_zero, List.set_cons_succ, List.length_cons, List.length_nil, List.length_map, List.length_range, Nat.reduceAdd, Nat.reduceLeDiff, Nat.reduceLT, Int.reduceLT, Int.reduceEq, Int.reduceLE, Int.reducePow, Int.reduceNeg, Int.reduceMul, Int.reduceAdd, Int.reduceSub, Int.reduceToNat, if_true, if_false, cond_true, cond_false, decide_true, decide_false, Bool.and_true, Bool.true_and, Bool.and_false, Bool.false_and, Bool.or_true, Bool.true_or, Bool.or_false, Bool.false_or, Bool.not_true, Bool.not_false, Bool.false_eq_true, Option.some.injEq, and_true, true_and, and_self, t_non, t_bl, t_int, t_str, t_lst, t_tup, t_dct, isiB, tyNs, List.contains_cons, List.contains_nil, String.reduceBEq, Bool.or_self, Bool.and_self, beq_self_eq_true, nc0, nc1, nc2, nc3, nc4, nc5, nc6, nc7, nc8, nc9, nc10, nc11, nc12, e_at0, e_at1, e_at2, e_at3, e_at4, e_at5, e_at6, e_at7, e_at8, e_at9, e_at10, e_at11, e_atm1, e_atm2, e_atm3, e_atm4, e_atm5, f_worth h1 h8 t_int, eA])]
      simp (config := { decide := true }) only [e_ok, e_ex, e_bad, e_sok, e_sex, e_sbad, e_var0, e_varS, e_varB0, e_varB1, e_varBS, e_c, e_nil, e_cons, e_op, e_some, e_none, e_cb, e_tup, e_lstF, e_val, e_bOf, e_iOf, e_andT, e_orT, e_notT, e_and, e_or, e_not, e_if, e_chain, e_neg, e_dct0, e_isi2, e_noP, e_pt, e_sl, e_P1, e_slL, e_slT, e_rev, e_call, e_callK, e_lstV, e_new, e_vLst, e_vCat, e_vSl, e_vList, e_vRep, e_lcV, e_compK, e_forK, e_iSq, e_iEn, e_iRg, e_vsqL, e_vsqT, e_iZp, e_catLL, e_catTT, e_aI0, e_aI, e_seqL, e_seqT, e_ixL, e_ixT, e_lenL, e_lenT, e_isi, e_max, e_min, e_tupL, e_tupT, e_intI, e_intB, e_listL, e_listT, e_all, e_any, e_sum, e_all, e_eqII, e_eqSS, e_next, e_seq, e_snx, e_srt, e_sbk, e_sct, e_sxx, e_sbd, e_drop, e_ret, e_retN, e_qif, e_break, e_cont, e_asg, e_asgT, e_ownV, e_app, e_par, e_raise, e_for, e_try, e_txx, e_tnx, e_trt, e_hrt, e_body, e_fnx, e_frt, e_fex, e_start0, e_startS, e_rep0, e_repS, List.append_nil, List.nil_append, List.set_cons_zero, List.set_cons_succ, List.length_cons, List.length_nil, List.length_map, List.length_range, Nat.reduceAdd, Nat.reduceLeDiff, Nat.reduceLT, Int.reduceLT, Int.reduceEq, Int.reduceLE, Int.reducePow, Int.reduceNeg, Int.reduceMul, Int.reduceAdd, Int.reduceSub, Int.reduceToNat, if_true, if_false, cond_true, cond_false, decide_true, decide_false, Bool.and_true, Bool.true_and, Bool.and_false, Bool.false_and, Bool.or_true, Bool.true_or, Bool.or_false, Bool.false_or, Bool.not_true, Bool.not_false, Bool.false_eq_true, Option.some.injEq, and_true, true_and, and_self, t_non, t_bl, t_int, t_str, t_lst, t_tup, t_dct, isiB, tyNs, List.contains_cons, List.contains_nil, String.reduceBEq, Bool.or_self, Bool.and_self, beq_self_eq_true, nc0, nc1, nc2, nc3, nc4, nc5, nc6, nc7, nc8, nc9, nc10, nc11, nc12, e_at0, e_at1, e_at2, e_at3, e_at4, e_at5, e_at6, e_at7, e_at8, e_at9, e_at10, e_at11, e_atm1, e_atm2, e_atm3, e_atm4, e_atm5, e_condB, e_condS, e_condQ, e_condF, e_condT, e_condO, e_cc, e_condBl, e_condAA, c_F, c_T, c_nF, c_nT, e_all, List.all_cons, List.all_nil, id, fs, f_whole (t_int (m := m)), et]
    · simp (config := { decide := true }) only [e_ok, e_ex, e_bad, e_sok, e_sex, e_sbad, e_var0, e_varS, e_varB0, e_varB1, e_varBS, e_c, e_nil, e_cons, e_op, e_some, e_none, e_cb, e_tup, e_lstF, e_val, e_bOf, e_iOf, e_andT, e_orT, e_notT, e_and, e_or, e_not, e_if, e_chain, e_neg, e_dct0, e_isi2, e_noP, e_pt, e_sl, e_P1, e_slL, e_slT, e_rev, e_call, e_callK, e_lstV, e_new, e_vLst, e_vCat, e_vSl, e_vList, e_vRep, e_lcV, e_compK, e_forK, e_iSq, e_iEn, e_iRg, e_vsqL, e_vsqT, e_iZp, e_catLL, e_catTT, e_aI0, e_aI, e_seqL, e_seqT, e_ixL, e_ixT, e_lenL, e_lenT, e_isi, e_max, e_min, e_tupL, e_tupT, e_intI, e_intB, e_listL, e_listT, e_all, e_any, e_sum, e_all, e_eqII, e_eqSS, e_next, e_seq, e_snx, e_srt, e_sbk, e_sct, e_sxx, e_sbd, e_drop, e_ret, e_retN, e_qif, e_break, e_cont, e_asg, e_asgT, e_ownV, e_app, e_par, e_raise, e_for, e_try, e_txx, e_tnx, e_trt, e_hrt, e_body, e_fnx, e_frt, e_fex, e_start0, e_startS, e_rep0, e_repS, List.append_nil, List.nil_append, List.set_cons_zero, List.set_cons_succ, List.length_cons, List.length_nil, List.length_map, List.length_range, Nat.reduceAdd, Nat.reduceLeDiff, Nat.reduceLT, Int.reduceLT, Int.reduceEq, Int.reduceLE, Int.reducePow, Int.reduceNeg, Int.reduceMul, Int.reduceAdd, Int.reduceSub, Int.reduceToNat, if_true, if_false, cond_true, cond_false, decide_true, decide_false, Bool.and_true, Bool.true_and, Bool.and_false, Bool.false_and, Bool.or_true, Bool.true_or, Bool.or_false, Bool.false_or, Bool.not_true, Bool.not_false, Bool.false_eq_true, Option.some.injEq, and_true, true_and, and_self, t_non, t_bl, t_int, t_str, t_lst, t_tup, t_dct, isiB, tyNs, List.contains_cons, List.contains_nil, String.reduceBEq, Bool.or_self, Bool.and_self, beq_self_eq_true, nc0, nc1, nc2, nc3, nc4, nc5, nc6, nc7, nc8, nc9, nc10, nc11, nc12, e_at0, e_at1, e_at2, e_at3, e_at4, e_at5, e_at6, e_at7, e_at8, e_at9, e_at10, e_at11, e_atm1, e_atm2, e_atm3, e_atm4, e_atm5, e_condB, e_condS, e_condQ, e_condF, e_condT, e_condO, e_cc, e_condBl, e_condAA, c_F, c_T, c_nF, c_nT, in_words, in_single, iw, is, f_width (t_int (m := m)), w8 h1 h8, wipeA]
      rw [key (by simp only [e_ok, e_ex, e_bad, e_sok, e_sex, e_sbad, e_var0, e_varS, e_varB0, e_varB1, e_varBS, e_c, e_nil, e_cons, e_op, e_some, e_none, e_cb, e_tup, e_lstF, e_val, e_bOf, e_iOf, e_andT, e_orT, e_notT, e_and, e_or, e_not, e_if, e_chain, e_neg, e_dct0, e_isi2, e_noP, e_pt, e_sl, e_P1, e_slL, e_slT, e_rev, e_call, e_callK, e_lstV, e_new, e_vLst, e_vCat, e_vSl, e_vList, e_vRep, e_lcV, e_compK, e_forK, e_iSq, e_iEn, e_iRg, e_vsqL, e_vsqT, e_iZp, e_catLL, e_catTT, e_aI0, e_aI, e_seqL, e_seqT, e_ixL, e_ixT, e_lenL, e_lenT, e_isi, e_max, e_min, e_tupL, e_tupT, e_intI, e_intB, e_listL, e_listT, e_all, e_any, e_sum, e_all, e_eqII, e_eqSS, e_next, e_seq, e_snx, e_srt, e_sbk, e_sct, e_sxx, e_sbd, e_drop, e_ret, e_retN, e_qif, e_break, e_cont, e_asg, e_asgT, e_ownV, e_app, e_par, e_raise, e_for, e_try, e_txx, e_tnx, e_trt, e_hrt, e_body, e_fnx, e_frt, e_fex, e_start0, e_startS, e_rep0, e_repS, List.append_nil, List.nil_append, List.set_cons_zero, List.set_cons_succ, List.length_cons, List.length_nil, List.length_map, List.length_range, Nat.reduceAdd, Nat.reduceLeDiff, Nat.reduceLT, Int.reduceLT, Int.reduceEq, Int.reduceLE, Int.reducePow, Int.reduceNeg, Int.reduceMul, Int.reduceAdd, Int.reduceSub, Int.reduceToNat, if_true, if_false, cond_true, cond_false, decide_true, decide_false, Bool.and_true, Bool.true_and, Bool.and_false, Bool.false_and, Bool.or_true, Bool.true_or, Bool.or_false, Bool.false_or, Bool.not_true, Bool.not_false, Bool.false_eq_true, Option.some.injEq, and_true, true_and, and_self, t_non, t_bl, t_int, t_str, t_lst, t_tup, t_dct, isiB, tyNs, List.contains_cons, List.contains_nil, String.reduceBEq, Bool.or_self, Bool.and_self, beq_self_eq_true, nc0, nc1, nc2, nc3, nc4, nc5, nc6, nc7, nc8, nc9, nc10, nc11, nc12, e_at0, e_at1, e_at2, e_at3, e_at4, e_at5, e_at6, e_at7, e_at8, e_at9, e_at10, e_at11, e_atm1, e_atm2, e_atm3, e_atm4, e_atm5, f_worth h1 h8 t_int, eA])]
      simp (config := { decide := true }) only [e_ok, e_ex, e_bad, e_sok, e_sex, e_sbad, e_var0, e_varS, e_varB0, e_varB1, e_varBS, e_c, e_nil, e_cons, e_op, e_some, e_none, e_cb, e_tup, e_lstF, e_val, e_bOf, e_iOf, e_andT, e_orT, e_notT, e_and, e_or, e_not, e_if, e_chain, e_neg, e_dct0, e_isi2, e_noP, e_pt, e_sl, e_P1, e_slL, e_slT, e_rev, e_call, e_callK, e_lstV, e_new, e_vLst, e_vCat, e_vSl, e_vList, e_vRep, e_lcV, e_compK, e_forK, e_iSq, e_iEn, e_iRg, e_vsqL, e_vsqT, e_iZp, e_catLL, e_catTT, e_aI0, e_aI, e_seqL, e_seqT, e_ixL, e_ixT, e_lenL, e_lenT, e_isi, e_max, e_min, e_tupL, e_tupT, e_intI, e_intB, e_listL, e_listT, e_all, e_any, e_sum, e_all, e_eqII, e_eqSS, e_next, e_seq, e_snx, e_srt, e_sbk, e_sct, e_sxx, e_sbd, e_drop, e_ret, e_retN, e_qif, e_break, e_cont, e_asg, e_asgT, e_ownV, e_app, e_par, e_raise, e_for, e_try, e_txx, e_tnx, e_trt, e_hrt, e_body, e_fnx, e_frt, e_fex, e_start0, e_startS, e_rep0, e_repS, List.append_nil, List.nil_append, List.set_cons_zero, List.set_cons_succ, List.length_cons, List.length_nil, List.length_map, List.length_range, Nat.reduceAdd, Nat.reduceLeDiff, Nat.reduceLT, Int.reduceLT, Int.reduceEq, Int.reduceLE, Int.reducePow, Int.reduceNeg, Int.reduceMul, Int.reduceAdd, Int.reduceSub, Int.reduceToNat, if_true, if_false, cond_true, cond_false, decide_true, decide_false, Bool.and_true, Bool.true_and, Bool.and_false, Bool.false_and, Bool.or_true, Bool.true_or, Bool.or_false, Bool.false_or, Bool.not_true, Bool.not_false, Bool.false_eq_true, Option.some.injEq, and_true, true_and, and_self, t_non, t_bl, t_int, t_str, t_lst, t_tup, t_dct, isiB, tyNs, List.contains_cons, List.contains_nil, String.reduceBEq, Bool.or_self, Bool.and_self, beq_self_eq_true, nc0, nc1, nc2, nc3, nc4, nc5, nc6, nc7, nc8, nc9, nc10, nc11, nc12, e_at0, e_at1, e_at2, e_at3, e_at4, e_at5, e_at6, e_at7, e_at8, e_at9, e_at10, e_at11, e_atm1, e_atm2, e_atm3, e_atm4, e_atm5, e_condB, e_condS, e_condQ, e_condF, e_condT, e_condO, e_cc, e_condBl, e_condAA, c_F, c_T, c_nF, c_nT, e_all, List.all_cons, List.all_nil, id, fs, f_whole (t_int (m := m)), et]
end L03
set_option maxHeartbeats 400001
namespace L03
open PySem PySem.Spec
open PyProof.Rows L2 DL FL
variable {m : AM}
theorem f_reck2 {w : Str} {n a c r : Int} {ws to at_ : A} (h1 : 1 ≤ n) (h8 : n ≤ 8) (hs : Sq2 ws [.int a, .int c]) (a0 : 0 ≤ a) (a1 : a < 2 ^ n.toNat) (c0 : 0 ≤ c) (c1 : c < 2 ^ n.toNat)
    (hw : (w = "and" ∧ r = Builtin.bitAnd a c) ∨ (w = "or" ∧ r = Builtin.bitOr a c) ∨ (w = "xor" ∧ r = Builtin.bitXor a c) ∨ (w = "add" ∧ r = (a + c) % 2 ^ n.toNat) ∨ (w = "sub" ∧ r = (a - c) % 2 ^ n.toNat) ∨
      (w = "less" ∧ r = if a < c then 1 else 0) ∨ (w = "same" ∧ r = if a = c then 1 else 0)) : p_reckoned [.str w, .int n, ws, to, at_] m = .ok (.int r) m := by
  unfold p_reckoned q_reckoned
  have ft := f_two (m := m) h1 h8 hw
  have eX : ∀ x : Int, 0 ≤ x → x < 2 ^ n.toNat → wholeA (.int x) 0 (2 ^ n.toNat - 1) = true := fun x x0 x1 => by
    simp only [wholeA, Bool.and_eq_true, decide_eq_true_eq]
    omega
  have iw : inV (.str w) wordsV = true := by rcases hw with ⟨rfl, _⟩ | ⟨rfl, _⟩ | ⟨rfl, _⟩ | ⟨rfl, _⟩ | ⟨rfl, _⟩ | ⟨rfl, _⟩ | ⟨rfl, _⟩ <;> decide
  have is : inV (.str w) singleV = false := by rcases hw with ⟨rfl, _⟩ | ⟨rfl, _⟩ | ⟨rfl, _⟩ | ⟨rfl, _⟩ | ⟨rfl, _⟩ | ⟨rfl, _⟩ | ⟨rfl, _⟩ <;> decide
  have nW : decide (w = "wide") = false := by rcases hw with ⟨rfl, _⟩ | ⟨rfl, _⟩ | ⟨rfl, _⟩ | ⟨rfl, _⟩ | ⟨rfl, _⟩ | ⟨rfl, _⟩ | ⟨rfl, _⟩ <;> decide
  have nB : decide (w = "bit") = false := by rcases hw with ⟨rfl, _⟩ | ⟨rfl, _⟩ | ⟨rfl, _⟩ | ⟨rfl, _⟩ | ⟨rfl, _⟩ | ⟨rfl, _⟩ | ⟨rfl, _⟩ <;> decide
  have key : ∀ {env : AEnv} {φe : FE}, (∀ x : Int, 0 ≤ x → x < 2 ^ n.toNat → φe (env.set 6 (.val (.int x))) m = .ok (.bl true) m) → compA (tNm 6) env pYes φe [.int a, .int c] m = .ok ([true, true].map A.bl) m := fun {env φe} he => by
    rw [compA_pure (v := fun _ => .bl true) fun d hd => ?_]
    · rfl
    · obtain rfl | hd := List.mem_cons.mp hd
      · exact ⟨_, rfl, he _ a0 a1⟩
      · rw [List.mem_singleton.mp hd]
        exact ⟨_, rfl, he _ c0 c1⟩
  rcases hs with rfl | rfl
  · simp (config := { decide := true }) only [e_ok, e_ex, e_bad, e_sok, e_sex, e_sbad, e_var0, e_varS, e_varB0, e_varB1, e_varBS, e_c, e_nil, e_cons, e_op, e_some, e_none, e_cb, e_tup, e_lstF, e_val, e_bOf, e_iOf, e_andT, e_orT, e_notT, e_and, e_or, e_not, e_if, e_chain, e_neg, e_dct0, e_isi2, e_noP, e_pt, e_sl, e_P1, e_slL, e_slT, e_rev, e_call, e_callK, e_lstV, e_new, e_vLst, e_vCat, e_vSl, e_vList, e_vRep, e_lcV, e_compK, e_forK, e_iSq, e_iEn, e_iRg, e_vsqL, e_vsqT, e_iZp, e_catLL, e_catTT, e_aI0, e_aI, e_seqL, e_seqT, e_ixL, e_ixT, e_lenL, e_lenT, e_isi, e_max, e_min, e_tupL, e_tupT, e_intI, e_intB, e_listL, e_listT, e_all, e_any, e_sum, e_all, e_eqII, e_eqSS, e_next, e_seq, e_snx, e_srt, e_sbk, e_sct, e_sxx, e_sbd, e_drop, e_ret, e_retN, e_qif, e_break, e_cont, e_asg, e_asgT, e_ownV, e_app, e_par, e_raise, e_for, e_try, e_txx, e_tnx, e_trt, e_hrt, e_body, e_fnx, e_frt, e_fex, e_start0, e_startS, e_rep0, e_repS, List.append_nil, List.nil_append, List.set_cons_zero, List.set_cons_succ, List.length_cons, List.length_nil, List.length_map, List.length_range, Nat.reduceAdd, Nat.reduceLeDiff, Nat.reduceLT, Int.reduceLT, Int.reduceEq, Int.reduceLE, Int.reducePow, Int.reduceNeg, Int.reduceMul, Int.reduceAdd, Int.reduceSub, Int.reduceToNat, if_true, if_false, cond_true, cond_false, decide_true, decide_false, Bool.and_true, Bool.true_and, Bool.and_false, Bool.false_and, Bool.or_true, Bool.true_or, Bool.or_false, Bool.false_or, Bool.not_true, Bool.not_false, Bool.false_eq_true, Option.some.injEq, and_true, true_and, and_self, t_non, t_bl, t_int, t_str, t_lst, t_tup, t_dct, isiB, tyNs, List.contains_cons, List.contains_nil, String.reduceBEq, Bool.or_self, Bool.and_self, beq_self_eq_true, nc0, nc1, nc2, nc3, nc4, nc5, nc6, nc7, nc8, nc9, nc10, nc11, nc12, e_at0, e_at1, e_at2, e_at3, e_at4, e_at5, e_at6, e_at7, e_at8, e_at9, e_at10, e_at11, e_atm1, e_atm2, e_atm3, e_atm4, e_atm5, e_condB, e_condS, e_condQ, e_condF, e_condT, e_condO, e_cc, e_condBl, e_condAA, c_F, c_T, c_nF, c_nT, in_words, in_single, iw, is, f_width (t_int (m := m)), w8 h1 h8, wipeA]
    rw [key fun x x0 x1 => by simp only [e_ok, e_ex, e_bad, e_sok, e_sex, e_sbad, e_var0, e_varS, e_varB0, e_varB1, e_varBS, e_c, e_nil, e_cons, e_op, e_some, e_none, e_cb, e_tup, e_lstF, e_val, e_bOf, e_iOf, e_andT, e_orT, e_notT, e_and, e_or, e_not, e_if, e_chain, e_neg, e_dct0, e_isi2, e_noP, e_pt, e_sl, e_P1, e_slL, e_slT, e_rev, e_call, e_callK, e_lstV, e_new, e_vLst, e_vCat, e_vSl, e_vList, e_vRep, e_lcV, e_compK, e_forK, e_iSq, e_iEn, e_iRg, e_vsqL, e_vsqT, e_iZp, e_catLL, e_catTT, e_aI0, e_aI, e_seqL, e_seqT, e_ixL, e_ixT, e_lenL, e_lenT, e_isi, e_max, e_min, e_tupL, e_tupT, e_intI, e_intB, e_listL, e_listT, e_all, e_any, e_sum, e_all, e_eqII, e_eqSS, e_next, e_seq, e_snx, e_srt, e_sbk, e_sct, e_sxx, e_sbd, e_drop, e_ret, e_retN, e_qif, e_break, e_cont, e_asg, e_asgT, e_ownV, e_app, e_par, e_raise, e_for, e_try, e_txx, e_tnx, e_trt, e_hrt, e_body, e_fnx, e_frt, e_fex, e_start0, e_startS, e_rep0, e_repS, List.append_nil, List.nil_append, List.set_cons_zero, List.set_cons_succ, List.length_cons, List.length_nil, List.length_map, List.length_range, Nat.reduceAdd, Nat.reduceLeDiff, Nat.reduceLT, Int.reduceLT, Int.reduceEq, Int.reduceLE, Int.reducePow, Int.reduceNeg, Int.reduceMul, Int.reduceAdd, Int.reduceSub, Int.reduceToNat, if_true, if_false, cond_true, cond_false, decide_true, decide_false, Bool.and_true, Bool.true_and, Bool.and_false, Bool.false_and, Bool.or_true, Bool.true_or, Bool.or_false, Bool.false_or, Bool.not_true, Bool.not_false, Bool.false_eq_true, Option.some.injEq, and_true, true_and, and_self, t_non, t_bl, t_int, t_str, t_lst, t_tup, t_dct, isiB, tyNs, List.contains_cons, List.contains_nil, String.reduceBEq, Bool.or_self, Bool.and_self, beq_self_eq_true, nc0, nc1, nc2, nc3, nc4, nc5, nc6, nc7, nc8, nc9, nc10, nc11, nc12, e_at0, e_at1, e_at2, e_at3, e_at4, e_at5, e_at6, e_at7, e_at8, e_at9, e_at10, e_at11, e_atm1, e_atm2, e_atm3, e_atm4, e_atm5, f_worth h1 h8 t_int, eX x x0 x1]]
    simp (config := { decide := true }) only [e_ok, e_ex, e_bad, e_sok, e_sex, e_sbad, e_var0, e_varS, e_varB0, e_varB1, e_varBS, e_c, e_nil, e_cons, e_op, e_some, e_none, e_cb, e_tup, e_lstF, e_val, e_bOf, e_iOf, e_andT, e_orT, e_notT, e_and, e_or, e_not, e_if, e_chain, e_neg, e_dct0, e_isi2, e_noP, e_pt, e_sl, e_P1, e_slL, e_slT, e_rev, e_call, e_callK, e_lstV, e_new, e_vLst, e_vCat, e_vSl, e_vList, e_vRep, e_lcV, e_compK, e_forK, e_iSq, e_iEn, e_iRg, e_vsqL, e_vsqT, e_iZp, e_catLL, e_catTT, e_aI0, e_aI, e_seqL, e_seqT, e_ixL, e_ixT, e_lenL, e_lenT, e_isi, e_max, e_min, e_tupL, e_tupT, e_intI, e_intB, e_listL, e_listT, e_all, e_any, e_sum, e_all, e_eqII, e_eqSS, e_next, e_seq, e_snx, e_srt, e_sbk, e_sct, e_sxx, e_sbd, e_drop, e_ret, e_retN, e_qif, e_break, e_cont, e_asg, e_asgT, e_ownV, e_app, e_par, e_raise, e_for, e_try, e_txx, e_tnx, e_trt, e_hrt, e_body, e_fnx, e_frt, e_fex, e_start0, e_startS, e_rep0, e_repS, List.append_nil, List.nil_append, List.set_cons_zero, List.set_cons_succ, List.length_cons, List.length_nil, List.length_map, List.length_range, Nat.reduceAdd, Nat.reduceLeDiff, Nat.reduceLT, Int.reduceLT, Int.reduceEq, Int.reduceLE, Int.reducePow, Int.reduceNeg, Int.reduceMul, Int.reduceAdd, Int.reduceSub, Int.reduceToNat, if_true, if_false, cond_true, cond_false, decide_true, decide_false, Bool.and_true, Bool.true_and, Bool.and_false, Bool.false_and, Bool.or_true, Bool.true_or, Bool.or_false, Bool.false_or, Bool.not_true, Bool.not_false, Bool.false_eq_true, Option.some.injEq, and_true, true_and, and_self, t_non, t_bl, t_int, t_str, t_lst, t_tup, t_dct, isiB, tyNs, List.contains_cons, List.contains_nil, String.reduceBEq, Bool.or_self, Bool.and_self, beq_self_eq_true, nc0, nc1, nc2, nc3, nc4, nc5, nc6, nc7, nc8, nc9, nc10, nc11, nc12, e_at0, e_at1, e_at2, e_at3, e_at4, e_at5, e_at6, e_at7, e_at8, e_at9, e_at10, e_at11, e_atm1, e_atm2, e_atm3, e_atm4, e_atm5, e_condB, e_condS, e_condQ, e_condF, e_condT, e_condO, e_cc, e_condBl, e_condAA, c_F, c_T, c_nF, c_nT, e_all, List.all_cons, List.all_nil, id, nW, nB, ft]
  · simp (config := { decide := true }) only [e_ok, e_ex, e_bad, e_sok, e_sex, e_sbad, e_var0, e_varS, e_varB0, e_varB1, e_varBS, e_c, e_nil, e_cons, e_op, e_some, e_none, e_cb, e_tup, e_lstF, e_val, e_bOf, e_iOf, e_andT, e_orT, e_notT, e_and, e_or, e_not, e_if, e_chain, e_neg, e_dct0, e_isi2, e_noP, e_pt, e_sl, e_P1, e_slL, e_slT, e_rev, e_call, e_callK, e_lstV, e_new, e_vLst, e_vCat, e_vSl, e_vList, e_vRep, e_lcV, e_compK, e_forK, e_iSq, e_iEn, e_iRg, e_vsqL, e_vsqT, e_iZp, e_catLL, e_catTT, e_aI0, e_aI, e_seqL, e_seqT, e_ixL, e_ixT, e_lenL, e_lenT, e_isi, e_max, e_min, e_tupL, e_tupT, e_intI, e_intB, e_listL, e_listT, e_all, e_any, e_sum, e_all, e_eqII, e_eqSS, e_next, e_seq, e_snx, e_srt, e_sbk, e_sct, e_sxx, e_sbd, e_drop, e_ret, e_retN, e_qif, e_break, e_cont, e_asg, e_asgT, e_ownV, e_app, e_par, e_raise, e_for, e_try, e_txx, e_tnx, e_trt, e_hrt, e_body, e_fnx, e_frt, e_fex, e_start0, e_startS, e_rep0, e_repS, List.append_nil, List.nil_append, List.set_cons_zero, List.set_cons_succ, List.length_cons, List.length_nil, List.length_map, List.length_range, Nat.reduceAdd, Nat.reduceLeDiff, Nat.reduceLT, Int.reduceLT, Int.reduceEq, Int.reduceLE, Int.reducePow, Int.reduceNeg, Int.reduceMul, Int.reduceAdd, Int.reduceSub, Int.reduceToNat, if_true, if_false, cond_true, cond_false, decide_true, decide_false, Bool.and_true, Bool.true_and, Bool.and_false, Bool.false_and, Bool.or_true, Bool.true_or, Bool.or_false, Bool.false_or, Bool.not_true, Bool.not_false, Bool.false_eq_true, Option.some.injEq, and_true, true_and, and_self, t_non, t_bl, t_int, t_str, t_lst, t_tup, t_dct, isiB, tyNs, List.contains_cons, List.contains_nil, String.reduceBEq, Bool.or_self, Bool.and_self, beq_self_eq_true, nc0, nc1, nc2, nc3, nc4, nc5, nc6, nc7, nc8, nc9, nc10, nc11, nc12, e_at0, e_at1, e_at2, e_at3, e_at4, e_at5, e_at6, e_at7, e_at8, e_at9, e_at10, e_at11, e_atm1, e_atm2, e_atm3, e_atm4, e_atm5, e_condB, e_condS, e_condQ, e_condF, e_condT, e_condO, e_cc, e_condBl, e_condAA, c_F, c_T, c_nF, c_nT, in_words, in_single, iw, is, f_width (t_int (m := m)), w8 h1 h8, wipeA]
    rw [key fun x x0 x1 => by simp only [e_ok, e_ex, e_bad, e_sok, e_sex, e_sbad, e_var0, e_varS, e_varB0, e_varB1, e_varBS, e_c, e_nil, e_cons, e_op, e_some, e_none, e_cb, e_tup, e_lstF, e_val, e_bOf, e_iOf, e_andT, e_orT, e_notT, e_and, e_or, e_not, e_if, e_chain, e_neg, e_dct0, e_isi2, e_noP, e_pt, e_sl, e_P1, e_slL, e_slT, e_rev, e_call, e_callK, e_lstV, e_new, e_vLst, e_vCat, e_vSl, e_vList, e_vRep, e_lcV, e_compK, e_forK, e_iSq, e_iEn, e_iRg, e_vsqL, e_vsqT, e_iZp, e_catLL, e_catTT, e_aI0, e_aI, e_seqL, e_seqT, e_ixL, e_ixT, e_lenL, e_lenT, e_isi, e_max, e_min, e_tupL, e_tupT, e_intI, e_intB, e_listL, e_listT, e_all, e_any, e_sum, e_all, e_eqII, e_eqSS, e_next, e_seq, e_snx, e_srt, e_sbk, e_sct, e_sxx, e_sbd, e_drop, e_ret, e_retN, e_qif, e_break, e_cont, e_asg, e_asgT, e_ownV, e_app, e_par, e_raise, e_for, e_try, e_txx, e_tnx, e_trt, e_hrt, e_body, e_fnx, e_frt, e_fex, e_start0, e_startS, e_rep0, e_repS, List.append_nil, List.nil_append, List.set_cons_zero, List.set_cons_succ, List.length_cons, List.length_nil, List.length_map, List.length_range, Nat.reduceAdd, Nat.reduceLeDiff, Nat.reduceLT, Int.reduceLT, Int.reduceEq, Int.reduceLE, Int.reducePow, Int.reduceNeg, Int.reduceMul, Int.reduceAdd, Int.reduceSub, Int.reduceToNat, if_true, if_false, cond_true, cond_false, decide_true, decide_false, Bool.and_true, Bool.true_and, Bool.and_false, Bool.false_and, Bool.or_true, Bool.true_or, Bool.or_false, Bool.false_or, Bool.not_true, Bool.not_false, Bool.false_eq_true, Option.some.injEq, and_true, true_and, and_self, t_non, t_bl, t_int, t_str, t_lst, t_tup, t_dct, isiB, tyNs, List.contains_cons, List.contains_nil, String.reduceBEq, Bool.or_self, Bool.and_self, beq_self_eq_true, nc0, nc1, nc2, nc3, nc4, nc5, nc6, nc7, nc8, nc9, nc10, nc11, nc12, e_at0, e_at1, e_at2, e_at3, e_at4, e_at5, e_at6, e_at7, e_at8, e_at9, e_at10, e_at11, e_atm1, e_atm2, e_atm3, e_atm4, e_atm5, f_worth h1 h8 t_int, eX x x0 x1]]
    simp (config := { decide := true }) only [e_ok, e_ex, e_bad, e_sok, e_sex, e_sbad, e_var0, e_varS, e_varB0, e_varB1, e_varBS, e_c, e_nil, e_cons, e_op, e_some, e_none, e_cb, e_tup, e_lstF, e_val, e_bOf, e_iOf, e_andT, e_orT, e_notT, e_and, e_or, e_not, e_if, e_chain, e_neg, e_dct0, e_isi2, e_noP, e_pt, e_sl, e_P1, e_slL, e_slT, e_rev, e_call, e_callK, e_lstV, e_new, e_vLst, e_vCat, e_vSl, e_vList, e_vRep, e_lcV, e_compK, e_forK, e_iSq, e_iEn, e_iRg, e_vsqL, e_vsqT, e_iZp, e_catLL, e_catTT, e_aI0, e_aI, e_seqL, e_seqT, e_ixL, e_ixT, e_lenL, e_lenT, e_isi, e_max, e_min, e_tupL, e_tupT, e_intI, e_intB, e_listL, e_listT, e_all, e_any, e_sum, e_all, e_eqII, e_eqSS, e_next, e_seq, e_snx, e_srt, e_sbk, e_sct, e_sxx, e_sbd, e_drop, e_ret, e_retN, e_qif, e_break, e_cont, e_asg, e_asgT, e_ownV, e_app, e_par, e_raise, e_for, e_try, e_txx, e_tnx, e_trt, e_hrt, e_body, e_fnx, e_frt, e_fex, e_start0, e_startS, e_rep0, e_repS, List.append_nil, List.nil_append, List.set_cons_zero, List.set_cons_succ, List.length_cons, List.length_nil, List.length_map, List.length_range, Nat.reduceAdd, Nat.reduceLeDiff, Nat.reduceLT, Int.reduceLT, Int.reduceEq, Int.reduceLE, Int.reducePow, Int.reduceNeg, Int.reduceMul, Int.reduceAdd, Int.reduceSub, Int.reduceToNat, if_true, if_false, cond_true, cond_false, decide_true, decide_false, Bool.and_true, Bool.true_and, Bool.and_false, Bool.false_and, Bool.or_true, Bool.true_or, Bool.or_false, Bool.false_or, Bool.not_true, Bool.not_false, Bool.false_eq_true, Option.some.injEq, and_true, true_and, and_self, t_non, t_bl, t_int, t_str, t_lst, t_tup, t_dct, isiB, tyNs, List.contains_cons, List.contains_nil, String.reduceBEq, Bool.or_self, Bool.and_self, beq_self_eq_true, nc0, nc1, nc2, nc3, nc4, nc5, nc6, nc7, nc8, nc9, nc10, nc11, nc12, e_at0, e_at1, e_at2, e_at3, e_at4, e_at5, e_at6, e_at7, e_at8, e_at9, e_at10, e_at11, e_atm1, e_atm2, e_atm3, e_atm4, e_atm5, e_condB, e_condS, e_condQ, e_condF, e_condT, e_condO, e_cc, e_condBl, e_condAA, c_F, c_T, c_nF, c_nT, e_all, List.all_cons, List.all_nil, id, nW, nB, ft]
/-! refused -/
def notWord (x : A) (t : String) : Prop := t = "str" → ∃ w, x = .str w ∧ inV (.str w) wordsV = false
theorem f_rx_op {x v ws to at_ : A} {t : String} (h : tyA m x = some t) (bad : notWord x t) : p_reckoned [x, v, ws, to, at_] m = .ex ⟨"NoOp", [("found", x)]⟩ m := by
  unfold p_reckoned q_reckoned
  by_cases e : t = "str"
  · obtain ⟨w, rfl, hw⟩ := bad e
    simp (config := { decide := true }) only [e_ok, e_ex, e_bad, e_sok, e_sex, e_sbad, e_var0, e_varS, e_varB0, e_varB1, e_varBS, e_c, e_nil, e_cons, e_op, e_some, e_none, e_cb, e_tup, e_lstF, e_val, e_bOf, e_iOf, e_andT, e_orT, e_notT, e_and, e_or, e_not, e_if, e_chain, e_neg, e_dct0, e_isi2, e_noP, e_pt, e_sl, e_P1, e_slL, e_slT, e_rev, e_call, e_callK, e_lstV, e_new, e_vLst, e_vCat, e_vSl, e_vList, e_vRep, e_lcV, e_compK, e_forK, e_iSq, e_iEn, e_iRg, e_vsqL, e_vsqT, e_iZp, e_catLL, e_catTT, e_aI0, e_aI, e_seqL, e_seqT, e_ixL, e_ixT, e_lenL, e_lenT, e_isi, e_max, e_min, e_tupL, e_tupT, e_intI, e_intB, e_listL, e_listT, e_all, e_any, e_sum, e_all, e_eqII, e_eqSS, e_next, e_seq, e_snx, e_srt, e_sbk, e_sct, e_sxx, e_sbd, e_drop, e_ret, e_retN, e_qif, e_break, e_cont, e_asg, e_asgT, e_ownV, e_app, e_par, e_raise, e_for, e_try, e_txx, e_tnx, e_trt, e_hrt, e_body, e_fnx, e_frt, e_fex, e_start0, e_startS, e_rep0, e_repS, List.append_nil, List.nil_append, List.set_cons_zero, List.set_cons_succ, List.length_cons, List.length_nil, List.length_map, List.length_range, Nat.reduceAdd, Nat.reduceLeDiff, Nat.reduceLT, Int.reduceLT, Int.reduceEq, Int.reduceLE, Int.reducePow, Int.reduceNeg, Int.reduceMul, Int.reduceAdd, Int.reduceSub, Int.reduceToNat, if_true, if_false, cond_true, cond_false, decide_true, decide_false, Bool.and_true, Bool.true_and, Bool.and_false, Bool.false_and, Bool.or_true, Bool.true_or, Bool.or_false, Bool.false_or, Bool.not_true, Bool.not_false, Bool.false_eq_true, Option.some.injEq, and_true, true_and, and_self, t_non, t_bl, t_int, t_str, t_lst, t_tup, t_dct, isiB, tyNs, List.contains_cons, List.contains_nil, String.reduceBEq, Bool.or_self, Bool.and_self, beq_self_eq_true, nc0, nc1, nc2, nc3, nc4, nc5, nc6, nc7, nc8, nc9, nc10, nc11, nc12, e_at0, e_at1, e_at2, e_at3, e_at4, e_at5, e_at6, e_at7, e_at8, e_at9, e_at10, e_at11, e_atm1, e_atm2, e_atm3, e_atm4, e_atm5, e_condB, e_condS, e_condQ, e_condF, e_condT, e_condO, e_cc, e_condBl, e_condAA, c_F, c_T, c_nF, c_nT, in_words, hw]
    rfl
  · have e2 : (t == "str") = false := by simpa using e
    simp (config := { decide := true }) only [e_ok, e_ex, e_bad, e_sok, e_sex, e_sbad, e_var0, e_varS, e_varB0, e_varB1, e_varBS, e_c, e_nil, e_cons, e_op, e_some, e_none, e_cb, e_tup, e_lstF, e_val, e_bOf, e_iOf, e_andT, e_orT, e_notT, e_and, e_or, e_not, e_if, e_chain, e_neg, e_dct0, e_isi2, e_noP, e_pt, e_sl, e_P1, e_slL, e_slT, e_rev, e_call, e_callK, e_lstV, e_new, e_vLst, e_vCat, e_vSl, e_vList, e_vRep, e_lcV, e_compK, e_forK, e_iSq, e_iEn, e_iRg, e_vsqL, e_vsqT, e_iZp, e_catLL, e_catTT, e_aI0, e_aI, e_seqL, e_seqT, e_ixL, e_ixT, e_lenL, e_lenT, e_isi, e_max, e_min, e_tupL, e_tupT, e_intI, e_intB, e_listL, e_listT, e_all, e_any, e_sum, e_all, e_eqII, e_eqSS, e_next, e_seq, e_snx, e_srt, e_sbk, e_sct, e_sxx, e_sbd, e_drop, e_ret, e_retN, e_qif, e_break, e_cont, e_asg, e_asgT, e_ownV, e_app, e_par, e_raise, e_for, e_try, e_txx, e_tnx, e_trt, e_hrt, e_body, e_fnx, e_frt, e_fex, e_start0, e_startS, e_rep0, e_repS, List.append_nil, List.nil_append, List.set_cons_zero, List.set_cons_succ, List.length_cons, List.length_nil, List.length_map, List.length_range, Nat.reduceAdd, Nat.reduceLeDiff, Nat.reduceLT, Int.reduceLT, Int.reduceEq, Int.reduceLE, Int.reducePow, Int.reduceNeg, Int.reduceMul, Int.reduceAdd, Int.reduceSub, Int.reduceToNat, if_true, if_false, cond_true, cond_false, decide_true, decide_false, Bool.and_true, Bool.true_and, Bool.and_false, Bool.false_and, Bool.or_true, Bool.true_or, Bool.or_false, Bool.false_or, Bool.not_true, Bool.not_false, Bool.false_eq_true, Option.some.injEq, and_true, true_and, and_self, t_non, t_bl, t_int, t_str, t_lst, t_tup, t_dct, isiB, tyNs, List.contains_cons, List.contains_nil, String.reduceBEq, Bool.or_self, Bool.and_self, beq_self_eq_true, nc0, nc1, nc2, nc3, nc4, nc5, nc6, nc7, nc8, nc9, nc10, nc11, nc12, e_at0, e_at1, e_at2, e_at3, e_at4, e_at5, e_at6, e_at7, e_at8, e_at9, e_at10, e_at11, e_atm1, e_atm2, e_atm3, e_atm4, e_atm5, e_condB, e_condS, e_condQ, e_condF, e_condT, e_condO, e_cc, e_condBl, e_condAA, c_F, c_T, c_nF, c_nT, h, e2]
    rfl
theorem f_rx_width {w : Str} {v ws to at_ : A} {t : String} (iw : inV (.str w) wordsV = true) (h : tyA m v = some t) (bad : wholeA v 1 8 = false) : p_reckoned [.str w, v, ws, to, at_] m = .ex ⟨"NoWidth", [("found", v)]⟩ m := by
  unfold p_reckoned q_reckoned
  simp (config := { decide := true }) only [e_ok, e_ex, e_bad, e_sok, e_sex, e_sbad, e_var0, e_varS, e_varB0, e_varB1, e_varBS, e_c, e_nil, e_cons, e_op, e_some, e_none, e_cb, e_tup, e_lstF, e_val, e_bOf, e_iOf, e_andT, e_orT, e_notT, e_and, e_or, e_not, e_if, e_chain, e_neg, e_dct0, e_isi2, e_noP, e_pt, e_sl, e_P1, e_slL, e_slT, e_rev, e_call, e_callK, e_lstV, e_new, e_vLst, e_vCat, e_vSl, e_vList, e_vRep, e_lcV, e_compK, e_forK, e_iSq, e_iEn, e_iRg, e_vsqL, e_vsqT, e_iZp, e_catLL, e_catTT, e_aI0, e_aI, e_seqL, e_seqT, e_ixL, e_ixT, e_lenL, e_lenT, e_isi, e_max, e_min, e_tupL, e_tupT, e_intI, e_intB, e_listL, e_listT, e_all, e_any, e_sum, e_all, e_eqII, e_eqSS, e_next, e_seq, e_snx, e_srt, e_sbk, e_sct, e_sxx, e_sbd, e_drop, e_ret, e_retN, e_qif, e_break, e_cont, e_asg, e_asgT, e_ownV, e_app, e_par, e_raise, e_for, e_try, e_txx, e_tnx, e_trt, e_hrt, e_body, e_fnx, e_frt, e_fex, e_start0, e_startS, e_rep0, e_repS, List.append_nil, List.nil_append, List.set_cons_zero, List.set_cons_succ, List.length_cons, List.length_nil, List.length_map, List.length_range, Nat.reduceAdd, Nat.reduceLeDiff, Nat.reduceLT, Int.reduceLT, Int.reduceEq, Int.reduceLE, Int.reducePow, Int.reduceNeg, Int.reduceMul, Int.reduceAdd, Int.reduceSub, Int.reduceToNat, if_true, if_false, cond_true, cond_false, decide_true, decide_false, Bool.and_true, Bool.true_and, Bool.and_false, Bool.false_and, Bool.or_true, Bool.true_or, Bool.or_false, Bool.false_or, Bool.not_true, Bool.not_false, Bool.false_eq_true, Option.some.injEq, and_true, true_and, and_self, t_non, t_bl, t_int, t_str, t_lst, t_tup, t_dct, isiB, tyNs, List.contains_cons, List.contains_nil, String.reduceBEq, Bool.or_self, Bool.and_self, beq_self_eq_true, nc0, nc1, nc2, nc3, nc4, nc5, nc6, nc7, nc8, nc9, nc10, nc11, nc12, e_at0, e_at1, e_at2, e_at3, e_at4, e_at5, e_at6, e_at7, e_at8, e_at9, e_at10, e_at11, e_atm1, e_atm2, e_atm3, e_atm4, e_atm5, e_condB, e_condS, e_condQ, e_condF, e_condT, e_condO, e_cc, e_condBl, e_condAA, c_F, c_T, c_nF, c_nT, in_words, iw, f_width h, bad]
  rfl
/-- what are no such worths -/
def BadW (m : AM) (x : A) (n many : Int) : Prop := ∃ t, tyA m x = some t ∧ ((isiB t "list" || isiB t "tuple") = false ∨ ((isiB t "list" || isiB t "tuple") = true ∧ ∃ w l ks, vsq m x = some (w, l, ks) ∧ l.length ≤ 1000 ∧ ((l.length : Int) ≠ many ∨ ((l.length : Int) = many ∧ (∀ d ∈ l, ∃ t, tyA m d = some t) ∧ (l.all fun d => wholeA d 0 (2 ^ n.toNat - 1)) = false))))
theorem f_rx_worths {w : Str} {n : Int} {x to at_ : A} {v : Bool} (h1 : 1 ≤ n) (h8 : n ≤ 8) (iw : inV (.str w) wordsV = true) (is : inV (.str w) singleV = v) (h : BadW m x n (if v then 1 else 2)) : p_reckoned [.str w, .int n, x, to, at_] m = .ex ⟨"NoWorths", [("found", x)]⟩ m := by
  unfold p_reckoned q_reckoned
  obtain ⟨t, ht, h⟩ := h
  have em : (bif v then A.int 1 else A.int 2) = .int (if v then 1 else 2) := by cases v <;> rfl
  generalize (if v then (1 : Int) else 2) = k at em h
  rcases h with h | ⟨h0, w', l, ks, hv, hl, h⟩
  · simp only [isiB, String.reduceBEq, Bool.and_false, Bool.or_false] at h
    simp (config := { decide := true }) only [e_ok, e_ex, e_bad, e_sok, e_sex, e_sbad, e_var0, e_varS, e_varB0, e_varB1, e_varBS, e_c, e_nil, e_cons, e_op, e_some, e_none, e_cb, e_tup, e_lstF, e_val, e_bOf, e_iOf, e_andT, e_orT, e_notT, e_and, e_or, e_not, e_if, e_chain, e_neg, e_dct0, e_isi2, e_noP, e_pt, e_sl, e_P1, e_slL, e_slT, e_rev, e_call, e_callK, e_lstV, e_new, e_vLst, e_vCat, e_vSl, e_vList, e_vRep, e_lcV, e_compK, e_forK, e_iSq, e_iEn, e_iRg, e_vsqL, e_vsqT, e_iZp, e_catLL, e_catTT, e_aI0, e_aI, e_seqL, e_seqT, e_ixL, e_ixT, e_lenL, e_lenT, e_isi, e_max, e_min, e_tupL, e_tupT, e_intI, e_intB, e_listL, e_listT, e_all, e_any, e_sum, e_all, e_eqII, e_eqSS, e_next, e_seq, e_snx, e_srt, e_sbk, e_sct, e_sxx, e_sbd, e_drop, e_ret, e_retN, e_qif, e_break, e_cont, e_asg, e_asgT, e_ownV, e_app, e_par, e_raise, e_for, e_try, e_txx, e_tnx, e_trt, e_hrt, e_body, e_fnx, e_frt, e_fex, e_start0, e_startS, e_rep0, e_repS, List.append_nil, List.nil_append, List.set_cons_zero, List.set_cons_succ, List.length_cons, List.length_nil, List.length_map, List.length_range, Nat.reduceAdd, Nat.reduceLeDiff, Nat.reduceLT, Int.reduceLT, Int.reduceEq, Int.reduceLE, Int.reducePow, Int.reduceNeg, Int.reduceMul, Int.reduceAdd, Int.reduceSub, Int.reduceToNat, if_true, if_false, cond_true, cond_false, decide_true, decide_false, Bool.and_true, Bool.true_and, Bool.and_false, Bool.false_and, Bool.or_true, Bool.true_or, Bool.or_false, Bool.false_or, Bool.not_true, Bool.not_false, Bool.false_eq_true, Option.some.injEq, and_true, true_and, and_self, t_non, t_bl, t_int, t_str, t_lst, t_tup, t_dct, isiB, tyNs, List.contains_cons, List.contains_nil, String.reduceBEq, Bool.or_self, Bool.and_self, beq_self_eq_true, nc0, nc1, nc2, nc3, nc4, nc5, nc6, nc7, nc8, nc9, nc10, nc11, nc12, e_at0, e_at1, e_at2, e_at3, e_at4, e_at5, e_at6, e_at7, e_at8, e_at9, e_at10, e_at11, e_atm1, e_atm2, e_atm3, e_atm4, e_atm5, e_condB, e_condS, e_condQ, e_condF, e_condT, e_condO, e_cc, e_condBl, e_condAA, c_F, c_T, c_nF, c_nT, in_words, in_single, iw, is, f_width (t_int (m := m)), w8 h1 h8, ht, h, em]
    rfl
  · have hl2 : l.length < 1000000 := by omega
    obtain ⟨hi, h⟩ : (isiB t "list" || isiB t "tuple") = true ∧ _ := ⟨h0, h⟩
    simp only [isiB, String.reduceBEq, Bool.and_false, Bool.or_false] at hi
    rcases h with hc | ⟨hc, hty, hal⟩
    · simp (config := { decide := true }) only [e_ok, e_ex, e_bad, e_sok, e_sex, e_sbad, e_var0, e_varS, e_varB0, e_varB1, e_varBS, e_c, e_nil, e_cons, e_op, e_some, e_none, e_cb, e_tup, e_lstF, e_val, e_bOf, e_iOf, e_andT, e_orT, e_notT, e_and, e_or, e_not, e_if, e_chain, e_neg, e_dct0, e_isi2, e_noP, e_pt, e_sl, e_P1, e_slL, e_slT, e_rev, e_call, e_callK, e_lstV, e_new, e_vLst, e_vCat, e_vSl, e_vList, e_vRep, e_lcV, e_compK, e_forK, e_iSq, e_iEn, e_iRg, e_vsqL, e_vsqT, e_iZp, e_catLL, e_catTT, e_aI0, e_aI, e_seqL, e_seqT, e_ixL, e_ixT, e_lenL, e_lenT, e_isi, e_max, e_min, e_tupL, e_tupT, e_intI, e_intB, e_listL, e_listT, e_all, e_any, e_sum, e_all, e_eqII, e_eqSS, e_next, e_seq, e_snx, e_srt, e_sbk, e_sct, e_sxx, e_sbd, e_drop, e_ret, e_retN, e_qif, e_break, e_cont, e_asg, e_asgT, e_ownV, e_app, e_par, e_raise, e_for, e_try, e_txx, e_tnx, e_trt, e_hrt, e_body, e_fnx, e_frt, e_fex, e_start0, e_startS, e_rep0, e_repS, List.append_nil, List.nil_append, List.set_cons_zero, List.set_cons_succ, List.length_cons, List.length_nil, List.length_map, List.length_range, Nat.reduceAdd, Nat.reduceLeDiff, Nat.reduceLT, Int.reduceLT, Int.reduceEq, Int.reduceLE, Int.reducePow, Int.reduceNeg, Int.reduceMul, Int.reduceAdd, Int.reduceSub, Int.reduceToNat, if_true, if_false, cond_true, cond_false, decide_true, decide_false, Bool.and_true, Bool.true_and, Bool.and_false, Bool.false_and, Bool.or_true, Bool.true_or, Bool.or_false, Bool.false_or, Bool.not_true, Bool.not_false, Bool.false_eq_true, Option.some.injEq, and_true, true_and, and_self, t_non, t_bl, t_int, t_str, t_lst, t_tup, t_dct, isiB, tyNs, List.contains_cons, List.contains_nil, String.reduceBEq, Bool.or_self, Bool.and_self, beq_self_eq_true, nc0, nc1, nc2, nc3, nc4, nc5, nc6, nc7, nc8, nc9, nc10, nc11, nc12, e_at0, e_at1, e_at2, e_at3, e_at4, e_at5, e_at6, e_at7, e_at8, e_at9, e_at10, e_at11, e_atm1, e_atm2, e_atm3, e_atm4, e_atm5, e_condB, e_condS, e_condQ, e_condF, e_condT, e_condO, e_cc, e_condBl, e_condAA, c_F, c_T, c_nF, c_nT, in_words, in_single, iw, is, f_width (t_int (m := m)), w8 h1 h8, ht, hi, em, len_vsq hv, hc]
      rfl
    · simp (config := { decide := true }) only [e_ok, e_ex, e_bad, e_sok, e_sex, e_sbad, e_var0, e_varS, e_varB0, e_varB1, e_varBS, e_c, e_nil, e_cons, e_op, e_some, e_none, e_cb, e_tup, e_lstF, e_val, e_bOf, e_iOf, e_andT, e_orT, e_notT, e_and, e_or, e_not, e_if, e_chain, e_neg, e_dct0, e_isi2, e_noP, e_pt, e_sl, e_P1, e_slL, e_slT, e_rev, e_call, e_callK, e_lstV, e_new, e_vLst, e_vCat, e_vSl, e_vList, e_vRep, e_lcV, e_compK, e_forK, e_iSq, e_iEn, e_iRg, e_vsqL, e_vsqT, e_iZp, e_catLL, e_catTT, e_aI0, e_aI, e_seqL, e_seqT, e_ixL, e_ixT, e_lenL, e_lenT, e_isi, e_max, e_min, e_tupL, e_tupT, e_intI, e_intB, e_listL, e_listT, e_all, e_any, e_sum, e_all, e_eqII, e_eqSS, e_next, e_seq, e_snx, e_srt, e_sbk, e_sct, e_sxx, e_sbd, e_drop, e_ret, e_retN, e_qif, e_break, e_cont, e_asg, e_asgT, e_ownV, e_app, e_par, e_raise, e_for, e_try, e_txx, e_tnx, e_trt, e_hrt, e_body, e_fnx, e_frt, e_fex, e_start0, e_startS, e_rep0, e_repS, List.append_nil, List.nil_append, List.set_cons_zero, List.set_cons_succ, List.length_cons, List.length_nil, List.length_map, List.length_range, Nat.reduceAdd, Nat.reduceLeDiff, Nat.reduceLT, Int.reduceLT, Int.reduceEq, Int.reduceLE, Int.reducePow, Int.reduceNeg, Int.reduceMul, Int.reduceAdd, Int.reduceSub, Int.reduceToNat, if_true, if_false, cond_true, cond_false, decide_true, decide_false, Bool.and_true, Bool.true_and, Bool.and_false, Bool.false_and, Bool.or_true, Bool.true_or, Bool.or_false, Bool.false_or, Bool.not_true, Bool.not_false, Bool.false_eq_true, Option.some.injEq, and_true, true_and, and_self, t_non, t_bl, t_int, t_str, t_lst, t_tup, t_dct, isiB, tyNs, List.contains_cons, List.contains_nil, String.reduceBEq, Bool.or_self, Bool.and_self, beq_self_eq_true, nc0, nc1, nc2, nc3, nc4, nc5, nc6, nc7, nc8, nc9, nc10, nc11, nc12, e_at0, e_at1, e_at2, e_at3, e_at4, e_at5, e_at6, e_at7, e_at8, e_at9, e_at10, e_at11, e_atm1, e_atm2, e_atm3, e_atm4, e_atm5, e_condB, e_condS, e_condQ, e_condF, e_condT, e_condO, e_cc, e_condBl, e_condAA, c_F, c_T, c_nF, c_nT, in_words, in_single, iw, is, f_width (t_int (m := m)), w8 h1 h8, ht, hi, em, len_vsq hv, hc, hv, hl2, wipeA]
      rw [compK_pure (vsq_seq hv).2 (v := fun d => .bl (wholeA d 0 (2 ^ n.toNat - 1))) fun d hd => ?_]
      · simp (config := { decide := true }) only [e_ok, e_ex, e_bad, e_sok, e_sex, e_sbad, e_var0, e_varS, e_varB0, e_varB1, e_varBS, e_c, e_nil, e_cons, e_op, e_some, e_none, e_cb, e_tup, e_lstF, e_val, e_bOf, e_iOf, e_andT, e_orT, e_notT, e_and, e_or, e_not, e_if, e_chain, e_neg, e_dct0, e_isi2, e_noP, e_pt, e_sl, e_P1, e_slL, e_slT, e_rev, e_call, e_callK, e_lstV, e_new, e_vLst, e_vCat, e_vSl, e_vList, e_vRep, e_lcV, e_compK, e_forK, e_iSq, e_iEn, e_iRg, e_vsqL, e_vsqT, e_iZp, e_catLL, e_catTT, e_aI0, e_aI, e_seqL, e_seqT, e_ixL, e_ixT, e_lenL, e_lenT, e_isi, e_max, e_min, e_tupL, e_tupT, e_intI, e_intB, e_listL, e_listT, e_all, e_any, e_sum, e_all, e_eqII, e_eqSS, e_next, e_seq, e_snx, e_srt, e_sbk, e_sct, e_sxx, e_sbd, e_drop, e_ret, e_retN, e_qif, e_break, e_cont, e_asg, e_asgT, e_ownV, e_app, e_par, e_raise, e_for, e_try, e_txx, e_tnx, e_trt, e_hrt, e_body, e_fnx, e_frt, e_fex, e_start0, e_startS, e_rep0, e_repS, List.append_nil, List.nil_append, List.set_cons_zero, List.set_cons_succ, List.length_cons, List.length_nil, List.length_map, List.length_range, Nat.reduceAdd, Nat.reduceLeDiff, Nat.reduceLT, Int.reduceLT, Int.reduceEq, Int.reduceLE, Int.reducePow, Int.reduceNeg, Int.reduceMul, Int.reduceAdd, Int.reduceSub, Int.reduceToNat, if_true, if_false, cond_true, cond_false, decide_true, decide_false, Bool.and_true, Bool.true_and, Bool.and_false, Bool.false_and, Bool.or_true, Bool.true_or, Bool.or_false, Bool.false_or, Bool.not_true, Bool.not_false, Bool.false_eq_true, Option.some.injEq, and_true, true_and, and_self, t_non, t_bl, t_int, t_str, t_lst, t_tup, t_dct, isiB, tyNs, List.contains_cons, List.contains_nil, String.reduceBEq, Bool.or_self, Bool.and_self, beq_self_eq_true, nc0, nc1, nc2, nc3, nc4, nc5, nc6, nc7, nc8, nc9, nc10, nc11, nc12, e_at0, e_at1, e_at2, e_at3, e_at4, e_at5, e_at6, e_at7, e_at8, e_at9, e_at10, e_at11, e_atm1, e_atm2, e_atm3, e_atm4, e_atm5, e_condB, e_condS, e_condQ, e_condF, e_condT, e_condO, e_cc, e_condBl, e_condAA, c_F, c_T, c_nF, c_nT, e_all', hal]
        rfl
      · obtain ⟨t', ht'⟩ := hty d hd
        refine ⟨_, rfl, ?_⟩
        simp only [e_ok, e_ex, e_bad, e_sok, e_sex, e_sbad, e_var0, e_varS, e_varB0, e_varB1, e_varBS, e_c, e_nil, e_cons, e_op, e_some, e_none, e_cb, e_tup, e_lstF, e_val, e_bOf, e_iOf, e_andT, e_orT, e_notT, e_and, e_or, e_not, e_if, e_chain, e_neg, e_dct0, e_isi2, e_noP, e_pt, e_sl, e_P1, e_slL, e_slT, e_rev, e_call, e_callK, e_lstV, e_new, e_vLst, e_vCat, e_vSl, e_vList, e_vRep, e_lcV, e_compK, e_forK, e_iSq, e_iEn, e_iRg, e_vsqL, e_vsqT, e_iZp, e_catLL, e_catTT, e_aI0, e_aI, e_seqL, e_seqT, e_ixL, e_ixT, e_lenL, e_lenT, e_isi, e_max, e_min, e_tupL, e_tupT, e_intI, e_intB, e_listL, e_listT, e_all, e_any, e_sum, e_all, e_eqII, e_eqSS, e_next, e_seq, e_snx, e_srt, e_sbk, e_sct, e_sxx, e_sbd, e_drop, e_ret, e_retN, e_qif, e_break, e_cont, e_asg, e_asgT, e_ownV, e_app, e_par, e_raise, e_for, e_try, e_txx, e_tnx, e_trt, e_hrt, e_body, e_fnx, e_frt, e_fex, e_start0, e_startS, e_rep0, e_repS, List.append_nil, List.nil_append, List.set_cons_zero, List.set_cons_succ, List.length_cons, List.length_nil, List.length_map, List.length_range, Nat.reduceAdd, Nat.reduceLeDiff, Nat.reduceLT, Int.reduceLT, Int.reduceEq, Int.reduceLE, Int.reducePow, Int.reduceNeg, Int.reduceMul, Int.reduceAdd, Int.reduceSub, Int.reduceToNat, if_true, if_false, cond_true, cond_false, decide_true, decide_false, Bool.and_true, Bool.true_and, Bool.and_false, Bool.false_and, Bool.or_true, Bool.true_or, Bool.or_false, Bool.false_or, Bool.not_true, Bool.not_false, Bool.false_eq_true, Option.some.injEq, and_true, true_and, and_self, t_non, t_bl, t_int, t_str, t_lst, t_tup, t_dct, isiB, tyNs, List.contains_cons, List.contains_nil, String.reduceBEq, Bool.or_self, Bool.and_self, beq_self_eq_true, nc0, nc1, nc2, nc3, nc4, nc5, nc6, nc7, nc8, nc9, nc10, nc11, nc12, e_at0, e_at1, e_at2, e_at3, e_at4, e_at5, e_at6, e_at7, e_at8, e_at9, e_at10, e_at11, e_atm1, e_atm2, e_atm3, e_atm4, e_atm5, f_worth h1 h8 ht']
theorem f_rx_more {w : Str} {n a : Int} {ws to at_ : A} {t' : String} (h1 : 1 ≤ n) (h8 : n ≤ 8) (hs : ws = .lst [.int a]) (a0 : 0 ≤ a) (a1 : a < 2 ^ n.toNat) {cl : Str} {x : A}
    (hw : (w = "wide" ∧ tyA m to = some t' ∧ wholeA to 1 8 = false ∧ cl = "NoWidth" ∧ x = to) ∨ (w = "bit" ∧ tyA m at_ = some t' ∧ wholeA at_ 0 (n - 1) = false ∧ cl = "NoNumber" ∧ x = at_)) : p_reckoned [.str w, .int n, ws, to, at_] m = .ex ⟨cl, [("found", x)]⟩ m := by
  unfold p_reckoned q_reckoned
  have eA : wholeA (.int a) 0 (2 ^ n.toNat - 1) = true := by
    simp only [wholeA, Bool.and_eq_true, decide_eq_true_eq]
    omega
  have iw : inV (.str w) wordsV = true := by rcases hw with ⟨rfl, _⟩ | ⟨rfl, _⟩ <;> decide
  have is : inV (.str w) singleV = true := by rcases hw with ⟨rfl, _⟩ | ⟨rfl, _⟩ <;> decide
  have key : ∀ {env : AEnv} {φe : FE}, φe (env.set 6 (.val (.int a))) m = .ok (.bl true) m → compA (tNm 6) env pYes φe [.int a] m = .ok ([true].map A.bl) m := fun {env φe} he => by
    rw [compA_pure (v := fun _ => .bl true) fun d hd => ?_]
    · rfl
    · rw [List.mem_singleton.mp hd]
      exact ⟨_, rfl, he⟩
  subst hs
  rcases hw with ⟨rfl, ht, hb, rfl, rfl⟩ | ⟨rfl, ht, hb, rfl, rfl⟩
  · simp (config := { decide := true }) only [e_ok, e_ex, e_bad, e_sok, e_sex, e_sbad, e_var0, e_varS, e_varB0, e_varB1, e_varBS, e_c, e_nil, e_cons, e_op, e_some, e_none, e_cb, e_tup, e_lstF, e_val, e_bOf, e_iOf, e_andT, e_orT, e_notT, e_and, e_or, e_not, e_if, e_chain, e_neg, e_dct0, e_isi2, e_noP, e_pt, e_sl, e_P1, e_slL, e_slT, e_rev, e_call, e_callK, e_lstV, e_new, e_vLst, e_vCat, e_vSl, e_vList, e_vRep, e_lcV, e_compK, e_forK, e_iSq, e_iEn, e_iRg, e_vsqL, e_vsqT, e_iZp, e_catLL, e_catTT, e_aI0, e_aI, e_seqL, e_seqT, e_ixL, e_ixT, e_lenL, e_lenT, e_isi, e_max, e_min, e_tupL, e_tupT, e_intI, e_intB, e_listL, e_listT, e_all, e_any, e_sum, e_all, e_eqII, e_eqSS, e_next, e_seq, e_snx, e_srt, e_sbk, e_sct, e_sxx, e_sbd, e_drop, e_ret, e_retN, e_qif, e_break, e_cont, e_asg, e_asgT, e_ownV, e_app, e_par, e_raise, e_for, e_try, e_txx, e_tnx, e_trt, e_hrt, e_body, e_fnx, e_frt, e_fex, e_start0, e_startS, e_rep0, e_repS, List.append_nil, List.nil_append, List.set_cons_zero, List.set_cons_succ, List.length_cons, List.length_nil, List.length_map, List.length_range, Nat.reduceAdd, Nat.reduceLeDiff, Nat.reduceLT, Int.reduceLT, Int.reduceEq, Int.reduceLE, Int.reducePow, Int.reduceNeg, Int.reduceMul, Int.reduceAdd, Int.reduceSub, Int.reduceToNat, if_true, if_false, cond_true, cond_false, decide_true, decide_false, Bool.and_true, Bool.true_and, Bool.and_false, Bool.false_and, Bool.or_true, Bool.true_or, Bool.or_false, Bool.false_or, Bool.not_true, Bool.not_false, Bool.false_eq_true, Option.some.injEq, and_true, true_and, and_self, t_non, t_bl, t_int, t_str, t_lst, t_tup, t_dct, isiB, tyNs, List.contains_cons, List.contains_nil, String.reduceBEq, Bool.or_self, Bool.and_self, beq_self_eq_true, nc0, nc1, nc2, nc3, nc4, nc5, nc6, nc7, nc8, nc9, nc10, nc11, nc12, e_at0, e_at1, e_at2, e_at3, e_at4, e_at5, e_at6, e_at7, e_at8, e_at9, e_at10, e_at11, e_atm1, e_atm2, e_atm3, e_atm4, e_atm5, e_condB, e_condS, e_condQ, e_condF, e_condT, e_condO, e_cc, e_condBl, e_condAA, c_F, c_T, c_nF, c_nT, in_words, in_single, iw, is, f_width (t_int (m := m)), w8 h1 h8, wipeA]
    rw [key (by simp only [e_ok, e_ex, e_bad, e_sok, e_sex, e_sbad, e_var0, e_varS, e_varB0, e_varB1, e_varBS, e_c, e_nil, e_cons, e_op, e_some, e_none, e_cb, e_tup, e_lstF, e_val, e_bOf, e_iOf, e_andT, e_orT, e_notT, e_and, e_or, e_not, e_if, e_chain, e_neg, e_dct0, e_isi2, e_noP, e_pt, e_sl, e_P1, e_slL, e_slT, e_rev, e_call, e_callK, e_lstV, e_new, e_vLst, e_vCat, e_vSl, e_vList, e_vRep, e_lcV, e_compK, e_forK, e_iSq, e_iEn, e_iRg, e_vsqL, e_vsqT, e_iZp, e_catLL, e_catTT, e_aI0, e_aI, e_seqL, e_seqT, e_ixL, e_ixT, e_lenL, e_lenT, e_isi, e_max, e_min, e_tupL, e_tupT, e_intI, e_intB, e_listL, e_listT, e_all, e_any, e_sum, e_all, e_eqII, e_eqSS, e_next, e_seq, e_snx, e_srt, e_sbk, e_sct, e_sxx, e_sbd, e_drop, e_ret, e_retN, e_qif, e_break, e_cont, e_asg, e_asgT, e_ownV, e_app, e_par, e_raise, e_for, e_try, e_txx, e_tnx, e_trt, e_hrt, e_body, e_fnx, e_frt, e_fex, e_start0, e_startS, e_rep0, e_repS, List.append_nil, List.nil_append, List.set_cons_zero, List.set_cons_succ, List.length_cons, List.length_nil, List.length_map, List.length_range, Nat.reduceAdd, Nat.reduceLeDiff, Nat.reduceLT, Int.reduceLT, Int.reduceEq, Int.reduceLE, Int.reducePow, Int.reduceNeg, Int.reduceMul, Int.reduceAdd, Int.reduceSub, Int.reduceToNat, if_true, if_false, cond_true, cond_false, decide_true, decide_false, Bool.and_true, Bool.true_and, Bool.and_false, Bool.false_and, Bool.or_true, Bool.true_or, Bool.or_false, Bool.false_or, Bool.not_true, Bool.not_false, Bool.false_eq_true, Option.some.injEq, and_true, true_and, and_self, t_non, t_bl, t_int, t_str, t_lst, t_tup, t_dct, isiB, tyNs, List.contains_cons, List.contains_nil, String.reduceBEq, Bool.or_self, Bool.and_self, beq_self_eq_true, nc0, nc1, nc2, nc3, nc4, nc5, nc6, nc7, nc8, nc9, nc10, nc11, nc12, e_at0, e_at1, e_at2, e_at3, e_at4, e_at5, e_at6, e_at7, e_at8, e_at9, e_at10, e_at11, e_atm1, e_atm2, e_atm3, e_atm4, e_atm5, f_worth h1 h8 t_int, eA])]
    simp (config := { decide := true }) only [e_ok, e_ex, e_bad, e_sok, e_sex, e_sbad, e_var0, e_varS, e_varB0, e_varB1, e_varBS, e_c, e_nil, e_cons, e_op, e_some, e_none, e_cb, e_tup, e_lstF, e_val, e_bOf, e_iOf, e_andT, e_orT, e_notT, e_and, e_or, e_not, e_if, e_chain, e_neg, e_dct0, e_isi2, e_noP, e_pt, e_sl, e_P1, e_slL, e_slT, e_rev, e_call, e_callK, e_lstV, e_new, e_vLst, e_vCat, e_vSl, e_vList, e_vRep, e_lcV, e_compK, e_forK, e_iSq, e_iEn, e_iRg, e_vsqL, e_vsqT, e_iZp, e_catLL, e_catTT, e_aI0, e_aI, e_seqL, e_seqT, e_ixL, e_ixT, e_lenL, e_lenT, e_isi, e_max, e_min, e_tupL, e_tupT, e_intI, e_intB, e_listL, e_listT, e_all, e_any, e_sum, e_all, e_eqII, e_eqSS, e_next, e_seq, e_snx, e_srt, e_sbk, e_sct, e_sxx, e_sbd, e_drop, e_ret, e_retN, e_qif, e_break, e_cont, e_asg, e_asgT, e_ownV, e_app, e_par, e_raise, e_for, e_try, e_txx, e_tnx, e_trt, e_hrt, e_body, e_fnx, e_frt, e_fex, e_start0, e_startS, e_rep0, e_repS, List.append_nil, List.nil_append, List.set_cons_zero, List.set_cons_succ, List.length_cons, List.length_nil, List.length_map, List.length_range, Nat.reduceAdd, Nat.reduceLeDiff, Nat.reduceLT, Int.reduceLT, Int.reduceEq, Int.reduceLE, Int.reducePow, Int.reduceNeg, Int.reduceMul, Int.reduceAdd, Int.reduceSub, Int.reduceToNat, if_true, if_false, cond_true, cond_false, decide_true, decide_false, Bool.and_true, Bool.true_and, Bool.and_false, Bool.false_and, Bool.or_true, Bool.true_or, Bool.or_false, Bool.false_or, Bool.not_true, Bool.not_false, Bool.false_eq_true, Option.some.injEq, and_true, true_and, and_self, t_non, t_bl, t_int, t_str, t_lst, t_tup, t_dct, isiB, tyNs, List.contains_cons, List.contains_nil, String.reduceBEq, Bool.or_self, Bool.and_self, beq_self_eq_true, nc0, nc1, nc2, nc3, nc4, nc5, nc6, nc7, nc8, nc9, nc10, nc11, nc12, e_at0, e_at1, e_at2, e_at3, e_at4, e_at5, e_at6, e_at7, e_at8, e_at9, e_at10, e_at11, e_atm1, e_atm2, e_atm3, e_atm4, e_atm5, e_condB, e_condS, e_condQ, e_condF, e_condT, e_condO, e_cc, e_condBl, e_condAA, c_F, c_T, c_nF, c_nT, e_all, List.all_cons, List.all_nil, id, f_width ht, hb]
    rfl
  · simp (config := { decide := true }) only [e_ok, e_ex, e_bad, e_sok, e_sex, e_sbad, e_var0, e_varS, e_varB0, e_varB1, e_varBS, e_c, e_nil, e_cons, e_op, e_some, e_none, e_cb, e_tup, e_lstF, e_val, e_bOf, e_iOf, e_andT, e_orT, e_notT, e_and, e_or, e_not, e_if, e_chain, e_neg, e_dct0, e_isi2, e_noP, e_pt, e_sl, e_P1, e_slL, e_slT, e_rev, e_call, e_callK, e_lstV, e_new, e_vLst, e_vCat, e_vSl, e_vList, e_vRep, e_lcV, e_compK, e_forK, e_iSq, e_iEn, e_iRg, e_vsqL, e_vsqT, e_iZp, e_catLL, e_catTT, e_aI0, e_aI, e_seqL, e_seqT, e_ixL, e_ixT, e_lenL, e_lenT, e_isi, e_max, e_min, e_tupL, e_tupT, e_intI, e_intB, e_listL, e_listT, e_all, e_any, e_sum, e_all, e_eqII, e_eqSS, e_next, e_seq, e_snx, e_srt, e_sbk, e_sct, e_sxx, e_sbd, e_drop, e_ret, e_retN, e_qif, e_break, e_cont, e_asg, e_asgT, e_ownV, e_app, e_par, e_raise, e_for, e_try, e_txx, e_tnx, e_trt, e_hrt, e_body, e_fnx, e_frt, e_fex, e_start0, e_startS, e_rep0, e_repS, List.append_nil, List.nil_append, List.set_cons_zero, List.set_cons_succ, List.length_cons, List.length_nil, List.length_map, List.length_range, Nat.reduceAdd, Nat.reduceLeDiff, Nat.reduceLT, Int.reduceLT, Int.reduceEq, Int.reduceLE, Int.reducePow, Int.reduceNeg, Int.reduceMul, Int.reduceAdd, Int.reduceSub, Int.reduceToNat, if_true, if_false, cond_true, cond_false, decide_true, decide_false, Bool.and_true, Bool.true_and, Bool.and_false, Bool.false_and, Bool.or_true, Bool.true_or, Bool.or_false, Bool.false_or, Bool.not_true, Bool.not_false, Bool.false_eq_true, Option.some.injEq, and_true, true_and, and_self, t_non, t_bl, t_int, t_str, t_lst, t_tup, t_dct, isiB, tyNs, List.contains_cons, List.contains_nil, String.reduceBEq, Bool.or_self, Bool.and_self, beq_self_eq_true, nc0, nc1, nc2, nc3, nc4, nc5, nc6, nc7, nc8, nc9, nc10, nc11, nc12, e_at0, e_at1, e_at2, e_at3, e_at4, e_at5, e_at6, e_at7, e_at8, e_at9, e_at10, e_at11, e_atm1, e_atm2, e_atm3, e_atm4, e_atm5, e_condB, e_condS, e_condQ, e_condF, e_condT, e_condO, e_cc, e_condBl, e_condAA, c_F, c_T, c_nF, c_nT, in_words, in_single, iw, is, f_width (t_int (m := m)), w8 h1 h8, wipeA]
    rw [key (by simp only [e_ok, e_ex, e_bad, e_sok, e_sex, e_sbad, e_var0, e_varS, e_varB0, e_varB1, e_varBS, e_c, e_nil, e_cons, e_op, e_some, e_none, e_cb, e_tup, e_lstF, e_val, e_bOf, e_iOf, e_andT, e_orT, e_notT, e_and, e_or, e_not, e_if, e_chain, e_neg, e_dct0, e_isi2, e_noP, e_pt, e_sl, e_P1, e_slL, e_slT, e_rev, e_call, e_callK, e_lstV, e_new, e_vLst, e_vCat, e_vSl, e_vList, e_vRep, e_lcV, e_compK, e_forK, e_iSq, e_iEn, e_iRg, e_vsqL, e_vsqT, e_iZp, e_catLL, e_catTT, e_aI0, e_aI, e_seqL, e_seqT, e_ixL, e_ixT, e_lenL, e_lenT, e_isi, e_max, e_min, e_tupL, e_tupT, e_intI, e_intB, e_listL, e_listT, e_all, e_any, e_sum, e_all, e_eqII, e_eqSS, e_next, e_seq, e_snx, e_srt, e_sbk, e_sct, e_sxx, e_sbd, e_drop, e_ret, e_retN, e_qif, e_break, e_cont, e_asg, e_asgT, e_ownV, e_app, e_par, e_raise, e_for, e_try, e_txx, e_tnx, e_trt, e_hrt, e_body, e_fnx, e_frt, e_fex, e_start0, e_startS, e_rep0, e_repS, List.append_nil, List.nil_append, List.set_cons_zero, List.set_cons_succ, List.length_cons, List.length_nil, List.length_map, List.length_range, Nat.reduceAdd, Nat.reduceLeDiff, Nat.reduceLT, Int.reduceLT, Int.reduceEq, Int.reduceLE, Int.reducePow, Int.reduceNeg, Int.reduceMul, Int.reduceAdd, Int.reduceSub, Int.reduceToNat, if_true, if_false, cond_true, cond_false, decide_true, decide_false, Bool.and_true, Bool.true_and, Bool.and_false, Bool.false_and, Bool.or_true, Bool.true_or, Bool.or_false, Bool.false_or, Bool.not_true, Bool.not_false, Bool.false_eq_true, Option.some.injEq, and_true, true_and, and_self, t_non, t_bl, t_int, t_str, t_lst, t_tup, t_dct, isiB, tyNs, List.contains_cons, List.contains_nil, String.reduceBEq, Bool.or_self, Bool.and_self, beq_self_eq_true, nc0, nc1, nc2, nc3, nc4, nc5, nc6, nc7, nc8, nc9, nc10, nc11, nc12, e_at0, e_at1, e_at2, e_at3, e_at4, e_at5, e_at6, e_at7, e_at8, e_at9, e_at10, e_at11, e_atm1, e_atm2, e_atm3, e_atm4, e_atm5, f_worth h1 h8 t_int, eA])]
    simp (config := { decide := true }) only [e_ok, e_ex, e_bad, e_sok, e_sex, e_sbad, e_var0, e_varS, e_varB0, e_varB1, e_varBS, e_c, e_nil, e_cons, e_op, e_some, e_none, e_cb, e_tup, e_lstF, e_val, e_bOf, e_iOf, e_andT, e_orT, e_notT, e_and, e_or, e_not, e_if, e_chain, e_neg, e_dct0, e_isi2, e_noP, e_pt, e_sl, e_P1, e_slL, e_slT, e_rev, e_call, e_callK, e_lstV, e_new, e_vLst, e_vCat, e_vSl, e_vList, e_vRep, e_lcV, e_compK, e_forK, e_iSq, e_iEn, e_iRg, e_vsqL, e_vsqT, e_iZp, e_catLL, e_catTT, e_aI0, e_aI, e_seqL, e_seqT, e_ixL, e_ixT, e_lenL, e_lenT, e_isi, e_max, e_min, e_tupL, e_tupT, e_intI, e_intB, e_listL, e_listT, e_all, e_any, e_sum, e_all, e_eqII, e_eqSS, e_next, e_seq, e_snx, e_srt, e_sbk, e_sct, e_sxx, e_sbd, e_drop, e_ret, e_retN, e_qif, e_break, e_cont, e_asg, e_asgT, e_ownV, e_app, e_par, e_raise, e_for, e_try, e_txx, e_tnx, e_trt, e_hrt, e_body, e_fnx, e_frt, e_fex, e_start0, e_startS, e_rep0, e_repS, List.append_nil, List.nil_append, List.set_cons_zero, List.set_cons_succ, List.length_cons, List.length_nil, List.length_map, List.length_range, Nat.reduceAdd, Nat.reduceLeDiff, Nat.reduceLT, Int.reduceLT, Int.reduceEq, Int.reduceLE, Int.reducePow, Int.reduceNeg, Int.reduceMul, Int.reduceAdd, Int.reduceSub, Int.reduceToNat, if_true, if_false, cond_true, cond_false, decide_true, decide_false, Bool.and_true, Bool.true_and, Bool.and_false, Bool.false_and, Bool.or_true, Bool.true_or, Bool.or_false, Bool.false_or, Bool.not_true, Bool.not_false, Bool.false_eq_true, Option.some.injEq, and_true, true_and, and_self, t_non, t_bl, t_int, t_str, t_lst, t_tup, t_dct, isiB, tyNs, List.contains_cons, List.contains_nil, String.reduceBEq, Bool.or_self, Bool.and_self, beq_self_eq_true, nc0, nc1, nc2, nc3, nc4, nc5, nc6, nc7, nc8, nc9, nc10, nc11, nc12, e_at0, e_at1, e_at2, e_at3, e_at4, e_at5, e_at6, e_at7, e_at8, e_at9, e_at10, e_at11, e_atm1, e_atm2, e_atm3, e_atm4, e_atm5, e_condB, e_condS, e_condQ, e_condF, e_condT, e_condO, e_cc, e_condBl, e_condAA, c_F, c_T, c_nF, c_nT, e_all, List.all_cons, List.all_nil, id, f_whole ht, hb]
    rfl
/-! asked -/
/-- how an asking ends -/
inductive Asks (m : AM) (w v ws to at_ : A) : A → Prop
  | told {r : Int} (h : p_reckoned [w, v, ws, to, at_] m = .ok (.int r) m) : Asks m w v ws to at_ (.lst [.str "told", .int r])
  | op {x : A} (h : p_reckoned [w, v, ws, to, at_] m = .ex ⟨"NoOp", [("found", x)]⟩ m) : Asks m w v ws to at_ (.lst [.str "op", x])
  | width {x : A} (h : p_reckoned [w, v, ws, to, at_] m = .ex ⟨"NoWidth", [("found", x)]⟩ m) : Asks m w v ws to at_ (.lst [.str "width", x])
  | worths {x : A} (h : p_reckoned [w, v, ws, to, at_] m = .ex ⟨"NoWorths", [("found", x)]⟩ m) : Asks m w v ws to at_ (.lst [.str "worths", x])
  | number {x : A} (h : p_reckoned [w, v, ws, to, at_] m = .ex ⟨"NoNumber", [("found", x)]⟩ m) : Asks m w v ws to at_ (.lst [.str "number", x])
theorem f_asked2 {w v ws to at_ d : A} (h : Asks m w v ws to at_ d) : p__law_asked [w, v, ws, .tup [to, at_]] m = .ok d m := by
  unfold p__law_asked q__law_asked
  have hp : ∀ to' at' : A, pickG [0, 1, 2, 4, 3] [] [w, v, ws] [to', at'] = [w, v, ws, at', to'] := fun _ _ => rfl
  cases h with
  | told h => simp only [e_ok, e_ex, e_bad, e_sok, e_sex, e_sbad, e_var0, e_varS, e_varB0, e_varB1, e_varBS, e_c, e_nil, e_cons, e_op, e_some, e_none, e_cb, e_tup, e_lstF, e_val, e_bOf, e_iOf, e_andT, e_orT, e_notT, e_and, e_or, e_not, e_if, e_chain, e_neg, e_dct0, e_isi2, e_noP, e_pt, e_sl, e_P1, e_slL, e_slT, e_rev, e_call, e_callK, e_lstV, e_new, e_vLst, e_vCat, e_vSl, e_vList, e_vRep, e_lcV, e_compK, e_forK, e_iSq, e_iEn, e_iRg, e_vsqL, e_vsqT, e_iZp, e_catLL, e_catTT, e_aI0, e_aI, e_seqL, e_seqT, e_ixL, e_ixT, e_lenL, e_lenT, e_isi, e_max, e_min, e_tupL, e_tupT, e_intI, e_intB, e_listL, e_listT, e_all, e_any, e_sum, e_all, e_eqII, e_eqSS, e_next, e_seq, e_snx, e_srt, e_sbk, e_sct, e_sxx, e_sbd, e_drop, e_ret, e_retN, e_qif, e_break, e_cont, e_asg, e_asgT, e_ownV, e_app, e_par, e_raise, e_for, e_try, e_txx, e_tnx, e_trt, e_hrt, e_body, e_fnx, e_frt, e_fex, e_start0, e_startS, e_rep0, e_repS, List.append_nil, List.nil_append, List.set_cons_zero, List.set_cons_succ, List.length_cons, List.length_nil, List.length_map, List.length_range, Nat.reduceAdd, Nat.reduceLeDiff, Nat.reduceLT, Int.reduceLT, Int.reduceEq, Int.reduceLE, Int.reducePow, Int.reduceNeg, Int.reduceMul, Int.reduceAdd, Int.reduceSub, Int.reduceToNat, if_true, if_false, cond_true, cond_false, decide_true, decide_false, Bool.and_true, Bool.true_and, Bool.and_false, Bool.false_and, Bool.or_true, Bool.true_or, Bool.or_false, Bool.false_or, Bool.not_true, Bool.not_false, Bool.false_eq_true, Option.some.injEq, and_true, true_and, and_self, t_non, t_bl, t_int, t_str, t_lst, t_tup, t_dct, isiB, tyNs, List.contains_cons, List.contains_nil, String.reduceBEq, Bool.or_self, Bool.and_self, beq_self_eq_true, nc0, nc1, nc2, nc3, nc4, nc5, nc6, nc7, nc8, nc9, nc10, nc11, nc12, e_at0, e_at1, e_at2, e_at3, e_at4, e_at5, e_at6, e_at7, e_at8, e_at9, e_at10, e_at11, e_atm1, e_atm2, e_atm3, e_atm4, e_atm5, hp, h]
  | op h =>
    simp only [e_ok, e_ex, e_bad, e_sok, e_sex, e_sbad, e_var0, e_varS, e_varB0, e_varB1, e_varBS, e_c, e_nil, e_cons, e_op, e_some, e_none, e_cb, e_tup, e_lstF, e_val, e_bOf, e_iOf, e_andT, e_orT, e_notT, e_and, e_or, e_not, e_if, e_chain, e_neg, e_dct0, e_isi2, e_noP, e_pt, e_sl, e_P1, e_slL, e_slT, e_rev, e_call, e_callK, e_lstV, e_new, e_vLst, e_vCat, e_vSl, e_vList, e_vRep, e_lcV, e_compK, e_forK, e_iSq, e_iEn, e_iRg, e_vsqL, e_vsqT, e_iZp, e_catLL, e_catTT, e_aI0, e_aI, e_seqL, e_seqT, e_ixL, e_ixT, e_lenL, e_lenT, e_isi, e_max, e_min, e_tupL, e_tupT, e_intI, e_intB, e_listL, e_listT, e_all, e_any, e_sum, e_all, e_eqII, e_eqSS, e_next, e_seq, e_snx, e_srt, e_sbk, e_sct, e_sxx, e_sbd, e_drop, e_ret, e_retN, e_qif, e_break, e_cont, e_asg, e_asgT, e_ownV, e_app, e_par, e_raise, e_for, e_try, e_txx, e_tnx, e_trt, e_hrt, e_body, e_fnx, e_frt, e_fex, e_start0, e_startS, e_rep0, e_repS, List.append_nil, List.nil_append, List.set_cons_zero, List.set_cons_succ, List.length_cons, List.length_nil, List.length_map, List.length_range, Nat.reduceAdd, Nat.reduceLeDiff, Nat.reduceLT, Int.reduceLT, Int.reduceEq, Int.reduceLE, Int.reducePow, Int.reduceNeg, Int.reduceMul, Int.reduceAdd, Int.reduceSub, Int.reduceToNat, if_true, if_false, cond_true, cond_false, decide_true, decide_false, Bool.and_true, Bool.true_and, Bool.and_false, Bool.false_and, Bool.or_true, Bool.true_or, Bool.or_false, Bool.false_or, Bool.not_true, Bool.not_false, Bool.false_eq_true, Option.some.injEq, and_true, true_and, and_self, t_non, t_bl, t_int, t_str, t_lst, t_tup, t_dct, isiB, tyNs, List.contains_cons, List.contains_nil, String.reduceBEq, Bool.or_self, Bool.and_self, beq_self_eq_true, nc0, nc1, nc2, nc3, nc4, nc5, nc6, nc7, nc8, nc9, nc10, nc11, nc12, e_at0, e_at1, e_at2, e_at3, e_at4, e_at5, e_at6, e_at7, e_at8, e_at9, e_at10, e_at11, e_atm1, e_atm2, e_atm3, e_atm4, e_atm5, hp, h, e_hT xm_NoOp_NoOp]
    rfl
  | width h =>
    simp only [e_ok, e_ex, e_bad, e_sok, e_sex, e_sbad, e_var0, e_varS, e_varB0, e_varB1, e_varBS, e_c, e_nil, e_cons, e_op, e_some, e_none, e_cb, e_tup, e_lstF, e_val, e_bOf, e_iOf, e_andT, e_orT, e_notT, e_and, e_or, e_not, e_if, e_chain, e_neg, e_dct0, e_isi2, e_noP, e_pt, e_sl, e_P1, e_slL, e_slT, e_rev, e_call, e_callK, e_lstV, e_new, e_vLst, e_vCat, e_vSl, e_vList, e_vRep, e_lcV, e_compK, e_forK, e_iSq, e_iEn, e_iRg, e_vsqL, e_vsqT, e_iZp, e_catLL, e_catTT, e_aI0, e_aI, e_seqL, e_seqT, e_ixL, e_ixT, e_lenL, e_lenT, e_isi, e_max, e_min, e_tupL, e_tupT, e_intI, e_intB, e_listL, e_listT, e_all, e_any, e_sum, e_all, e_eqII, e_eqSS, e_next, e_seq, e_snx, e_srt, e_sbk, e_sct, e_sxx, e_sbd, e_drop, e_ret, e_retN, e_qif, e_break, e_cont, e_asg, e_asgT, e_ownV, e_app, e_par, e_raise, e_for, e_try, e_txx, e_tnx, e_trt, e_hrt, e_body, e_fnx, e_frt, e_fex, e_start0, e_startS, e_rep0, e_repS, List.append_nil, List.nil_append, List.set_cons_zero, List.set_cons_succ, List.length_cons, List.length_nil, List.length_map, List.length_range, Nat.reduceAdd, Nat.reduceLeDiff, Nat.reduceLT, Int.reduceLT, Int.reduceEq, Int.reduceLE, Int.reducePow, Int.reduceNeg, Int.reduceMul, Int.reduceAdd, Int.reduceSub, Int.reduceToNat, if_true, if_false, cond_true, cond_false, decide_true, decide_false, Bool.and_true, Bool.true_and, Bool.and_false, Bool.false_and, Bool.or_true, Bool.true_or, Bool.or_false, Bool.false_or, Bool.not_true, Bool.not_false, Bool.false_eq_true, Option.some.injEq, and_true, true_and, and_self, t_non, t_bl, t_int, t_str, t_lst, t_tup, t_dct, isiB, tyNs, List.contains_cons, List.contains_nil, String.reduceBEq, Bool.or_self, Bool.and_self, beq_self_eq_true, nc0, nc1, nc2, nc3, nc4, nc5, nc6, nc7, nc8, nc9, nc10, nc11, nc12, e_at0, e_at1, e_at2, e_at3, e_at4, e_at5, e_at6, e_at7, e_at8, e_at9, e_at10, e_at11, e_atm1, e_atm2, e_atm3, e_atm4, e_atm5, hp, h, e_hF xm_NoWidth_NoOp, e_hT xm_NoWidth_NoWidth]
    rfl
  | worths h =>
    simp only [e_ok, e_ex, e_bad, e_sok, e_sex, e_sbad, e_var0, e_varS, e_varB0, e_varB1, e_varBS, e_c, e_nil, e_cons, e_op, e_some, e_none, e_cb, e_tup, e_lstF, e_val, e_bOf, e_iOf, e_andT, e_orT, e_notT, e_and, e_or, e_not, e_if, e_chain, e_neg, e_dct0, e_isi2, e_noP, e_pt, e_sl, e_P1, e_slL, e_slT, e_rev, e_call, e_callK, e_lstV, e_new, e_vLst, e_vCat, e_vSl, e_vList, e_vRep, e_lcV, e_compK, e_forK, e_iSq, e_iEn, e_iRg, e_vsqL, e_vsqT, e_iZp, e_catLL, e_catTT, e_aI0, e_aI, e_seqL, e_seqT, e_ixL, e_ixT, e_lenL, e_lenT, e_isi, e_max, e_min, e_tupL, e_tupT, e_intI, e_intB, e_listL, e_listT, e_all, e_any, e_sum, e_all, e_eqII, e_eqSS, e_next, e_seq, e_snx, e_srt, e_sbk, e_sct, e_sxx, e_sbd, e_drop, e_ret, e_retN, e_qif, e_break, e_cont, e_asg, e_asgT, e_ownV, e_app, e_par, e_raise, e_for, e_try, e_txx, e_tnx, e_trt, e_hrt, e_body, e_fnx, e_frt, e_fex, e_start0, e_startS, e_rep0, e_repS, List.append_nil, List.nil_append, List.set_cons_zero, List.set_cons_succ, List.length_cons, List.length_nil, List.length_map, List.length_range, Nat.reduceAdd, Nat.reduceLeDiff, Nat.reduceLT, Int.reduceLT, Int.reduceEq, Int.reduceLE, Int.reducePow, Int.reduceNeg, Int.reduceMul, Int.reduceAdd, Int.reduceSub, Int.reduceToNat, if_true, if_false, cond_true, cond_false, decide_true, decide_false, Bool.and_true, Bool.true_and, Bool.and_false, Bool.false_and, Bool.or_true, Bool.true_or, Bool.or_false, Bool.false_or, Bool.not_true, Bool.not_false, Bool.false_eq_true, Option.some.injEq, and_true, true_and, and_self, t_non, t_bl, t_int, t_str, t_lst, t_tup, t_dct, isiB, tyNs, List.contains_cons, List.contains_nil, String.reduceBEq, Bool.or_self, Bool.and_self, beq_self_eq_true, nc0, nc1, nc2, nc3, nc4, nc5, nc6, nc7, nc8, nc9, nc10, nc11, nc12, e_at0, e_at1, e_at2, e_at3, e_at4, e_at5, e_at6, e_at7, e_at8, e_at9, e_at10, e_at11, e_atm1, e_atm2, e_atm3, e_atm4, e_atm5, hp, h, e_hF xm_NoWorths_NoOp, e_hF xm_NoWorths_NoWidth, e_hT xm_NoWorths_NoWorths]
    rfl
  | number h =>
    simp only [e_ok, e_ex, e_bad, e_sok, e_sex, e_sbad, e_var0, e_varS, e_varB0, e_varB1, e_varBS, e_c, e_nil, e_cons, e_op, e_some, e_none, e_cb, e_tup, e_lstF, e_val, e_bOf, e_iOf, e_andT, e_orT, e_notT, e_and, e_or, e_not, e_if, e_chain, e_neg, e_dct0, e_isi2, e_noP, e_pt, e_sl, e_P1, e_slL, e_slT, e_rev, e_call, e_callK, e_lstV, e_new, e_vLst, e_vCat, e_vSl, e_vList, e_vRep, e_lcV, e_compK, e_forK, e_iSq, e_iEn, e_iRg, e_vsqL, e_vsqT, e_iZp, e_catLL, e_catTT, e_aI0, e_aI, e_seqL, e_seqT, e_ixL, e_ixT, e_lenL, e_lenT, e_isi, e_max, e_min, e_tupL, e_tupT, e_intI, e_intB, e_listL, e_listT, e_all, e_any, e_sum, e_all, e_eqII, e_eqSS, e_next, e_seq, e_snx, e_srt, e_sbk, e_sct, e_sxx, e_sbd, e_drop, e_ret, e_retN, e_qif, e_break, e_cont, e_asg, e_asgT, e_ownV, e_app, e_par, e_raise, e_for, e_try, e_txx, e_tnx, e_trt, e_hrt, e_body, e_fnx, e_frt, e_fex, e_start0, e_startS, e_rep0, e_repS, List.append_nil, List.nil_append, List.set_cons_zero, List.set_cons_succ, List.length_cons, List.length_nil, List.length_map, List.length_range, Nat.reduceAdd, Nat.reduceLeDiff, Nat.reduceLT, Int.reduceLT, Int.reduceEq, Int.reduceLE, Int.reducePow, Int.reduceNeg, Int.reduceMul, Int.reduceAdd, Int.reduceSub, Int.reduceToNat, if_true, if_false, cond_true, cond_false, decide_true, decide_false, Bool.and_true, Bool.true_and, Bool.and_false, Bool.false_and, Bool.or_true, Bool.true_or, Bool.or_false, Bool.false_or, Bool.not_true, Bool.not_false, Bool.false_eq_true, Option.some.injEq, and_true, true_and, and_self, t_non, t_bl, t_int, t_str, t_lst, t_tup, t_dct, isiB, tyNs, List.contains_cons, List.contains_nil, String.reduceBEq, Bool.or_self, Bool.and_self, beq_self_eq_true, nc0, nc1, nc2, nc3, nc4, nc5, nc6, nc7, nc8, nc9, nc10, nc11, nc12, e_at0, e_at1, e_at2, e_at3, e_at4, e_at5, e_at6, e_at7, e_at8, e_at9, e_at10, e_at11, e_atm1, e_atm2, e_atm3, e_atm4, e_atm5, hp, h, e_hF xm_NoNumber_NoOp, e_hF xm_NoNumber_NoWidth, e_hF xm_NoNumber_NoWorths, e_hT xm_NoNumber_NoNumber]
    rfl
theorem f_asked0 {w v ws : A} {r : Int} (h : p_reckoned [w, v, ws, .int 1, .int 0] m = .ok (.int r) m) : p__law_asked [w, v, ws, .tup []] m = .ok (.lst [.str "told", .int r]) m := by
  unfold p__law_asked q__law_asked
  have hp : pickG [0, 1, 2, 3, 4] [.int 1, .int 0] [w, v, ws] [] = [w, v, ws, .int 1, .int 0] := rfl
  simp only [e_ok, e_ex, e_bad, e_sok, e_sex, e_sbad, e_var0, e_varS, e_varB0, e_varB1, e_varBS, e_c, e_nil, e_cons, e_op, e_some, e_none, e_cb, e_tup, e_lstF, e_val, e_bOf, e_iOf, e_andT, e_orT, e_notT, e_and, e_or, e_not, e_if, e_chain, e_neg, e_dct0, e_isi2, e_noP, e_pt, e_sl, e_P1, e_slL, e_slT, e_rev, e_call, e_callK, e_lstV, e_new, e_vLst, e_vCat, e_vSl, e_vList, e_vRep, e_lcV, e_compK, e_forK, e_iSq, e_iEn, e_iRg, e_vsqL, e_vsqT, e_iZp, e_catLL, e_catTT, e_aI0, e_aI, e_seqL, e_seqT, e_ixL, e_ixT, e_lenL, e_lenT, e_isi, e_max, e_min, e_tupL, e_tupT, e_intI, e_intB, e_listL, e_listT, e_all, e_any, e_sum, e_all, e_eqII, e_eqSS, e_next, e_seq, e_snx, e_srt, e_sbk, e_sct, e_sxx, e_sbd, e_drop, e_ret, e_retN, e_qif, e_break, e_cont, e_asg, e_asgT, e_ownV, e_app, e_par, e_raise, e_for, e_try, e_txx, e_tnx, e_trt, e_hrt, e_body, e_fnx, e_frt, e_fex, e_start0, e_startS, e_rep0, e_repS, List.append_nil, List.nil_append, List.set_cons_zero, List.set_cons_succ, List.length_cons, List.length_nil, List.length_map, List.length_range, Nat.reduceAdd, Nat.reduceLeDiff, Nat.reduceLT, Int.reduceLT, Int.reduceEq, Int.reduceLE, Int.reducePow, Int.reduceNeg, Int.reduceMul, Int.reduceAdd, Int.reduceSub, Int.reduceToNat, if_true, if_false, cond_true, cond_false, decide_true, decide_false, Bool.and_true, Bool.true_and, Bool.and_false, Bool.false_and, Bool.or_true, Bool.true_or, Bool.or_false, Bool.false_or, Bool.not_true, Bool.not_false, Bool.false_eq_true, Option.some.injEq, and_true, true_and, and_self, t_non, t_bl, t_int, t_str, t_lst, t_tup, t_dct, isiB, tyNs, List.contains_cons, List.contains_nil, String.reduceBEq, Bool.or_self, Bool.and_self, beq_self_eq_true, nc0, nc1, nc2, nc3, nc4, nc5, nc6, nc7, nc8, nc9, nc10, nc11, nc12, e_at0, e_at1, e_at2, e_at3, e_at4, e_at5, e_at6, e_at7, e_at8, e_at9, e_at10, e_at11, e_atm1, e_atm2, e_atm3, e_atm4, e_atm5, hp, h]
theorem f_asked1 {w : Str} {v ws x : A} {r : Int} (h : p_reckoned [.str w, v, ws, (if w = "wide" then x else .int 1), (if w = "wide" then .int 0 else x)] m = .ok (.int r) m) : p__law_asked [.str w, v, ws, .tup [x]] m = .ok (.lst [.str "told", .int r]) m := by
  unfold p__law_asked q__law_asked
  have hp1 : pickG [0, 1, 2, 4, 3] [.int 0] [.str w, v, ws] [x] = [.str w, v, ws, x, .int 0] := rfl
  have hp2 : pickG [0, 1, 2, 3, 4] [.int 1] [.str w, v, ws] [x] = [.str w, v, ws, .int 1, x] := rfl
  by_cases e : w = "wide"
  · subst e
    simp only [if_true] at h
    simp (config := { decide := true }) only [e_ok, e_ex, e_bad, e_sok, e_sex, e_sbad, e_var0, e_varS, e_varB0, e_varB1, e_varBS, e_c, e_nil, e_cons, e_op, e_some, e_none, e_cb, e_tup, e_lstF, e_val, e_bOf, e_iOf, e_andT, e_orT, e_notT, e_and, e_or, e_not, e_if, e_chain, e_neg, e_dct0, e_isi2, e_noP, e_pt, e_sl, e_P1, e_slL, e_slT, e_rev, e_call, e_callK, e_lstV, e_new, e_vLst, e_vCat, e_vSl, e_vList, e_vRep, e_lcV, e_compK, e_forK, e_iSq, e_iEn, e_iRg, e_vsqL, e_vsqT, e_iZp, e_catLL, e_catTT, e_aI0, e_aI, e_seqL, e_seqT, e_ixL, e_ixT, e_lenL, e_lenT, e_isi, e_max, e_min, e_tupL, e_tupT, e_intI, e_intB, e_listL, e_listT, e_all, e_any, e_sum, e_all, e_eqII, e_eqSS, e_next, e_seq, e_snx, e_srt, e_sbk, e_sct, e_sxx, e_sbd, e_drop, e_ret, e_retN, e_qif, e_break, e_cont, e_asg, e_asgT, e_ownV, e_app, e_par, e_raise, e_for, e_try, e_txx, e_tnx, e_trt, e_hrt, e_body, e_fnx, e_frt, e_fex, e_start0, e_startS, e_rep0, e_repS, List.append_nil, List.nil_append, List.set_cons_zero, List.set_cons_succ, List.length_cons, List.length_nil, List.length_map, List.length_range, Nat.reduceAdd, Nat.reduceLeDiff, Nat.reduceLT, Int.reduceLT, Int.reduceEq, Int.reduceLE, Int.reducePow, Int.reduceNeg, Int.reduceMul, Int.reduceAdd, Int.reduceSub, Int.reduceToNat, if_true, if_false, cond_true, cond_false, decide_true, decide_false, Bool.and_true, Bool.true_and, Bool.and_false, Bool.false_and, Bool.or_true, Bool.true_or, Bool.or_false, Bool.false_or, Bool.not_true, Bool.not_false, Bool.false_eq_true, Option.some.injEq, and_true, true_and, and_self, t_non, t_bl, t_int, t_str, t_lst, t_tup, t_dct, isiB, tyNs, List.contains_cons, List.contains_nil, String.reduceBEq, Bool.or_self, Bool.and_self, beq_self_eq_true, nc0, nc1, nc2, nc3, nc4, nc5, nc6, nc7, nc8, nc9, nc10, nc11, nc12, e_at0, e_at1, e_at2, e_at3, e_at4, e_at5, e_at6, e_at7, e_at8, e_at9, e_at10, e_at11, e_atm1, e_atm2, e_atm3, e_atm4, e_atm5, e_condB, e_condS, e_condQ, e_condF, e_condT, e_condO, e_cc, e_condBl, e_condAA, c_F, c_T, c_nF, c_nT, hp1, hp2, h]
  · simp only [if_neg e] at h
    simp (config := { decide := true }) only [e_ok, e_ex, e_bad, e_sok, e_sex, e_sbad, e_var0, e_varS, e_varB0, e_varB1, e_varBS, e_c, e_nil, e_cons, e_op, e_some, e_none, e_cb, e_tup, e_lstF, e_val, e_bOf, e_iOf, e_andT, e_orT, e_notT, e_and, e_or, e_not, e_if, e_chain, e_neg, e_dct0, e_isi2, e_noP, e_pt, e_sl, e_P1, e_slL, e_slT, e_rev, e_call, e_callK, e_lstV, e_new, e_vLst, e_vCat, e_vSl, e_vList, e_vRep, e_lcV, e_compK, e_forK, e_iSq, e_iEn, e_iRg, e_vsqL, e_vsqT, e_iZp, e_catLL, e_catTT, e_aI0, e_aI, e_seqL, e_seqT, e_ixL, e_ixT, e_lenL, e_lenT, e_isi, e_max, e_min, e_tupL, e_tupT, e_intI, e_intB, e_listL, e_listT, e_all, e_any, e_sum, e_all, e_eqII, e_eqSS, e_next, e_seq, e_snx, e_srt, e_sbk, e_sct, e_sxx, e_sbd, e_drop, e_ret, e_retN, e_qif, e_break, e_cont, e_asg, e_asgT, e_ownV, e_app, e_par, e_raise, e_for, e_try, e_txx, e_tnx, e_trt, e_hrt, e_body, e_fnx, e_frt, e_fex, e_start0, e_startS, e_rep0, e_repS, List.append_nil, List.nil_append, List.set_cons_zero, List.set_cons_succ, List.length_cons, List.length_nil, List.length_map, List.length_range, Nat.reduceAdd, Nat.reduceLeDiff, Nat.reduceLT, Int.reduceLT, Int.reduceEq, Int.reduceLE, Int.reducePow, Int.reduceNeg, Int.reduceMul, Int.reduceAdd, Int.reduceSub, Int.reduceToNat, if_true, if_false, cond_true, cond_false, decide_true, decide_false, Bool.and_true, Bool.true_and, Bool.and_false, Bool.false_and, Bool.or_true, Bool.true_or, Bool.or_false, Bool.false_or, Bool.not_true, Bool.not_false, Bool.false_eq_true, Option.some.injEq, and_true, true_and, and_self, t_non, t_bl, t_int, t_str, t_lst, t_tup, t_dct, isiB, tyNs, List.contains_cons, List.contains_nil, String.reduceBEq, Bool.or_self, Bool.and_self, beq_self_eq_true, nc0, nc1, nc2, nc3, nc4, nc5, nc6, nc7, nc8, nc9, nc10, nc11, nc12, e_at0, e_at1, e_at2, e_at3, e_at4, e_at5, e_at6, e_at7, e_at8, e_at9, e_at10, e_at11, e_atm1, e_atm2, e_atm3, e_atm4, e_atm5, e_condB, e_condS, e_condQ, e_condF, e_condT, e_condO, e_cc, e_condBl, e_condAA, c_F, c_T, c_nF, c_nT, hp1, hp2, h, e]
end L03
set_option maxHeartbeats 400001
namespace L03
open PySem PySem.Spec
open PyProof.Rows L2 DL FL
variable {m : AM}
theorem tame5 {a b c d e : PyData} {k n : Nat} (h1 : Tame k n a) (h2 : Tame k n b) (h3 : Tame k n c) (h4 : Tame k n d) (h5 : Tame k n e) : Tame (5 * (k + 1)) (n + 1) (.list [a, b, c, d, e]) :=
  Tame.list (b := k) (k := n) (xs := [a, b, c, d, e]) fun x hx => by
    simp only [List.not_mem_nil, List.mem_cons, or_false] at hx
    rcases hx with rfl | rfl | rfl | rfl | rfl <;> assumption
theorem tame2 {a b : PyData} {k n : Nat} (h1 : Tame k n a) (h2 : Tame k n b) : Tame (2 * (k + 1)) (n + 1) (.list [a, b]) :=
  Tame.list (b := k) (k := n) (xs := [a, b]) fun x hx => by
    simp only [List.not_mem_nil, List.mem_cons, or_false] at hx
    rcases hx with rfl | rfl <;> assumption
theorem tame2T {a b : PyData} {k n : Nat} (h1 : Tame k n a) (h2 : Tame k n b) : Tame (2 * (k + 1)) (n + 1) (.tuple [a, b]) :=
  Tame.tuple (b := k) (k := n) (xs := [a, b]) fun x hx => by
    simp only [List.not_mem_nil, List.mem_cons, or_false] at hx
    rcases hx with rfl | rfl <;> assumption
theorem row_ok {p : Nat} {e0 e1 e2 e3 e4 e5 e6 e7 e8 e9 e10 e11 e17 e18 : SV} {one two three least past x : A} {s : Str} {q1 q2 q3 q4 q5 q : PyData}
    (h1 : pd m one = some q1) (h2 : pd m two = some q2) (h3 : pd m three = some q3) (h4 : pd m least = some q4) (h5 : pd m past = some q5) (t1 : Tame 300 6 q1) (t2 : Tame 300 6 q2) (t3 : Tame 300 6 q3) (t4 : Tame 300 6 q4) (t5 : Tame 300 6 q5) (ts : Tame 300 6 (.str s)) (th : ThingA p m x q)
    (asked : p__law_asked [one, two, three, .tup [least, past]] m = .ok (.lst [.str s, x]) m) :
    ∃ u v, b1__law_refused_right [e0, e1, e2, e3, e4, e5, e6, e7, e8, e9, e10, e11, .val one, .val two, .val three, .val (.tup [least, past]), .val (.lst [.str s, x]), e17, e18] m = .nx [e0, e1, e2, e3, e4, e5, e6, e7, e8, e9, e10, e11, .val one, .val two, .val three, .val (.tup [least, past]), .val (.lst [.str s, x]), u, v] m := by
  have hx := th.pd
  have tx : Tame 300 6 q := th.tame.mono (by decide) (by decide)
  have pt : pd m (.lst [.str s, x]) = some (.list [.str s, q]) := by
    simp only [pd] at hx ⊢
    simp only [pdWA, pdsWA, hx]
  have pk : pd m (.lst [one, two, three, .tup [least, past], .lst [.str s, x]]) = some (.list [q1, q2, q3, .tuple [q4, q5], .list [.str s, q]]) := by
    simp only [pd] at hx h1 h2 h3 h4 h5 ⊢
    simp only [pdWA, pdsWA, hx, h1, h2, h3, h4, h5]
  have tt : Tame 1000 7 (.list [.str s, q]) := (tame2 ts tx).mono (by decide) (by decide)
  have tk : Tame 6000 8 (.list [q1, q2, q3, .tuple [q4, q5], .list [.str s, q]]) :=
    (tame5 (k := 1000) (n := 7) (t1.mono (by decide) (by decide)) (t2.mono (by decide) (by decide)) (t3.mono (by decide) (by decide)) ((tame2T t4 t5).mono (by decide) (by decide)) tt).mono (by decide) (by decide)
  unfold b1__law_refused_right
  simp only [e_ok, e_ex, e_bad, e_sok, e_sex, e_sbad, e_var0, e_varS, e_varB0, e_varB1, e_varBS, e_c, e_nil, e_cons, e_op, e_some, e_none, e_cb, e_tup, e_lstF, e_val, e_bOf, e_iOf, e_andT, e_orT, e_notT, e_and, e_or, e_not, e_if, e_chain, e_neg, e_dct0, e_isi2, e_noP, e_pt, e_sl, e_P1, e_slL, e_slT, e_rev, e_call, e_callK, e_lstV, e_new, e_vLst, e_vCat, e_vSl, e_vList, e_vRep, e_lcV, e_compK, e_forK, e_iSq, e_iEn, e_iRg, e_vsqL, e_vsqT, e_iZp, e_catLL, e_catTT, e_aI0, e_aI, e_seqL, e_seqT, e_ixL, e_ixT, e_lenL, e_lenT, e_isi, e_max, e_min, e_tupL, e_tupT, e_intI, e_intB, e_listL, e_listT, e_all, e_any, e_sum, e_all, e_eqII, e_eqSS, e_next, e_seq, e_snx, e_srt, e_sbk, e_sct, e_sxx, e_sbd, e_drop, e_ret, e_retN, e_qif, e_break, e_cont, e_asg, e_asgT, e_ownV, e_app, e_par, e_raise, e_for, e_try, e_txx, e_tnx, e_trt, e_hrt, e_body, e_fnx, e_frt, e_fex, e_start0, e_startS, e_rep0, e_repS, List.append_nil, List.nil_append, List.set_cons_zero, List.set_cons_succ, List.length_cons, List.length_nil, List.length_map, List.length_range, Nat.reduceAdd, Nat.reduceLeDiff, Nat.reduceLT, Int.reduceLT, Int.reduceEq, Int.reduceLE, Int.reducePow, Int.reduceNeg, Int.reduceMul, Int.reduceAdd, Int.reduceSub, Int.reduceToNat, if_true, if_false, cond_true, cond_false, decide_true, decide_false, Bool.and_true, Bool.true_and, Bool.and_false, Bool.false_and, Bool.or_true, Bool.true_or, Bool.or_false, Bool.false_or, Bool.not_true, Bool.not_false, Bool.false_eq_true, Option.some.injEq, and_true, true_and, and_self, t_non, t_bl, t_int, t_str, t_lst, t_tup, t_dct, isiB, tyNs, List.contains_cons, List.contains_nil, String.reduceBEq, Bool.or_self, Bool.and_self, beq_self_eq_true, nc0, nc1, nc2, nc3, nc4, nc5, nc6, nc7, nc8, nc9, nc10, nc11, nc12, e_at0, e_at1, e_at2, e_at3, e_at4, e_at5, e_at6, e_at7, e_at8, e_at9, e_at10, e_at11, e_atm1, e_atm2, e_atm3, e_atm4, e_atm5, e_repr pk tk (by decide) (by decide), asked, e_repr pt tt (by decide) (by decide), e_eqSS, th.ty]
  rcases th.is with ⟨_, _, h3⟩ | ⟨r, ps, rfl, rfl, hr, hp, _, hl, ht⟩
  · have e : (tyP q == "list") = false := by
      cases q <;> first | rfl | exact absurd rfl (h3 _)
    simp only [e_ok, e_ex, e_bad, e_sok, e_sex, e_sbad, e_var0, e_varS, e_varB0, e_varB1, e_varBS, e_c, e_nil, e_cons, e_op, e_some, e_none, e_cb, e_tup, e_lstF, e_val, e_bOf, e_iOf, e_andT, e_orT, e_notT, e_and, e_or, e_not, e_if, e_chain, e_neg, e_dct0, e_isi2, e_noP, e_pt, e_sl, e_P1, e_slL, e_slT, e_rev, e_call, e_callK, e_lstV, e_new, e_vLst, e_vCat, e_vSl, e_vList, e_vRep, e_lcV, e_compK, e_forK, e_iSq, e_iEn, e_iRg, e_vsqL, e_vsqT, e_iZp, e_catLL, e_catTT, e_aI0, e_aI, e_seqL, e_seqT, e_ixL, e_ixT, e_lenL, e_lenT, e_isi, e_max, e_min, e_tupL, e_tupT, e_intI, e_intB, e_listL, e_listT, e_all, e_any, e_sum, e_all, e_eqII, e_eqSS, e_next, e_seq, e_snx, e_srt, e_sbk, e_sct, e_sxx, e_sbd, e_drop, e_ret, e_retN, e_qif, e_break, e_cont, e_asg, e_asgT, e_ownV, e_app, e_par, e_raise, e_for, e_try, e_txx, e_tnx, e_trt, e_hrt, e_body, e_fnx, e_frt, e_fex, e_start0, e_startS, e_rep0, e_repS, List.append_nil, List.nil_append, List.set_cons_zero, List.set_cons_succ, List.length_cons, List.length_nil, List.length_map, List.length_range, Nat.reduceAdd, Nat.reduceLeDiff, Nat.reduceLT, Int.reduceLT, Int.reduceEq, Int.reduceLE, Int.reducePow, Int.reduceNeg, Int.reduceMul, Int.reduceAdd, Int.reduceSub, Int.reduceToNat, if_true, if_false, cond_true, cond_false, decide_true, decide_false, Bool.and_true, Bool.true_and, Bool.and_false, Bool.false_and, Bool.or_true, Bool.true_or, Bool.or_false, Bool.false_or, Bool.not_true, Bool.not_false, Bool.false_eq_true, Option.some.injEq, and_true, true_and, and_self, t_non, t_bl, t_int, t_str, t_lst, t_tup, t_dct, isiB, tyNs, List.contains_cons, List.contains_nil, String.reduceBEq, Bool.or_self, Bool.and_self, beq_self_eq_true, nc0, nc1, nc2, nc3, nc4, nc5, nc6, nc7, nc8, nc9, nc10, nc11, nc12, e_at0, e_at1, e_at2, e_at3, e_at4, e_at5, e_at6, e_at7, e_at8, e_at9, e_at10, e_at11, e_atm1, e_atm2, e_atm3, e_atm4, e_atm5, e]
    exact ⟨_, _, rfl⟩
  · have e : (tyP (.list ps) == "list") = true := rfl
    have hl2 : (ofPAs ps).length < 1000000 := by rw [ofPAs_length]; omega
    have hlt : r < m.length := by
      rcases Nat.lt_or_ge r m.length with z | z
      · exact z
      · rw [List.getElem?_eq_none z] at hr
        cases hr
    have e2 : (m.set r (.lst (ofPAs ps ++ [.int 3])))[r]? = some (.lst (ofPAs ps ++ [.int 3])) := List.getElem?_set_self hlt
    have ea : ofPAs ps ++ [.int 3] = ofPAs (ps ++ [.int 3]) := by rw [ofPAs_map, ofPAs_map, List.map_append]; rfl
    have pp : plainPs (ps ++ [.int 3]) = true := plain_append hp rfl
    have p2 : pd (m.set r (.lst (ofPAs ps ++ [.int 3]))) (.loc r) = some (.list (ps ++ [.int 3])) := by
      show resA _ 2 r = _
      simp only [resA, e2]
      rw [ea, pdsW_ofPA _ _ pp]
    have t2 : Tame 1000 6 (.list (ps ++ [.int 3])) := by
      refine (Tame.list (b := 40) (k := 2) fun y hy => ?_).mono (by rw [List.length_append, List.length_singleton]; omega) (by decide)
      rcases List.mem_append.mp hy with z | z
      · exact ht y z
      · rw [(List.mem_singleton.mp z)]
        exact (Tame.int (by decide) (by decide)).mono (by decide) (by decide)
    have e3 : (ofPAs ps ++ [A.int 3])[(ofPAs ps ++ [A.int 3]).length - 1]? = some (.int 3) := by simp
    simp only [e_ok, e_ex, e_bad, e_sok, e_sex, e_sbad, e_var0, e_varS, e_varB0, e_varB1, e_varBS, e_c, e_nil, e_cons, e_op, e_some, e_none, e_cb, e_tup, e_lstF, e_val, e_bOf, e_iOf, e_andT, e_orT, e_notT, e_and, e_or, e_not, e_if, e_chain, e_neg, e_dct0, e_isi2, e_noP, e_pt, e_sl, e_P1, e_slL, e_slT, e_rev, e_call, e_callK, e_lstV, e_new, e_vLst, e_vCat, e_vSl, e_vList, e_vRep, e_lcV, e_compK, e_forK, e_iSq, e_iEn, e_iRg, e_vsqL, e_vsqT, e_iZp, e_catLL, e_catTT, e_aI0, e_aI, e_seqL, e_seqT, e_ixL, e_ixT, e_lenL, e_lenT, e_isi, e_max, e_min, e_tupL, e_tupT, e_intI, e_intB, e_listL, e_listT, e_all, e_any, e_sum, e_all, e_eqII, e_eqSS, e_next, e_seq, e_snx, e_srt, e_sbk, e_sct, e_sxx, e_sbd, e_drop, e_ret, e_retN, e_qif, e_break, e_cont, e_asg, e_asgT, e_ownV, e_app, e_par, e_raise, e_for, e_try, e_txx, e_tnx, e_trt, e_hrt, e_body, e_fnx, e_frt, e_fex, e_start0, e_startS, e_rep0, e_repS, List.append_nil, List.nil_append, List.set_cons_zero, List.set_cons_succ, List.length_cons, List.length_nil, List.length_map, List.length_range, Nat.reduceAdd, Nat.reduceLeDiff, Nat.reduceLT, Int.reduceLT, Int.reduceEq, Int.reduceLE, Int.reducePow, Int.reduceNeg, Int.reduceMul, Int.reduceAdd, Int.reduceSub, Int.reduceToNat, if_true, if_false, cond_true, cond_false, decide_true, decide_false, Bool.and_true, Bool.true_and, Bool.and_false, Bool.false_and, Bool.or_true, Bool.true_or, Bool.or_false, Bool.false_or, Bool.not_true, Bool.not_false, Bool.false_eq_true, Option.some.injEq, and_true, true_and, and_self, t_non, t_bl, t_int, t_str, t_lst, t_tup, t_dct, isiB, tyNs, List.contains_cons, List.contains_nil, String.reduceBEq, Bool.or_self, Bool.and_self, beq_self_eq_true, nc0, nc1, nc2, nc3, nc4, nc5, nc6, nc7, nc8, nc9, nc10, nc11, nc12, e_at0, e_at1, e_at2, e_at3, e_at4, e_at5, e_at6, e_at7, e_at8, e_at9, e_at10, e_at11, e_atm1, e_atm2, e_atm3, e_atm4, e_atm5, e, pApp, pPop, lstOf, hr, hl2, e2, e_repr p2 t2 (by decide) (by decide), e_eqSS, List.length_append]
    simp only [List.length_append, List.length_singleton] at e3
    simp only [e_ok, e_ex, e_bad, e_sok, e_sex, e_sbad, e_var0, e_varS, e_varB0, e_varB1, e_varBS, e_c, e_nil, e_cons, e_op, e_some, e_none, e_cb, e_tup, e_lstF, e_val, e_bOf, e_iOf, e_andT, e_orT, e_notT, e_and, e_or, e_not, e_if, e_chain, e_neg, e_dct0, e_isi2, e_noP, e_pt, e_sl, e_P1, e_slL, e_slT, e_rev, e_call, e_callK, e_lstV, e_new, e_vLst, e_vCat, e_vSl, e_vList, e_vRep, e_lcV, e_compK, e_forK, e_iSq, e_iEn, e_iRg, e_vsqL, e_vsqT, e_iZp, e_catLL, e_catTT, e_aI0, e_aI, e_seqL, e_seqT, e_ixL, e_ixT, e_lenL, e_lenT, e_isi, e_max, e_min, e_tupL, e_tupT, e_intI, e_intB, e_listL, e_listT, e_all, e_any, e_sum, e_all, e_eqII, e_eqSS, e_next, e_seq, e_snx, e_srt, e_sbk, e_sct, e_sxx, e_sbd, e_drop, e_ret, e_retN, e_qif, e_break, e_cont, e_asg, e_asgT, e_ownV, e_app, e_par, e_raise, e_for, e_try, e_txx, e_tnx, e_trt, e_hrt, e_body, e_fnx, e_frt, e_fex, e_start0, e_startS, e_rep0, e_repS, List.append_nil, List.nil_append, List.set_cons_zero, List.set_cons_succ, List.length_cons, List.length_nil, List.length_map, List.length_range, Nat.reduceAdd, Nat.reduceLeDiff, Nat.reduceLT, Int.reduceLT, Int.reduceEq, Int.reduceLE, Int.reducePow, Int.reduceNeg, Int.reduceMul, Int.reduceAdd, Int.reduceSub, Int.reduceToNat, if_true, if_false, cond_true, cond_false, decide_true, decide_false, Bool.and_true, Bool.true_and, Bool.and_false, Bool.false_and, Bool.or_true, Bool.true_or, Bool.or_false, Bool.false_or, Bool.not_true, Bool.not_false, Bool.false_eq_true, Option.some.injEq, and_true, true_and, and_self, t_non, t_bl, t_int, t_str, t_lst, t_tup, t_dct, isiB, tyNs, List.contains_cons, List.contains_nil, String.reduceBEq, Bool.or_self, Bool.and_self, beq_self_eq_true, nc0, nc1, nc2, nc3, nc4, nc5, nc6, nc7, nc8, nc9, nc10, nc11, nc12, e_at0, e_at1, e_at2, e_at3, e_at4, e_at5, e_at6, e_at7, e_at8, e_at9, e_at10, e_at11, e_atm1, e_atm2, e_atm3, e_atm4, e_atm5, e3, List.dropLast_concat, List.set_set]
    have e4 : m.set r (.lst (ofPAs ps)) = m := by
      apply List.ext_getElem?
      intro j
      by_cases z : r = j
      · subst z
        rw [List.getElem?_set_self hlt, hr]
      · rw [List.getElem?_set_ne z]
    rw [e4]
    exact ⟨_, _, rfl⟩
end L03
set_option maxHeartbeats 400001
namespace L03
open PySem PySem.Spec
open PyProof.Rows L2 DL FL
variable {m : AM}
theorem tail_ok {p : Nat} {n many : Int} {w s4 : Str} {W : List A} {odd wide bad least past x4 : A} {qo qw qb ql qp q4 qW : PyData} {e0 e1 e2 e3 e4 e5 e6 e7 e8 e9 e10 e11 e12 e13 e14 e15 e16 e17 e18 : SV} (h1 : 1 ≤ n) (h8 : n ≤ 8) (tw : Tame 300 6 (.str w)) (iw : inV (.str w) wordsV = true) {v : Bool} (is : inV (.str w) singleV = v) (em : many = if v then 1 else 2)
    (to : ThingA p m odd qo) (bo : notWord odd (tyP qo)) (tf : ThingA p m wide qw) (bf : wholeA wide 1 8 = false) (tb : ThingA p m bad qb) (bb : BadW m bad n many) (tl : ThingA p m least ql) (tp : ThingA p m past qp)
    (hW : pd m (.lst W) = some qW) (tW : Tame 300 6 qW) (t4 : ThingA p m x4 q4) (ts : Tame 300 6 (.str s4)) (a4 : p__law_asked [.str w, .int n, .lst W, .tup [least, past]] m = .ok (.lst [.str s4, x4]) m) :
    seqS (forA (tTup 5 (tCons (tNm 12) (tCons (tNm 13) (tCons (tNm 14) (tCons (tNm 15) (tCons (tNm 16) tNil)))))) b1__law_refused_right
      [.tup [odd, wide, bad, .tup [least, past], .lst [.str "op", odd]], .tup [.str w, wide, bad, .tup [least, past], .lst [.str "width", wide]], .tup [.str w, .int n, bad, .tup [least, past], .lst [.str "worths", bad]], .tup [.str w, .int n, .lst W, .tup [least, past], .lst [.str s4, x4]]]
      [e0, e1, e2, e3, e4, e5, e6, e7, e8, e9, e10, e11, e12, e13, e14, e15, e16, e17, e18] m) (qRet (pC (.bl true))) = .rt (.bl true) m := by
  have M : ∀ {q : PyData}, Tame 200 5 q → Tame 300 6 q := fun h => h.mono (by decide) (by decide)
  have tn : Tame 300 6 (.int n) := (Tame.int (by omega) (by omega)).mono (by decide) (by decide)
  have s1 : Tame 300 6 (.str "op") := ⟨by decide, by decide, by decide, by decide⟩
  have s2 : Tame 300 6 (.str "width") := ⟨by decide, by decide, by decide, by decide⟩
  have s3 : Tame 300 6 (.str "worths") := ⟨by decide, by decide, by decide, by decide⟩
  have pw : pd m (.str w) = some (.str w) := rfl
  have pn : pd m (.int n) = some (.int n) := rfl
  obtain ⟨u1, v1, r1⟩ := row_ok (e0 := e0) (e1 := e1) (e2 := e2) (e3 := e3) (e4 := e4) (e5 := e5) (e6 := e6) (e7 := e7) (e8 := e8) (e9 := e9) (e10 := e10) (e11 := e11) (e17 := e17) (e18 := e18) to.pd tf.pd tb.pd tl.pd tp.pd (M to.tame) (M tf.tame) (M tb.tame) (M tl.tame) (M tp.tame) s1 to (f_asked2 (.op (f_rx_op to.ty bo)))
  obtain ⟨u2, v2, r2⟩ := row_ok (e0 := e0) (e1 := e1) (e2 := e2) (e3 := e3) (e4 := e4) (e5 := e5) (e6 := e6) (e7 := e7) (e8 := e8) (e9 := e9) (e10 := e10) (e11 := e11) (e17 := u1) (e18 := v1) pw tf.pd tb.pd tl.pd tp.pd tw (M tf.tame) (M tb.tame) (M tl.tame) (M tp.tame) s2 tf (f_asked2 (.width (f_rx_width iw tf.ty bf)))
  obtain ⟨u3, v3, r3⟩ := row_ok (e0 := e0) (e1 := e1) (e2 := e2) (e3 := e3) (e4 := e4) (e5 := e5) (e6 := e6) (e7 := e7) (e8 := e8) (e9 := e9) (e10 := e10) (e11 := e11) (e17 := u2) (e18 := v2) pw pn tb.pd tl.pd tp.pd tw tn (M tb.tame) (M tl.tame) (M tp.tame) s3 tb (f_asked2 (.worths (f_rx_worths h1 h8 iw is (by rw [em] at bb; exact bb))))
  obtain ⟨u4, v4, r4⟩ := row_ok (e0 := e0) (e1 := e1) (e2 := e2) (e3 := e3) (e4 := e4) (e5 := e5) (e6 := e6) (e7 := e7) (e8 := e8) (e9 := e9) (e10 := e10) (e11 := e11) (e17 := u3) (e18 := v3) pw pn hW tl.pd tp.pd tw tn tW (M tl.tame) (M tp.tame) ts t4 a4
  have g : ∀ (a b c d e : A) (x0 x1 x2 x3 x4 x5 x6 x7 x8 x9 x10 x11 x12 x13 x14 x15 x16 x17 x18 : SV), tTup 5 (tCons (tNm 12) (tCons (tNm 13) (tCons (tNm 14) (tCons (tNm 15) (tCons (tNm 16) tNil))))) (.tup [a, b, c, d, e]) [x0, x1, x2, x3, x4, x5, x6, x7, x8, x9, x10, x11, x12, x13, x14, x15, x16, x17, x18] = some [x0, x1, x2, x3, x4, x5, x6, x7, x8, x9, x10, x11, .val a, .val b, .val c, .val d, .val e, x17, x18] := fun _ _ _ _ _ _ _ _ _ _ _ _ _ _ _ _ _ _ _ _ _ _ _ _ => rfl
  simp only [forA, g, r1, r2, r3, r4]
  rfl
theorem cut_drop1 (W : List A) : cutA W (some 1) none = W.drop 1 := by
  unfold FL.cutA
  have e : HT.sIx W.length 0 (some 1) = min 1 W.length := rfl
  have e2 : HT.sIx W.length W.length none = W.length := rfl
  rw [e, e2]
  cases W with
  | nil => rfl
  | cons a W =>
    have : min 1 (a :: W).length = 1 := by simp
    rw [this]
    simp
theorem cut_last (W : List A) : cutA W none (some (-1)) = W.dropLast := by
  unfold FL.cutA
  have e : HT.sIx W.length 0 none = 0 := rfl
  have e2 : HT.sIx W.length W.length (some (-1)) = W.length - 1 := by
    show (if (-1 : Int) < 0 then ((-1 : Int) + (W.length : Int)).toNat else min (-1 : Int).toNat W.length) = _
    rw [if_pos (by decide)]
    omega
  rw [e, e2, List.drop_zero, Nat.sub_zero, List.dropLast_eq_take]
theorem flat_one (x : A) : ∀ k : Nat, (List.replicate k [x]).flatten = List.replicate k x
  | 0 => rfl
  | k + 1 => by
    rw [List.replicate_succ, List.flatten_cons, flat_one x k, List.replicate_succ]
    rfl
end L03
set_option maxHeartbeats 1000001
namespace L03
open PySem PySem.Spec
open PyProof.Rows L2 DL FL
variable {m : AM}
theorem f_refused {p : Nat} {k n many : Int} {w : Str} {ws : List Int} {r : Int} (hp : PuA m p k) (hk : k ≤ 800000000) (h1 : 1 ≤ n) (h8 : n ≤ 8) (h01 : ∀ x ∈ ws, 0 ≤ x ∧ x < 2 ^ n.toNat) (hlen : (ws.length : Int) = many) (tw : Tame 300 6 (.str w)) (iw : inV (.str w) wordsV = true) {v : Bool} (is : inV (.str w) singleV = v) (em : many = if v then 1 else 2)
    (due : w ≠ "wide" → w ≠ "bit" → ∀ m, p__law_due [.str w, .int n, .lst (ws.map .int), .int 1, .int 0] m = .ok (.int r) m)
    (told : w ≠ "wide" → w ≠ "bit" → ∀ m a b, p_reckoned [.str w, .int n, .lst (ws.map .int), a, b] m = .ok (.int r) m) (hr : 0 ≤ r ∧ r ≤ 300) (one : (w = "wide" ∨ w = "bit") → ∃ a, ws = [a]) :
    ∃ m', p__law_refused_right [.loc p, .str w, .int n, .lst (ws.map .int)] m = .ok (.bl true) m' ∧ PuA m' p (k + 5) := by
  unfold p__law_refused_right q__law_refused_right
  have top := pow8 h1 h8
  have c1 : cPow 1 n = true := cp (by omega) (by omega) (by decide)
  have many12 : many = 1 ∨ many = 2 := by cases v <;> simp [em]
  have wl : ws.length ≤ 2 := by omega
  have wl1 : 1 ≤ ws.length := by omega
  generalize hW : ws.map A.int = W
  have lW : W.length = ws.length := by rw [← hW, List.length_map]
  -- the odd word
  obtain ⟨d1, m1, x1, a1, b1, p1, u1⟩ := f_take (m ++ [.lst [.str "add"]]) p k 10 (hp.more _) (by omega) (by decide) (by decide)
  obtain ⟨odd, x1', odd'⟩ := atA (l := [.non, .int 7, .str "pick", .str "NOT", .str "", .loc m.length, .tup [.str "add"], .str "lit", .dct [], .bl true]) a1 (by simpa using b1)
  -- the odd width
  obtain ⟨d2, m2, x2, a2, b2, p2, u2⟩ := f_take (m1 ++ [.lst [.int 1]]) p (k + 1) 8 (p1.more _) (by omega) (by decide) (by decide)
  obtain ⟨wide, x2', wide'⟩ := atA (l := [.non, .int 0, .int 9, .bl true, .str "1", .loc m1.length, .dct [], .int (-1)]) a2 (by simpa using b2)
  have l1 : W.length + 1 ≤ 1000000 := by omega
  have l2 : 1 + (W.drop 1).length ≤ 1000000 := by rw [List.length_drop]; omega
  have l3 : W.dropLast.length + 1 ≤ 1000000 := by rw [List.length_dropLast]; omega
  have l4 : (0 : Int) ≤ (W.length : Int) ∧ (W.length : Int) ≤ 1000 ∧ True := ⟨by omega, by omega, True.intro⟩
  simp only [e_ok, e_ex, e_bad, e_sok, e_sex, e_sbad, e_var0, e_varS, e_varB0, e_varB1, e_varBS, e_c, e_nil, e_cons, e_op, e_some, e_none, e_cb, e_tup, e_lstF, e_val, e_bOf, e_iOf, e_andT, e_orT, e_notT, e_and, e_or, e_not, e_if, e_chain, e_neg, e_dct0, e_isi2, e_noP, e_pt, e_sl, e_P1, e_slL, e_slT, e_rev, e_call, e_callK, e_lstV, e_new, e_vLst, e_vCat, e_vSl, e_vList, e_vRep, e_lcV, e_compK, e_forK, e_iSq, e_iEn, e_iRg, e_vsqL, e_vsqT, e_iZp, e_catLL, e_catTT, e_aI0, e_aI, e_seqL, e_seqT, e_ixL, e_ixT, e_lenL, e_lenT, e_isi, e_max, e_min, e_tupL, e_tupT, e_intI, e_intB, e_listL, e_listT, e_all, e_any, e_sum, e_all, e_eqII, e_eqSS, e_next, e_seq, e_snx, e_srt, e_sbk, e_sct, e_sxx, e_sbd, e_drop, e_ret, e_retN, e_qif, e_break, e_cont, e_asg, e_asgT, e_ownV, e_app, e_par, e_raise, e_for, e_try, e_txx, e_tnx, e_trt, e_hrt, e_body, e_fnx, e_frt, e_fex, e_start0, e_startS, e_rep0, e_repS, List.append_nil, List.nil_append, List.set_cons_zero, List.set_cons_succ, List.length_cons, List.length_nil, List.length_map, List.length_range, Nat.reduceAdd, Nat.reduceLeDiff, Nat.reduceLT, Int.reduceLT, Int.reduceEq, Int.reduceLE, Int.reducePow, Int.reduceNeg, Int.reduceMul, Int.reduceAdd, Int.reduceSub, Int.reduceToNat, if_true, if_false, cond_true, cond_false, decide_true, decide_false, Bool.and_true, Bool.true_and, Bool.and_false, Bool.false_and, Bool.or_true, Bool.true_or, Bool.or_false, Bool.false_or, Bool.not_true, Bool.not_false, Bool.false_eq_true, Option.some.injEq, and_true, true_and, and_self, t_non, t_bl, t_int, t_str, t_lst, t_tup, t_dct, isiB, tyNs, List.contains_cons, List.contains_nil, String.reduceBEq, Bool.or_self, Bool.and_self, beq_self_eq_true, nc0, nc1, nc2, nc3, nc4, nc5, nc6, nc7, nc8, nc9, nc10, nc11, nc12, e_at0, e_at1, e_at2, e_at3, e_at4, e_at5, e_at6, e_at7, e_at8, e_at9, e_at10, e_at11, e_atm1, e_atm2, e_atm3, e_atm4, e_atm5, e_vLst, x1, x1', x2, x2', c1, Int.one_mul, cut_drop1, cut_last, l1, l2, l3, l4]
  simp only [List.append_assoc, List.length_append, List.length_singleton, List.cons_append, List.nil_append, List.length_cons, List.length_nil, Nat.zero_add, Nat.reduceAdd, Nat.add_assoc, Int.toNat_natCast, flat_one]
  have cat : ∀ (l1 l2 : List A) (mm : AM) (i : Nat), mm[i]? = some (.lst l1) → l1.length + l2.length ≤ 1000000 → aCatL true (.loc i) (.lst l2) mm = some (.lst (l1 ++ l2), mm) := fun l1 l2 mm i h h2 => by
    simp only [aCatL, e_seqN h, e_seqL, h2, if_true]
  have at6 : ∀ (x0 x1 x2 x3 x4 x5 : AO) (i : Nat), i < 6 → (m2 ++ [x0, x1, x2, x3, x4, x5])[m2.length + i]? = [x0, x1, x2, x3, x4, x5][i]? := fun x0 x1 x2 x3 x4 x5 i _ => by
    rw [List.getElem?_append_right (Nat.le_add_right _ _), Nat.add_sub_cancel_left]
  generalize hM3 : m2 ++ [AO.lst (W ++ [.int 0]), .lst (List.drop 1 W), .lst (.int (2 ^ n.toNat) :: List.drop 1 W), .lst (W.dropLast ++ [.bl true]), .lst (List.replicate W.length .non), .lst [.loc m2.length, .loc (m2.length + 1), .loc (m2.length + 2), .loc (m2.length + 3), .non, .str "00", .dct [], .loc (m2.length + 4)]] = M3
  have g0 : M3[m2.length]? = some (.lst (W ++ [.int 0])) := by rw [← hM3]; exact at6 _ _ _ _ _ _ 0 (by decide)
  have g1 : M3[m2.length + 1]? = some (.lst (List.drop 1 W)) := by rw [← hM3]; exact at6 _ _ _ _ _ _ 1 (by decide)
  have g2 : M3[m2.length + 2]? = some (.lst (.int (2 ^ n.toNat) :: List.drop 1 W)) := by rw [← hM3]; exact at6 _ _ _ _ _ _ 2 (by decide)
  have g3 : M3[m2.length + 3]? = some (.lst (W.dropLast ++ [.bl true])) := by rw [← hM3]; exact at6 _ _ _ _ _ _ 3 (by decide)
  have g4 : M3[m2.length + 4]? = some (.lst (List.replicate W.length .non)) := by rw [← hM3]; exact at6 _ _ _ _ _ _ 4 (by decide)
  have g5 : M3[m2.length + 5]? = some (.lst [.loc m2.length, .loc (m2.length + 1), .loc (m2.length + 2), .loc (m2.length + 3), .non, .str "00", .dct [], .loc (m2.length + 4)]) := by rw [← hM3]; exact at6 _ _ _ _ _ _ 5 (by decide)
  have pl := p2.lt
  have pM3 : PuA M3 p (k + 2) := (p2.le (by omega)).at (by rw [← hM3]; exact List.getElem?_append_left pl)
  have uM3 : ButA p m2 M3 := ⟨by rw [← hM3]; simp, fun q _ hq => by rw [← hM3]; exact List.getElem?_append_left hq⟩
  obtain ⟨d3, m3, x3, a3, b3, p3, u3⟩ := f_take M3 p (k + 2) 9 pM3 (by omega) (by decide) (by decide)
  obtain ⟨bad, x3', bad'⟩ := atA (l := [.loc m2.length, .loc (m2.length + 1), .loc (m2.length + 2), .loc (m2.length + 3), .non, .str "00", .dct [], .loc (m2.length + 4), .tup (W.dropLast ++ [.int (-1)])]) a3 (by simpa using b3)
  obtain ⟨d4, m4, x4, a4, b4, p4, u4⟩ := f_take (m3 ++ [.lst [.int 1]]) p (k + 2 + 1) 6 (p3.more _) (by omega) (by decide) (by decide)
  obtain ⟨least, x4', least'⟩ := atA (l := [.int 0, .int 9, .bl true, .non, .loc m3.length, .str "1"]) a4 (by simpa using b4)
  obtain ⟨d5, m5, x5, a5, b5, p5, u5⟩ := f_take (m4 ++ [.lst [.int 0]]) p (k + 2 + 1 + 1) 6 (p4.more _) (by omega) (by decide) (by decide)
  obtain ⟨past, x5', past'⟩ := atA (l := [.int n, .int (-1), .bl true, .non, .loc m4.length, .int 8]) a5 (by simpa using b5)
  simp only [e_ok, e_ex, e_bad, e_sok, e_sex, e_sbad, e_var0, e_varS, e_varB0, e_varB1, e_varBS, e_c, e_nil, e_cons, e_op, e_some, e_none, e_cb, e_tup, e_lstF, e_val, e_bOf, e_iOf, e_andT, e_orT, e_notT, e_and, e_or, e_not, e_if, e_chain, e_neg, e_dct0, e_isi2, e_noP, e_pt, e_sl, e_P1, e_slL, e_slT, e_rev, e_call, e_callK, e_lstV, e_new, e_vLst, e_vCat, e_vSl, e_vList, e_vRep, e_lcV, e_compK, e_forK, e_iSq, e_iEn, e_iRg, e_vsqL, e_vsqT, e_iZp, e_catLL, e_catTT, e_aI0, e_aI, e_seqL, e_seqT, e_ixL, e_ixT, e_lenL, e_lenT, e_isi, e_max, e_min, e_tupL, e_tupT, e_intI, e_intB, e_listL, e_listT, e_all, e_any, e_sum, e_all, e_eqII, e_eqSS, e_next, e_seq, e_snx, e_srt, e_sbk, e_sct, e_sxx, e_sbd, e_drop, e_ret, e_retN, e_qif, e_break, e_cont, e_asg, e_asgT, e_ownV, e_app, e_par, e_raise, e_for, e_try, e_txx, e_tnx, e_trt, e_hrt, e_body, e_fnx, e_frt, e_fex, e_start0, e_startS, e_rep0, e_repS, List.append_nil, List.nil_append, List.set_cons_zero, List.set_cons_succ, List.length_cons, List.length_nil, List.length_map, List.length_range, Nat.reduceAdd, Nat.reduceLeDiff, Nat.reduceLT, Int.reduceLT, Int.reduceEq, Int.reduceLE, Int.reducePow, Int.reduceNeg, Int.reduceMul, Int.reduceAdd, Int.reduceSub, Int.reduceToNat, if_true, if_false, cond_true, cond_false, decide_true, decide_false, Bool.and_true, Bool.true_and, Bool.and_false, Bool.false_and, Bool.or_true, Bool.true_or, Bool.or_false, Bool.false_or, Bool.not_true, Bool.not_false, Bool.false_eq_true, Option.some.injEq, and_true, true_and, and_self, t_non, t_bl, t_int, t_str, t_lst, t_tup, t_dct, isiB, tyNs, List.contains_cons, List.contains_nil, String.reduceBEq, Bool.or_self, Bool.and_self, beq_self_eq_true, nc0, nc1, nc2, nc3, nc4, nc5, nc6, nc7, nc8, nc9, nc10, nc11, nc12, e_at0, e_at1, e_at2, e_at3, e_at4, e_at5, e_at6, e_at7, e_at8, e_at9, e_at10, e_at11, e_atm1, e_atm2, e_atm3, e_atm4, e_atm5, cat _ [A.tup (W.dropLast ++ [A.int (-1)])] M3 _ g5 (by simp), x3, List.cons_append, x3', e_vLst, x4, x4', x5, x5', List.getElem?_cons_succ, List.getElem?_cons_zero]
  -- what the things are
  have B4 : ButA p m4 m5 := (ButA.more _).trans u5
  have B3 : ButA p m3 m5 := ((ButA.more _).trans u4).trans B4
  have BM : ButA p M3 m5 := u3.trans B3
  have B2 : ButA p m2 m5 := uM3.trans BM
  have B1 : ButA p m1 m5 := ((ButA.more _).trans u2).trans B2
  have ti : ∀ x : Int, -1000 ≤ x → x ≤ 1000 → Tame 0 0 (.int x) := fun x h1 h2 => Tame.int (by omega) (by omega)
  have tt : ∀ q : PyData, Tame 40 2 q → plainP q = true → (∀ ps, q ≠ .list ps) → ThingA p m5 (ofPA q) q := fun q h1 h2 h3 => ⟨h1.mono (by decide) (by decide), .inl ⟨rfl, h2, h3⟩⟩
  have tl : ∀ (r : Nat) (ps : List PyData), m5[r]? = some (.lst (ofPAs ps)) → r ≠ p → plainPs ps = true → ps.length ≤ 9 → (∀ y ∈ ps, Tame 20 1 y) → ThingA p m5 (.loc r) (.list ps) := fun r ps h1 h2 h3 h4 h5 =>
    ⟨(Tame.list h5).mono (by omega) (by decide), .inr ⟨r, ps, rfl, rfl, h1, h3, h2, h4, fun y hy => (h5 y hy).mono (by decide) (by decide)⟩⟩
  have pl0 := hp.lt
  have pl1 := p1.lt
  have pl3 := p3.lt
  have pl4 := p4.lt
  have to : ∃ qo, ThingA p m5 odd qo ∧ notWord odd (tyP qo) := by
    simp only [List.not_mem_nil, List.mem_cons, or_false] at odd'
    rcases odd' with rfl | rfl | rfl | rfl | rfl | rfl | rfl | rfl | rfl | rfl
    · exact ⟨.none, tt .none (Tame.non.mono (by decide) (by decide)) rfl (by simp), fun h => by simp [tyP] at h⟩
    · exact ⟨.int 7, tt (.int 7) ((ti 7 (by decide) (by decide)).mono (by decide) (by decide)) rfl (by simp), fun h => by simp [tyP] at h⟩
    · exact ⟨.str "pick", tt (.str "pick") ⟨by decide, by decide, by decide, by decide⟩ rfl (by simp), fun _ => ⟨_, rfl, by decide⟩⟩
    · exact ⟨.str "NOT", tt (.str "NOT") ⟨by decide, by decide, by decide, by decide⟩ rfl (by simp), fun _ => ⟨_, rfl, by decide⟩⟩
    · exact ⟨.str "", tt (.str "") ⟨by decide, by decide, by decide, by decide⟩ rfl (by simp), fun _ => ⟨_, rfl, by decide⟩⟩
    · have h0 : (m ++ [AO.lst [A.str "add"]])[m.length]? = some (.lst [.str "add"]) := by simp
      have h5 := (u1.trans B1).keep (by omega) h0
      exact ⟨.list [.str "add"], tl m.length [.str "add"] h5 (by omega) rfl (by decide) fun y hy => by rw [List.mem_singleton.mp hy]; exact ⟨by decide, by decide, by decide, by decide⟩, fun h => by simp [tyP] at h⟩
    · exact ⟨.tuple [.str "add"], tt (.tuple [.str "add"]) ⟨by decide, by decide, by decide, by decide⟩ rfl (by simp), fun h => by simp [tyP] at h⟩
    · exact ⟨.str "lit", tt (.str "lit") ⟨by decide, by decide, by decide, by decide⟩ rfl (by simp), fun _ => ⟨_, rfl, by decide⟩⟩
    · exact ⟨.dict [], tt (.dict []) (Tame.dict0.mono (by decide) (by decide)) rfl (by simp), fun h => by simp [tyP] at h⟩
    · exact ⟨.bool true, tt (.bool true) (Tame.bool.mono (by decide) (by decide)) rfl (by simp), fun h => by simp [tyP] at h⟩
  obtain ⟨qo, to, no⟩ := to
  have tf : ∃ qf, ThingA p m5 wide qf ∧ wholeA wide 1 8 = false := by
    simp only [List.not_mem_nil, List.mem_cons, or_false] at wide'
    rcases wide' with rfl | rfl | rfl | rfl | rfl | rfl | rfl | rfl
    · exact ⟨.none, tt .none (Tame.non.mono (by decide) (by decide)) rfl (by simp), rfl⟩
    · exact ⟨.int 0, tt (.int 0) ((ti 0 (by decide) (by decide)).mono (by decide) (by decide)) rfl (by simp), by decide⟩
    · exact ⟨.int 9, tt (.int 9) ((ti 9 (by decide) (by decide)).mono (by decide) (by decide)) rfl (by simp), by decide⟩
    · exact ⟨.bool true, tt (.bool true) (Tame.bool.mono (by decide) (by decide)) rfl (by simp), rfl⟩
    · exact ⟨.str "1", tt (.str "1") ⟨by decide, by decide, by decide, by decide⟩ rfl (by simp), rfl⟩
    · have h0 : (m1 ++ [AO.lst [A.int 1]])[m1.length]? = some (.lst [.int 1]) := by simp
      have h5 := (u2.trans B2).keep (by omega) h0
      exact ⟨.list [.int 1], tl m1.length [.int 1] h5 (by omega) rfl (by decide) fun y hy => by rw [List.mem_singleton.mp hy]; exact (ti 1 (by decide) (by decide)).mono (by decide) (by decide), rfl⟩
    · exact ⟨.dict [], tt (.dict []) (Tame.dict0.mono (by decide) (by decide)) rfl (by simp), rfl⟩
    · exact ⟨.int (-1), tt (.int (-1)) ((ti (-1) (by decide) (by decide)).mono (by decide) (by decide)) rfl (by simp), by decide⟩
  obtain ⟨qf, tf, nf⟩ := tf
  have tle : ∃ ql, ThingA p m5 least ql ∧ wholeA least 1 8 = false := by
    simp only [List.not_mem_nil, List.mem_cons, or_false] at least'
    rcases least' with rfl | rfl | rfl | rfl | rfl | rfl
    · exact ⟨.int 0, tt (.int 0) ((ti 0 (by decide) (by decide)).mono (by decide) (by decide)) rfl (by simp), by decide⟩
    · exact ⟨.int 9, tt (.int 9) ((ti 9 (by decide) (by decide)).mono (by decide) (by decide)) rfl (by simp), by decide⟩
    · exact ⟨.bool true, tt (.bool true) (Tame.bool.mono (by decide) (by decide)) rfl (by simp), rfl⟩
    · exact ⟨.none, tt .none (Tame.non.mono (by decide) (by decide)) rfl (by simp), rfl⟩
    · have h0 : (m3 ++ [AO.lst [A.int 1]])[m3.length]? = some (.lst [.int 1]) := by simp
      have h5 := (u4.trans B4).keep (by omega) h0
      exact ⟨.list [.int 1], tl m3.length [.int 1] h5 (by omega) rfl (by decide) fun y hy => by rw [List.mem_singleton.mp hy]; exact (ti 1 (by decide) (by decide)).mono (by decide) (by decide), rfl⟩
    · exact ⟨.str "1", tt (.str "1") ⟨by decide, by decide, by decide, by decide⟩ rfl (by simp), rfl⟩
  obtain ⟨ql, tle, nl⟩ := tle
  have tp : ∃ qp, ThingA p m5 past qp ∧ wholeA past 0 (n - 1) = false := by
    simp only [List.not_mem_nil, List.mem_cons, or_false] at past'
    rcases past' with rfl | rfl | rfl | rfl | rfl | rfl
    · exact ⟨.int n, tt (.int n) ((ti n (by omega) (by omega)).mono (by decide) (by decide)) rfl (by simp), by simp [wholeA]; omega⟩
    · exact ⟨.int (-1), tt (.int (-1)) ((ti (-1) (by decide) (by decide)).mono (by decide) (by decide)) rfl (by simp), by simp [wholeA]⟩
    · exact ⟨.bool true, tt (.bool true) (Tame.bool.mono (by decide) (by decide)) rfl (by simp), rfl⟩
    · exact ⟨.none, tt .none (Tame.non.mono (by decide) (by decide)) rfl (by simp), rfl⟩
    · have h0 : (m4 ++ [AO.lst [A.int 0]])[m4.length]? = some (.lst [.int 0]) := by simp
      have h5 := u5.keep (by omega) h0
      exact ⟨.list [.int 0], tl m4.length [.int 0] h5 (by omega) rfl (by decide) fun y hy => by rw [List.mem_singleton.mp hy]; exact (ti 0 (by decide) (by decide)).mono (by decide) (by decide), rfl⟩
    · exact ⟨.int 8, tt (.int 8) ((ti 8 (by decide) (by decide)).mono (by decide) (by decide)) rfl (by simp), by simp [wholeA]; omega⟩
  obtain ⟨qp, tp, np⟩ := tp
  -- the odd worths
  have hWA : ∀ (xs : List Int), ofPAs (xs.map .int) = xs.map A.int := ofPAs_ints
  have tw' : ∀ x ∈ ws, Tame 20 1 (.int x) := fun x hx => by
    have := h01 x hx
    exact (Tame.int (by omega) (by omega)).mono (by decide) (by decide)
  have tm : ∀ (xs : List Int), (∀ x ∈ xs, -1 ≤ x ∧ x ≤ 256) → ∀ y ∈ xs.map PyData.int, Tame 20 1 y := fun xs h y hy => by
    obtain ⟨x, hx, rfl⟩ := List.mem_map.mp hy
    have := h x hx
    exact (Tame.int (by omega) (by omega)).mono (by decide) (by decide)
  have hb : ∀ x ∈ ws, -1 ≤ x ∧ x ≤ 256 := fun x hx => by have := h01 x hx; omega
  have hd1 : ∀ x ∈ ws.drop 1, -1 ≤ x ∧ x ≤ 256 := fun x hx => hb x (List.mem_of_mem_drop hx)
  have hd2 : ∀ x ∈ ws.dropLast, -1 ≤ x ∧ x ≤ 256 := fun x hx => hb x (List.dropLast_subset _ hx)
  have pn : ∀ i : Nat, m2.length + i ≠ p := fun i => by have := p2.lt; omega
  have tyi : ∀ (xs : List A), (∀ d ∈ xs, ∃ q, plainP q = true ∧ d = ofPA q) → ∀ d ∈ xs, ∃ t, tyA m5 d = some t := fun xs h d hd => by
    obtain ⟨q, _, rfl⟩ := h d hd
    cases q <;> exact ⟨_, rfl⟩
  have wi : ∀ d ∈ W, ∃ q, plainP q = true ∧ d = ofPA q := fun d hd => by
    rw [← hW] at hd
    obtain ⟨x, _, rfl⟩ := List.mem_map.mp hd
    exact ⟨.int x, rfl, rfl⟩
  have tb : ∃ qb, ThingA p m5 bad qb ∧ BadW m5 bad n many := by
    simp only [List.not_mem_nil, List.mem_cons, or_false] at bad'
    rcases bad' with rfl | rfl | rfl | rfl | rfl | rfl | rfl | rfl | rfl
    · have h5 := BM.keep (pn 0) g0
      have e : W ++ [A.int 0] = ofPAs ((ws ++ [0]).map .int) := by rw [hWA, List.map_append, hW]; rfl
      refine ⟨_, tl _ ((ws ++ [0]).map .int) (by rw [← e]; exact h5) (pn 0) (plain_ints _) (by rw [List.length_map, List.length_append, List.length_singleton]; omega) (tm _ fun x hx => ?_), "list", t_locL h5, .inr ⟨rfl, _, _, _, vsq_loc h5, by rw [List.length_append, List.length_singleton]; omega, .inl (by rw [List.length_append, List.length_singleton]; omega)⟩⟩
      rcases List.mem_append.mp hx with z | z
      · exact hb x z
      · rw [List.mem_singleton.mp z]; decide
    · have h5 := BM.keep (pn 1) g1
      have e : W.drop 1 = ofPAs ((ws.drop 1).map .int) := by rw [hWA, List.map_drop, hW]
      exact ⟨_, tl _ ((ws.drop 1).map .int) (by rw [← e]; exact h5) (pn 1) (plain_ints _) (by rw [List.length_map, List.length_drop]; omega) (tm _ hd1), "list", t_locL h5, .inr ⟨rfl, _, _, _, vsq_loc h5, by rw [List.length_drop]; omega, .inl (by rw [List.length_drop]; omega)⟩⟩
    · have h5 := BM.keep (pn 2) g2
      have e : A.int (2 ^ n.toNat) :: W.drop 1 = ofPAs ((2 ^ n.toNat :: ws.drop 1).map .int) := by rw [hWA, List.map_cons, List.map_drop, hW]
      refine ⟨_, tl _ ((2 ^ n.toNat :: ws.drop 1).map .int) (by rw [← e]; exact h5) (pn 2) (plain_ints _) (by rw [List.length_map, List.length_cons, List.length_drop]; omega) (tm _ fun x hx => ?_), "list", t_locL h5, .inr ⟨rfl, _, _, _, vsq_loc h5, by rw [List.length_cons, List.length_drop]; omega, .inr ⟨by rw [List.length_cons, List.length_drop]; omega, tyi _ fun d hd => ?_, ?_⟩⟩⟩
      · rcases List.mem_cons.mp hx with rfl | z
        · omega
        · exact hd1 x z
      · rcases List.mem_cons.mp hd with rfl | z
        · exact ⟨.int _, rfl, rfl⟩
        · exact wi d (List.mem_of_mem_drop z)
      · have : wholeA (.int (2 ^ n.toNat)) 0 (2 ^ n.toNat - 1) = false := by simp only [wholeA, Bool.and_eq_false_iff, decide_eq_false_iff_not]; omega
        rw [List.all_cons, this, Bool.false_and]
    · have h5 := BM.keep (pn 3) g3
      have e : W.dropLast ++ [A.bl true] = ofPAs ((ws.dropLast).map .int ++ [.bool true]) := by
        rw [ofPAs_map, List.map_append, ← ofPAs_map, hWA, List.map_dropLast, hW]
        rfl
      refine ⟨_, tl _ ((ws.dropLast).map .int ++ [.bool true]) (by rw [← e]; exact h5) (pn 3) (plain_append (plain_ints _) rfl) (by rw [List.length_append, List.length_map, List.length_dropLast, List.length_singleton]; omega) fun y hy => ?_, "list", t_locL h5, .inr ⟨rfl, _, _, _, vsq_loc h5, by rw [List.length_append, List.length_dropLast, List.length_singleton]; omega, .inr ⟨by rw [List.length_append, List.length_dropLast, List.length_singleton]; omega, tyi _ fun d hd => ?_, ?_⟩⟩⟩
      · rcases List.mem_append.mp hy with z | z
        · exact tm _ hd2 y z
        · rw [(List.mem_singleton.mp z)]
          exact Tame.bool.mono (by decide) (by decide)
      · rcases List.mem_append.mp hd with z | z
        · exact wi d (List.dropLast_subset _ z)
        · rw [(List.mem_singleton.mp z)]
          exact ⟨.bool true, rfl, rfl⟩
      · rw [List.all_append, List.all_cons, show wholeA (.bl true) 0 (2 ^ n.toNat - 1) = false from rfl, Bool.false_and, Bool.and_false]
    · exact ⟨.none, tt .none (Tame.non.mono (by decide) (by decide)) rfl (by simp), "NoneType", rfl, .inl (by decide)⟩
    · exact ⟨.str "00", tt (.str "00") ⟨by decide, by decide, by decide, by decide⟩ rfl (by simp), "str", rfl, .inl (by decide)⟩
    · exact ⟨.dict [], tt (.dict []) (Tame.dict0.mono (by decide) (by decide)) rfl (by simp), "dict", rfl, .inl (by decide)⟩
    · have h5 := BM.keep (pn 4) g4
      have e : List.replicate W.length A.non = ofPAs (List.replicate W.length .none) := by rw [ofPAs_map, List.map_replicate]; rfl
      have pr : ∀ k : Nat, plainPs (List.replicate k .none) = true := fun k => by
        induction k with
        | zero => rfl
        | succ k ih => rw [List.replicate_succ, plainPs, ih]; rfl
      refine ⟨_, tl _ (List.replicate W.length .none) (by rw [← e]; exact h5) (pn 4) (pr _) (by rw [List.length_replicate]; omega) fun y hy => ?_, "list", t_locL h5, .inr ⟨rfl, _, _, _, vsq_loc h5, by rw [List.length_replicate]; omega, .inr ⟨by rw [List.length_replicate]; omega, fun d hd => ?_, ?_⟩⟩⟩
      · rw [List.eq_of_mem_replicate hy]
        exact Tame.non.mono (by decide) (by decide)
      · rw [List.eq_of_mem_replicate hd]
        exact ⟨_, rfl⟩
      · obtain ⟨z, hz⟩ : ∃ z, W.length = z + 1 := ⟨W.length - 1, by omega⟩
        rw [hz, List.replicate_succ, List.all_cons, show wholeA .non 0 (2 ^ n.toNat - 1) = false from rfl, Bool.false_and]
    · have e : A.tup (W.dropLast ++ [A.int (-1)]) = ofPA (.tuple ((ws.dropLast ++ [-1]).map .int)) := by
        show _ = A.tup (ofPAs _)
        rw [hWA, List.map_append, List.map_dropLast, hW]
        rfl
      rw [e]
      refine ⟨_, ⟨(Tame.tuple (b := 20) (k := 1) (tm (ws.dropLast ++ [-1]) fun x hx => ?_)).mono (by rw [List.length_map, List.length_append, List.length_dropLast, List.length_singleton]; omega) (by decide), .inl ⟨rfl, plain_ints _, by simp⟩⟩, ?_⟩
      · rcases List.mem_append.mp hx with z | z
        · exact hd2 x z
        · rw [List.mem_singleton.mp z]; decide
      · rw [← e]
        refine ⟨"tuple", rfl, .inr ⟨rfl, _, _, _, rfl, by rw [List.length_append, List.length_dropLast, List.length_singleton]; omega, .inr ⟨by rw [List.length_append, List.length_dropLast, List.length_singleton]; omega, tyi _ fun d hd => ?_, ?_⟩⟩⟩
        · rcases List.mem_append.mp hd with z | z
          · exact wi d (List.dropLast_subset _ z)
          · rw [(List.mem_singleton.mp z)]
            exact ⟨.int (-1), rfl, rfl⟩
        · rw [List.all_append, List.all_cons, show wholeA (.int (-1)) 0 (2 ^ n.toNat - 1) = false by simp [wholeA], Bool.false_and, Bool.and_false]
  obtain ⟨qb, tb, nb⟩ := tb
  have pdW : pd m5 (.lst W) = some (.list (ws.map .int)) := by rw [← hW]; exact pd_ints ws
  have tWp : Tame 300 6 (.list (ws.map .int)) := (Tame.list (b := 20) (k := 1) (tm ws hb)).mono (by rw [List.length_map]; omega) (by decide)
  have pe : PuA m5 p (k + 5) := p5.le (by omega)
  have tstr : ∀ z : Str, z = "told" ∨ z = "width" ∨ z = "number" → Tame 300 6 (.str z) := fun z hz => by
    rcases hz with rfl | rfl | rfl <;> exact ⟨by decide, by decide, by decide, by decide⟩
  have ce : ((2 : Int) ^ n.toNat) ≤ 256 := top.2
  by_cases hw1 : w = "wide"
  · subst hw1
    obtain ⟨a, rfl⟩ := one (.inl rfl)
    have ha := h01 a List.mem_cons_self
    have hWa : W = [.int a] := hW.symm
    have ee := fun e0 e1 e2 e3 e4 e5 e6 e7 e8 e9 e10 e11 e12 e13 e14 e15 e16 e17 e18 => tail_ok (m := m5) (e0 := e0) (e1 := e1) (e2 := e2) (e3 := e3) (e4 := e4) (e5 := e5) (e6 := e6) (e7 := e7) (e8 := e8) (e9 := e9) (e10 := e10) (e11 := e11) (e12 := e12) (e13 := e13) (e14 := e14) (e15 := e15) (e16 := e16) (e17 := e17) (e18 := e18) h1 h8 tw iw is em to no tf nf tb nb tle tp pdW tWp tle (tstr "width" (.inr (.inl rfl))) (f_asked2 (.width (f_rx_more h1 h8 (by rw [hWa]) ha.1 ha.2 (.inl ⟨rfl, tle.ty, nl, rfl, rfl⟩))))
    simp (config := { decide := true }) only [e_ok, e_ex, e_bad, e_sok, e_sex, e_sbad, e_var0, e_varS, e_varB0, e_varB1, e_varBS, e_c, e_nil, e_cons, e_op, e_some, e_none, e_cb, e_tup, e_lstF, e_val, e_bOf, e_iOf, e_andT, e_orT, e_notT, e_and, e_or, e_not, e_if, e_chain, e_neg, e_dct0, e_isi2, e_noP, e_pt, e_sl, e_P1, e_slL, e_slT, e_rev, e_call, e_callK, e_lstV, e_new, e_vLst, e_vCat, e_vSl, e_vList, e_vRep, e_lcV, e_compK, e_forK, e_iSq, e_iEn, e_iRg, e_vsqL, e_vsqT, e_iZp, e_catLL, e_catTT, e_aI0, e_aI, e_seqL, e_seqT, e_ixL, e_ixT, e_lenL, e_lenT, e_isi, e_max, e_min, e_tupL, e_tupT, e_intI, e_intB, e_listL, e_listT, e_all, e_any, e_sum, e_all, e_eqII, e_eqSS, e_next, e_seq, e_snx, e_srt, e_sbk, e_sct, e_sxx, e_sbd, e_drop, e_ret, e_retN, e_qif, e_break, e_cont, e_asg, e_asgT, e_ownV, e_app, e_par, e_raise, e_for, e_try, e_txx, e_tnx, e_trt, e_hrt, e_body, e_fnx, e_frt, e_fex, e_start0, e_startS, e_rep0, e_repS, List.append_nil, List.nil_append, List.set_cons_zero, List.set_cons_succ, List.length_cons, List.length_nil, List.length_map, List.length_range, Nat.reduceAdd, Nat.reduceLeDiff, Nat.reduceLT, Int.reduceLT, Int.reduceEq, Int.reduceLE, Int.reducePow, Int.reduceNeg, Int.reduceMul, Int.reduceAdd, Int.reduceSub, Int.reduceToNat, if_true, if_false, cond_true, cond_false, decide_true, decide_false, Bool.and_true, Bool.true_and, Bool.and_false, Bool.false_and, Bool.or_true, Bool.true_or, Bool.or_false, Bool.false_or, Bool.not_true, Bool.not_false, Bool.false_eq_true, Option.some.injEq, and_true, true_and, and_self, t_non, t_bl, t_int, t_str, t_lst, t_tup, t_dct, isiB, tyNs, List.contains_cons, List.contains_nil, String.reduceBEq, Bool.or_self, Bool.and_self, beq_self_eq_true, nc0, nc1, nc2, nc3, nc4, nc5, nc6, nc7, nc8, nc9, nc10, nc11, nc12, e_at0, e_at1, e_at2, e_at3, e_at4, e_at5, e_at6, e_at7, e_at8, e_at9, e_at10, e_at11, e_atm1, e_atm2, e_atm3, e_atm4, e_atm5, e_condB, e_condS, e_condQ, e_condF, e_condT, e_condO, e_cc, e_condBl, e_condAA, c_F, c_T, c_nF, c_nT, qFrz, List.cons_append, List.getElem?_cons_succ, List.getElem?_cons_zero, ee]
    exact ⟨_, rfl, pe⟩
  · by_cases hw2 : w = "bit"
    · subst hw2
      obtain ⟨a, rfl⟩ := one (.inr rfl)
      have ha := h01 a List.mem_cons_self
      have hWa : W = [.int a] := hW.symm
      have ee := fun e0 e1 e2 e3 e4 e5 e6 e7 e8 e9 e10 e11 e12 e13 e14 e15 e16 e17 e18 => tail_ok (m := m5) (e0 := e0) (e1 := e1) (e2 := e2) (e3 := e3) (e4 := e4) (e5 := e5) (e6 := e6) (e7 := e7) (e8 := e8) (e9 := e9) (e10 := e10) (e11 := e11) (e12 := e12) (e13 := e13) (e14 := e14) (e15 := e15) (e16 := e16) (e17 := e17) (e18 := e18) h1 h8 tw iw is em to no tf nf tb nb tle tp pdW tWp tp (tstr "number" (.inr (.inr rfl))) (f_asked2 (.number (f_rx_more h1 h8 (by rw [hWa]) ha.1 ha.2 (.inr ⟨rfl, tp.ty, np, rfl, rfl⟩))))
      simp (config := { decide := true }) only [e_ok, e_ex, e_bad, e_sok, e_sex, e_sbad, e_var0, e_varS, e_varB0, e_varB1, e_varBS, e_c, e_nil, e_cons, e_op, e_some, e_none, e_cb, e_tup, e_lstF, e_val, e_bOf, e_iOf, e_andT, e_orT, e_notT, e_and, e_or, e_not, e_if, e_chain, e_neg, e_dct0, e_isi2, e_noP, e_pt, e_sl, e_P1, e_slL, e_slT, e_rev, e_call, e_callK, e_lstV, e_new, e_vLst, e_vCat, e_vSl, e_vList, e_vRep, e_lcV, e_compK, e_forK, e_iSq, e_iEn, e_iRg, e_vsqL, e_vsqT, e_iZp, e_catLL, e_catTT, e_aI0, e_aI, e_seqL, e_seqT, e_ixL, e_ixT, e_lenL, e_lenT, e_isi, e_max, e_min, e_tupL, e_tupT, e_intI, e_intB, e_listL, e_listT, e_all, e_any, e_sum, e_all, e_eqII, e_eqSS, e_next, e_seq, e_snx, e_srt, e_sbk, e_sct, e_sxx, e_sbd, e_drop, e_ret, e_retN, e_qif, e_break, e_cont, e_asg, e_asgT, e_ownV, e_app, e_par, e_raise, e_for, e_try, e_txx, e_tnx, e_trt, e_hrt, e_body, e_fnx, e_frt, e_fex, e_start0, e_startS, e_rep0, e_repS, List.append_nil, List.nil_append, List.set_cons_zero, List.set_cons_succ, List.length_cons, List.length_nil, List.length_map, List.length_range, Nat.reduceAdd, Nat.reduceLeDiff, Nat.reduceLT, Int.reduceLT, Int.reduceEq, Int.reduceLE, Int.reducePow, Int.reduceNeg, Int.reduceMul, Int.reduceAdd, Int.reduceSub, Int.reduceToNat, if_true, if_false, cond_true, cond_false, decide_true, decide_false, Bool.and_true, Bool.true_and, Bool.and_false, Bool.false_and, Bool.or_true, Bool.true_or, Bool.or_false, Bool.false_or, Bool.not_true, Bool.not_false, Bool.false_eq_true, Option.some.injEq, and_true, true_and, and_self, t_non, t_bl, t_int, t_str, t_lst, t_tup, t_dct, isiB, tyNs, List.contains_cons, List.contains_nil, String.reduceBEq, Bool.or_self, Bool.and_self, beq_self_eq_true, nc0, nc1, nc2, nc3, nc4, nc5, nc6, nc7, nc8, nc9, nc10, nc11, nc12, e_at0, e_at1, e_at2, e_at3, e_at4, e_at5, e_at6, e_at7, e_at8, e_at9, e_at10, e_at11, e_atm1, e_atm2, e_atm3, e_atm4, e_atm5, e_condB, e_condS, e_condQ, e_condF, e_condT, e_condO, e_cc, e_condBl, e_condAA, c_F, c_T, c_nF, c_nT, qFrz, List.cons_append, List.getElem?_cons_succ, List.getElem?_cons_zero, ee]
      exact ⟨_, rfl, pe⟩
    · have du := due hw1 hw2 m5
      rw [hW] at du
      have tr : ThingA p m5 (.int r) (.int r) := tt (.int r) ((ti r (by omega) (by omega)).mono (by decide) (by decide)) rfl (by simp)
      have ee := fun e0 e1 e2 e3 e4 e5 e6 e7 e8 e9 e10 e11 e12 e13 e14 e15 e16 e17 e18 => tail_ok (m := m5) (e0 := e0) (e1 := e1) (e2 := e2) (e3 := e3) (e4 := e4) (e5 := e5) (e6 := e6) (e7 := e7) (e8 := e8) (e9 := e9) (e10 := e10) (e11 := e11) (e12 := e12) (e13 := e13) (e14 := e14) (e15 := e15) (e16 := e16) (e17 := e17) (e18 := e18) h1 h8 tw iw is em to no tf nf tb nb tle tp pdW tWp tr (tstr "told" (.inl rfl)) (f_asked2 (.told (by have := told hw1 hw2 m5 least past; rw [hW] at this; exact this)))
      simp (config := { decide := true }) only [e_ok, e_ex, e_bad, e_sok, e_sex, e_sbad, e_var0, e_varS, e_varB0, e_varB1, e_varBS, e_c, e_nil, e_cons, e_op, e_some, e_none, e_cb, e_tup, e_lstF, e_val, e_bOf, e_iOf, e_andT, e_orT, e_notT, e_and, e_or, e_not, e_if, e_chain, e_neg, e_dct0, e_isi2, e_noP, e_pt, e_sl, e_P1, e_slL, e_slT, e_rev, e_call, e_callK, e_lstV, e_new, e_vLst, e_vCat, e_vSl, e_vList, e_vRep, e_lcV, e_compK, e_forK, e_iSq, e_iEn, e_iRg, e_vsqL, e_vsqT, e_iZp, e_catLL, e_catTT, e_aI0, e_aI, e_seqL, e_seqT, e_ixL, e_ixT, e_lenL, e_lenT, e_isi, e_max, e_min, e_tupL, e_tupT, e_intI, e_intB, e_listL, e_listT, e_all, e_any, e_sum, e_all, e_eqII, e_eqSS, e_next, e_seq, e_snx, e_srt, e_sbk, e_sct, e_sxx, e_sbd, e_drop, e_ret, e_retN, e_qif, e_break, e_cont, e_asg, e_asgT, e_ownV, e_app, e_par, e_raise, e_for, e_try, e_txx, e_tnx, e_trt, e_hrt, e_body, e_fnx, e_frt, e_fex, e_start0, e_startS, e_rep0, e_repS, List.append_nil, List.nil_append, List.set_cons_zero, List.set_cons_succ, List.length_cons, List.length_nil, List.length_map, List.length_range, Nat.reduceAdd, Nat.reduceLeDiff, Nat.reduceLT, Int.reduceLT, Int.reduceEq, Int.reduceLE, Int.reducePow, Int.reduceNeg, Int.reduceMul, Int.reduceAdd, Int.reduceSub, Int.reduceToNat, if_true, if_false, cond_true, cond_false, decide_true, decide_false, Bool.and_true, Bool.true_and, Bool.and_false, Bool.false_and, Bool.or_true, Bool.true_or, Bool.or_false, Bool.false_or, Bool.not_true, Bool.not_false, Bool.false_eq_true, Option.some.injEq, and_true, true_and, and_self, t_non, t_bl, t_int, t_str, t_lst, t_tup, t_dct, isiB, tyNs, List.contains_cons, List.contains_nil, String.reduceBEq, Bool.or_self, Bool.and_self, beq_self_eq_true, nc0, nc1, nc2, nc3, nc4, nc5, nc6, nc7, nc8, nc9, nc10, nc11, nc12, e_at0, e_at1, e_at2, e_at3, e_at4, e_at5, e_at6, e_at7, e_at8, e_at9, e_at10, e_at11, e_atm1, e_atm2, e_atm3, e_atm4, e_atm5, e_condB, e_condS, e_condQ, e_condF, e_condT, e_condO, e_cc, e_condBl, e_condAA, c_F, c_T, c_nF, c_nT, qFrz, List.cons_append, List.getElem?_cons_succ, List.getElem?_cons_zero, hw1, hw2, du, ee]
      exact ⟨_, rfl, pe⟩
end L03
set_option maxHeartbeats 1000001
namespace L03
open PySem PySem.Spec
open PyProof.Rows L2 DL FL
variable {m : AM}
structure WordOk (w : Str) (n : Int) (ws : List Int) (f : Int → Int → Int) : Prop where
  due : ∀ m to at_, 1 ≤ to → to ≤ 8 → 0 ≤ at_ → at_ < n → p__law_due [.str w, .int n, .lst (ws.map .int), .int to, .int at_] m = .ok (.int (f to at_)) m
  reck : ∀ m W to at_, Sq2 W (ws.map .int) → 1 ≤ to → to ≤ 8 → 0 ≤ at_ → at_ < n → p_reckoned [.str w, .int n, W, .int to, .int at_] m = .ok (.int (f to at_)) m
  bnd : ∀ to at_, 1 ≤ to → to ≤ 8 → 0 ≤ at_ → at_ < n → 0 ≤ f to at_ ∧ f to at_ ≤ 300
  wide : w = "wide" → ∀ to at_, f to 0 = f to at_
  other : w ≠ "wide" → ∀ to at_, f 1 at_ = f to at_
  more : w ≠ "wide" → w ≠ "bit" → ∀ m a b, p_reckoned [.str w, .int n, .lst (ws.map .int), a, b] m = .ok (.int (f 1 0)) m
theorem word1 {w : Str} {n a : Int} (h1 : 1 ≤ n) (h8 : n ≤ 8) (a0 : 0 ≤ a) (a1 : a < 2 ^ n.toNat) (hw : w = "not" ∨ w = "wide" ∨ w = "bit") : WordOk w n [a] fun to at_ => if w = "not" then 2 ^ n.toNat - 1 - a else if w = "wide" then a % 2 ^ to.toNat else a / 2 ^ at_.toNat % 2 := by
  have top := pow8 h1 h8
  have dec1 : ("wide" : Str) ≠ "not" := by decide
  have dec2 : ("bit" : Str) ≠ "not" := by decide
  have dec3 : ("bit" : Str) ≠ "wide" := by decide
  have dec4 : ("not" : Str) ≠ "wide" := by decide
  refine ⟨fun m to at_ h2 h3 h4 h5 => f_due1 h1 h8 a0 a1 h2 h3 h4 h5 ?_, fun m W to at_ hs h2 h3 h4 h5 => f_reck1 h1 h8 hs a0 a1 ?_, fun to at_ h2 h3 h4 h5 => ?_, fun hw => ?_, fun hn to at_ => ?_, fun hn hb m x y => f_reck1 h1 h8 (.inl rfl) a0 a1 ?_⟩
  · rcases hw with rfl | rfl | rfl
    · exact .inl ⟨rfl, by simp⟩
    · exact .inr (.inl ⟨rfl, by simp [dec1]⟩)
    · exact .inr (.inr ⟨rfl, by simp [dec2, dec3]⟩)
  · rcases hw with rfl | rfl | rfl
    · exact .inl ⟨rfl, by simp⟩
    · exact .inr (.inl ⟨rfl, to, rfl, h2, h3, by simp [dec1]⟩)
    · exact .inr (.inr ⟨rfl, at_, rfl, h4, by omega, by simp [dec2, dec3]⟩)
  · have p1 : (0 : Int) < 2 ^ to.toNat := Int.pow_pos (by decide)
    have p2 := Int.emod_nonneg a (Int.ne_of_gt p1)
    have p3 := Int.emod_lt_of_pos a p1
    have top2 := pow8 h2 h3
    split
    · omega
    · split <;> omega
  · subst hw
    intro to at_
    simp [dec1]
  · rcases hw with rfl | rfl | rfl
    · simp
    · exact absurd rfl hn
    · simp [dec2, dec3]
  · rcases hw with rfl | rfl | rfl
    · exact .inl ⟨rfl, by simp⟩
    · exact absurd rfl hn
    · exact absurd rfl hb
theorem word2 {w : Str} {n a c r : Int} (h1 : 1 ≤ n) (h8 : n ≤ 8) (a0 : 0 ≤ a) (a1 : a < 2 ^ n.toNat) (c0 : 0 ≤ c) (c1 : c < 2 ^ n.toNat) (hr : 0 ≤ r ∧ r ≤ 300)
    (hw : (w = "and" ∧ r = Builtin.bitAnd a c) ∨ (w = "or" ∧ r = Builtin.bitOr a c) ∨ (w = "xor" ∧ r = Builtin.bitXor a c) ∨ (w = "add" ∧ r = (a + c) % 2 ^ n.toNat) ∨ (w = "sub" ∧ r = (a - c) % 2 ^ n.toNat) ∨
      (w = "less" ∧ r = if a < c then 1 else 0) ∨ (w = "same" ∧ r = if a = c then 1 else 0)) : WordOk w n [a, c] fun _ _ => r := by
  have nw : w ≠ "wide" := by rcases hw with ⟨rfl, _⟩ | ⟨rfl, _⟩ | ⟨rfl, _⟩ | ⟨rfl, _⟩ | ⟨rfl, _⟩ | ⟨rfl, _⟩ | ⟨rfl, _⟩ <;> decide
  exact ⟨fun m to at_ h2 h3 h4 h5 => f_due2 h1 h8 a0 a1 c0 c1 hw, fun m W to at_ hs h2 h3 h4 h5 => f_reck2 h1 h8 hs a0 a1 c0 c1 hw, fun to at_ h2 h3 h4 h5 => hr, fun h => absurd h nw, fun _ _ _ => rfl, fun _ _ m a b => f_reck2 h1 h8 (.inl rfl) a0 a1 c0 c1 hw⟩
/-- of each word and worths something comes -/
theorem words_ok {w : Str} {n : Int} {ws : List Int} (h1 : 1 ≤ n) (h8 : n ≤ 8) (h01 : ∀ x ∈ ws, 0 ≤ x ∧ x < 2 ^ n.toNat) (iw : inV (.str w) wordsV = true) {v : Bool} (is : inV (.str w) singleV = v) (hl : ws.length = if v then 1 else 2) : ∃ f, WordOk w n ws f := by
  have top := pow8 h1 h8
  have hw : w = "not" ∨ w = "and" ∨ w = "or" ∨ w = "xor" ∨ w = "add" ∨ w = "sub" ∨ w = "less" ∨ w = "same" ∨ w = "wide" ∨ w = "bit" := by
    simp only [inV, wordsV, List.any_cons, List.any_nil, eqV, Bool.or_eq_true, Bool.or_false, beq_iff_eq] at iw
    rcases iw with h | h | h | h | h | h | h | h | h | h <;> simp [h]
  have single : w = "not" ∨ w = "wide" ∨ w = "bit" → ∃ f, WordOk w n ws f := fun h => by
    have hv : v = true := by rw [← is]; rcases h with rfl | rfl | rfl <;> decide
    subst hv
    match ws, hl, h01 with
    | [a], _, h01 =>
      have ha := h01 a List.mem_cons_self
      exact ⟨_, word1 h1 h8 ha.1 ha.2 h⟩
  have two : inV (.str w) singleV = false → (∀ a c : Int, 0 ≤ a → a < 2 ^ n.toNat → 0 ≤ c → c < 2 ^ n.toNat → ∃ r : Int, (0 ≤ r ∧ r ≤ 300) ∧ ((w = "and" ∧ r = Builtin.bitAnd a c) ∨ (w = "or" ∧ r = Builtin.bitOr a c) ∨ (w = "xor" ∧ r = Builtin.bitXor a c) ∨ (w = "add" ∧ r = (a + c) % 2 ^ n.toNat) ∨ (w = "sub" ∧ r = (a - c) % 2 ^ n.toNat) ∨
      (w = "less" ∧ r = if a < c then 1 else 0) ∨ (w = "same" ∧ r = if a = c then 1 else 0))) → ∃ f, WordOk w n ws f := fun h k => by
    have hv : v = false := by rw [← is]; exact h
    subst hv
    match ws, hl, h01 with
    | [a, c], _, h01 =>
      have ha := h01 a List.mem_cons_self
      have hc := h01 c (List.mem_cons_of_mem _ List.mem_cons_self)
      obtain ⟨r, hr, hw⟩ := k a c ha.1 ha.2 hc.1 hc.2
      exact ⟨_, word2 h1 h8 ha.1 ha.2 hc.1 hc.2 hr hw⟩
  have vb : ∀ xs : List Int, xs.length = n.toNat → (∀ x ∈ xs, x = 0 ∨ x = 1) → 0 ≤ val xs ∧ val xs ≤ 300 := fun xs h h' => by
    have := val_lt xs h'
    rw [h] at this
    omega
  have pb : (0 : Int) < 2 ^ n.toNat := Int.pow_pos (by decide)
  have zb : ∀ (f : Int → Int → Int) (a c : Int), (∀ x y, (x = 0 ∨ x = 1) → (y = 0 ∨ y = 1) → (f x y = 0 ∨ f x y = 1)) → 0 ≤ val (zipB f (bitsI n.toNat a) (bitsI n.toNat c)) ∧ val (zipB f (bitsI n.toNat a) (bitsI n.toNat c)) ≤ 300 := fun f a c h => by
    have h2 := val_lt _ (zipB01 f h _ _ (bits01 n.toNat a) (bits01 n.toNat c))
    have h3 : (2 : Int) ^ (zipB f (bitsI n.toNat a) (bitsI n.toNat c)).length ≤ 256 := by
      have h4 : (zipB f (bitsI n.toNat a) (bitsI n.toNat c)).length ≤ 8 := Nat.le_trans (zipB_len _ _ _) (by rw [bitsI_length]; omega)
      generalize (zipB f (bitsI n.toNat a) (bitsI n.toNat c)).length = k at h4
      have : k = 0 ∨ k = 1 ∨ k = 2 ∨ k = 3 ∨ k = 4 ∨ k = 5 ∨ k = 6 ∨ k = 7 ∨ k = 8 := by omega
      rcases this with rfl | rfl | rfl | rfl | rfl | rfl | rfl | rfl | rfl <;> decide
    omega
  have em : ∀ u : Int, 0 ≤ u % 2 ^ n.toNat ∧ u % 2 ^ n.toNat ≤ 300 := fun u => by
    have p2 := Int.emod_nonneg u (Int.ne_of_gt pb)
    have p3 := Int.emod_lt_of_pos u pb
    omega
  rcases hw with rfl | rfl | rfl | rfl | rfl | rfl | rfl | rfl | rfl | rfl
  · exact single (.inl rfl)
  · exact two (by decide) fun a c a0 a1 c0 c1 => ⟨_, by rw [← val_and _ _ _ a0 c0 a1 c1]; exact zb _ _ _ fun x y hx hy => by split <;> assumption, .inl ⟨rfl, rfl⟩⟩
  · exact two (by decide) fun a c a0 a1 c0 c1 => ⟨_, by rw [← val_or _ _ _ a0 c0 a1 c1]; exact zb _ _ _ fun x y hx hy => by split <;> assumption, .inr (.inl ⟨rfl, rfl⟩)⟩
  · exact two (by decide) fun a c a0 a1 c0 c1 => ⟨_, by rw [← val_xr _ _ _ a0 c0 a1 c1]; exact zb _ _ _ fun x y hx hy => by split <;> simp, .inr (.inr (.inl ⟨rfl, rfl⟩))⟩
  · exact two (by decide) fun a c a0 a1 c0 c1 => ⟨_, em _, .inr (.inr (.inr (.inl ⟨rfl, rfl⟩)))⟩
  · exact two (by decide) fun a c a0 a1 c0 c1 => ⟨_, em _, .inr (.inr (.inr (.inr (.inl ⟨rfl, rfl⟩))))⟩
  · exact two (by decide) fun a c a0 a1 c0 c1 => ⟨_, by split <;> decide, .inr (.inr (.inr (.inr (.inr (.inl ⟨rfl, rfl⟩)))))⟩
  · exact two (by decide) fun a c a0 a1 c0 c1 => ⟨_, by split <;> decide, .inr (.inr (.inr (.inr (.inr (.inr ⟨rfl, rfl⟩)))))⟩
  · exact single (.inr (.inl rfl))
  · exact single (.inr (.inr rfl))
theorem pd_told {r : Int} : pd m (.lst [.str "told", .int r]) = some (.list [.str "told", .int r]) := (Eq.refl _).trans rfl
theorem tame_told {r : Int} (h : 0 ≤ r ∧ r ≤ 300) : Tame 1000 6 (.list [.str "told", .int r]) :=
  (tame2 (k := 300) (n := 5) ⟨by decide, by decide, by decide, by decide⟩ ((Tame.int (by omega) (by omega)).mono (by decide) (by decide))).mono (by decide) (by decide)
theorem turn_ok {p : Nat} {k n many : Int} {w : Str} {v : Bool} {e0 e1 e6 e7 e8 e9 e10 e11 e12 e13 e14 e15 : SV} (hp : PuA m p k) (hk : k ≤ 800000000) (h1 : 1 ≤ n) (h8 : n ≤ 8) (iw : inV (.str w) wordsV = true) (is : inV (.str w) singleV = v) (em : many = if v then 1 else 2) :
    ∃ (ws : List Int) (u6 u8 u9 u10 u11 u12 u13 u14 u15 : SV) (m' : AM), b1_law [e0, e1, .val (.loc p), .val (.str w), .val (.int n), .val (.int many), e6, e7, e8, e9, e10, e11, e12, e13, e14, e15] m = .nx [e0, e1, .val (.loc p), .val (.str w), .val (.int n), .val (.int many), u6, .val (.lst (ws.map .int)), u8, u9, u10, u11, u12, u13, u14, u15] m' ∧ PuA m' p (k + 9) ∧
      ws.length = (if v then 1 else 2) ∧ ∀ x ∈ ws, 0 ≤ x ∧ x < 2 ^ n.toNat := by
  have hm : (-4611686018427387904 ≤ many ∧ many < 4611686018427387904) ∧ (rangeA many).length < 1000000 := by
    rw [rangeA_length]
    cases v <;> simp [em]
  -- the worths
  have worths : ∃ (ws : List Int) (m1 : AM), (∀ env : AEnv, env = [e0, e1, .val (.loc p), .val (.str w), .val (.int n), .val (.int many), e6, e7, .no, e9, e10, e11, e12, e13, e14, e15] → compA (tNm 8) env pYes (pCall p__law_worth (pCons (pVar 2) (pCons (pVar 4) pNil))) (rangeA many) m = .ok (ws.map .int) m1) ∧ PuA m1 p (k + 4) ∧ ws.length = (if v then 1 else 2) ∧ ∀ x ∈ ws, 0 ≤ x ∧ x < 2 ^ n.toNat := by
    obtain ⟨a, m1, x1, a0, a1, p1, u1⟩ := f_worthL hp (by omega) h1 h8
    cases v with
    | true =>
      have er : rangeA many = [.int 0] := by rw [em]; rfl
      refine ⟨[a], m1, fun env he => ?_, p1.le (by omega), rfl, fun x hx => by rw [List.mem_singleton.mp hx]; exact ⟨a0, a1⟩⟩
      rw [he, er, compA_one]
      simp only [e_ok, e_ex, e_bad, e_sok, e_sex, e_sbad, e_var0, e_varS, e_varB0, e_varB1, e_varBS, e_c, e_nil, e_cons, e_op, e_some, e_none, e_cb, e_tup, e_lstF, e_val, e_bOf, e_iOf, e_andT, e_orT, e_notT, e_and, e_or, e_not, e_if, e_chain, e_neg, e_dct0, e_isi2, e_noP, e_pt, e_sl, e_P1, e_slL, e_slT, e_rev, e_call, e_callK, e_lstV, e_new, e_vLst, e_vCat, e_vSl, e_vList, e_vRep, e_lcV, e_compK, e_forK, e_iSq, e_iEn, e_iRg, e_vsqL, e_vsqT, e_iZp, e_catLL, e_catTT, e_aI0, e_aI, e_seqL, e_seqT, e_ixL, e_ixT, e_lenL, e_lenT, e_isi, e_max, e_min, e_tupL, e_tupT, e_intI, e_intB, e_listL, e_listT, e_all, e_any, e_sum, e_all, e_eqII, e_eqSS, e_next, e_seq, e_snx, e_srt, e_sbk, e_sct, e_sxx, e_sbd, e_drop, e_ret, e_retN, e_qif, e_break, e_cont, e_asg, e_asgT, e_ownV, e_app, e_par, e_raise, e_for, e_try, e_txx, e_tnx, e_trt, e_hrt, e_body, e_fnx, e_frt, e_fex, e_start0, e_startS, e_rep0, e_repS, List.append_nil, List.nil_append, List.set_cons_zero, List.set_cons_succ, List.length_cons, List.length_nil, List.length_map, List.length_range, Nat.reduceAdd, Nat.reduceLeDiff, Nat.reduceLT, Int.reduceLT, Int.reduceEq, Int.reduceLE, Int.reducePow, Int.reduceNeg, Int.reduceMul, Int.reduceAdd, Int.reduceSub, Int.reduceToNat, if_true, if_false, cond_true, cond_false, decide_true, decide_false, Bool.and_true, Bool.true_and, Bool.and_false, Bool.false_and, Bool.or_true, Bool.true_or, Bool.or_false, Bool.false_or, Bool.not_true, Bool.not_false, Bool.false_eq_true, Option.some.injEq, and_true, true_and, and_self, t_non, t_bl, t_int, t_str, t_lst, t_tup, t_dct, isiB, tyNs, List.contains_cons, List.contains_nil, String.reduceBEq, Bool.or_self, Bool.and_self, beq_self_eq_true, nc0, nc1, nc2, nc3, nc4, nc5, nc6, nc7, nc8, nc9, nc10, nc11, nc12, e_at0, e_at1, e_at2, e_at3, e_at4, e_at5, e_at6, e_at7, e_at8, e_at9, e_at10, e_at11, e_atm1, e_atm2, e_atm3, e_atm4, e_atm5, x1, noex_ok, compA_nil]
      rfl
    | false =>
      have er : rangeA many = [.int 0, .int 1] := by rw [em]; rfl
      obtain ⟨c, m2, x2, c0, c1, p2, u2⟩ := f_worthL p1 (by omega) h1 h8
      refine ⟨[a, c], m2, fun env he => ?_, p2.le (by omega), rfl, fun x hx => ?_⟩
      · rw [he, er, compA_one]
        simp only [e_ok, e_ex, e_bad, e_sok, e_sex, e_sbad, e_var0, e_varS, e_varB0, e_varB1, e_varBS, e_c, e_nil, e_cons, e_op, e_some, e_none, e_cb, e_tup, e_lstF, e_val, e_bOf, e_iOf, e_andT, e_orT, e_notT, e_and, e_or, e_not, e_if, e_chain, e_neg, e_dct0, e_isi2, e_noP, e_pt, e_sl, e_P1, e_slL, e_slT, e_rev, e_call, e_callK, e_lstV, e_new, e_vLst, e_vCat, e_vSl, e_vList, e_vRep, e_lcV, e_compK, e_forK, e_iSq, e_iEn, e_iRg, e_vsqL, e_vsqT, e_iZp, e_catLL, e_catTT, e_aI0, e_aI, e_seqL, e_seqT, e_ixL, e_ixT, e_lenL, e_lenT, e_isi, e_max, e_min, e_tupL, e_tupT, e_intI, e_intB, e_listL, e_listT, e_all, e_any, e_sum, e_all, e_eqII, e_eqSS, e_next, e_seq, e_snx, e_srt, e_sbk, e_sct, e_sxx, e_sbd, e_drop, e_ret, e_retN, e_qif, e_break, e_cont, e_asg, e_asgT, e_ownV, e_app, e_par, e_raise, e_for, e_try, e_txx, e_tnx, e_trt, e_hrt, e_body, e_fnx, e_frt, e_fex, e_start0, e_startS, e_rep0, e_repS, List.append_nil, List.nil_append, List.set_cons_zero, List.set_cons_succ, List.length_cons, List.length_nil, List.length_map, List.length_range, Nat.reduceAdd, Nat.reduceLeDiff, Nat.reduceLT, Int.reduceLT, Int.reduceEq, Int.reduceLE, Int.reducePow, Int.reduceNeg, Int.reduceMul, Int.reduceAdd, Int.reduceSub, Int.reduceToNat, if_true, if_false, cond_true, cond_false, decide_true, decide_false, Bool.and_true, Bool.true_and, Bool.and_false, Bool.false_and, Bool.or_true, Bool.true_or, Bool.or_false, Bool.false_or, Bool.not_true, Bool.not_false, Bool.false_eq_true, Option.some.injEq, and_true, true_and, and_self, t_non, t_bl, t_int, t_str, t_lst, t_tup, t_dct, isiB, tyNs, List.contains_cons, List.contains_nil, String.reduceBEq, Bool.or_self, Bool.and_self, beq_self_eq_true, nc0, nc1, nc2, nc3, nc4, nc5, nc6, nc7, nc8, nc9, nc10, nc11, nc12, e_at0, e_at1, e_at2, e_at3, e_at4, e_at5, e_at6, e_at7, e_at8, e_at9, e_at10, e_at11, e_atm1, e_atm2, e_atm3, e_atm4, e_atm5, x1, noex_ok]
        rw [compA_one]
        simp only [e_ok, e_ex, e_bad, e_sok, e_sex, e_sbad, e_var0, e_varS, e_varB0, e_varB1, e_varBS, e_c, e_nil, e_cons, e_op, e_some, e_none, e_cb, e_tup, e_lstF, e_val, e_bOf, e_iOf, e_andT, e_orT, e_notT, e_and, e_or, e_not, e_if, e_chain, e_neg, e_dct0, e_isi2, e_noP, e_pt, e_sl, e_P1, e_slL, e_slT, e_rev, e_call, e_callK, e_lstV, e_new, e_vLst, e_vCat, e_vSl, e_vList, e_vRep, e_lcV, e_compK, e_forK, e_iSq, e_iEn, e_iRg, e_vsqL, e_vsqT, e_iZp, e_catLL, e_catTT, e_aI0, e_aI, e_seqL, e_seqT, e_ixL, e_ixT, e_lenL, e_lenT, e_isi, e_max, e_min, e_tupL, e_tupT, e_intI, e_intB, e_listL, e_listT, e_all, e_any, e_sum, e_all, e_eqII, e_eqSS, e_next, e_seq, e_snx, e_srt, e_sbk, e_sct, e_sxx, e_sbd, e_drop, e_ret, e_retN, e_qif, e_break, e_cont, e_asg, e_asgT, e_ownV, e_app, e_par, e_raise, e_for, e_try, e_txx, e_tnx, e_trt, e_hrt, e_body, e_fnx, e_frt, e_fex, e_start0, e_startS, e_rep0, e_repS, List.append_nil, List.nil_append, List.set_cons_zero, List.set_cons_succ, List.length_cons, List.length_nil, List.length_map, List.length_range, Nat.reduceAdd, Nat.reduceLeDiff, Nat.reduceLT, Int.reduceLT, Int.reduceEq, Int.reduceLE, Int.reducePow, Int.reduceNeg, Int.reduceMul, Int.reduceAdd, Int.reduceSub, Int.reduceToNat, if_true, if_false, cond_true, cond_false, decide_true, decide_false, Bool.and_true, Bool.true_and, Bool.and_false, Bool.false_and, Bool.or_true, Bool.true_or, Bool.or_false, Bool.false_or, Bool.not_true, Bool.not_false, Bool.false_eq_true, Option.some.injEq, and_true, true_and, and_self, t_non, t_bl, t_int, t_str, t_lst, t_tup, t_dct, isiB, tyNs, List.contains_cons, List.contains_nil, String.reduceBEq, Bool.or_self, Bool.and_self, beq_self_eq_true, nc0, nc1, nc2, nc3, nc4, nc5, nc6, nc7, nc8, nc9, nc10, nc11, nc12, e_at0, e_at1, e_at2, e_at3, e_at4, e_at5, e_at6, e_at7, e_at8, e_at9, e_at10, e_at11, e_atm1, e_atm2, e_atm3, e_atm4, e_atm5, x2, noex_ok, compA_nil]
        rfl
      · rcases List.mem_cons.mp hx with rfl | hx
        · exact ⟨a0, a1⟩
        · rw [List.mem_singleton.mp hx]
          exact ⟨c0, c1⟩
  obtain ⟨ws, m1, xw, p1, lw, h01⟩ := worths
  unfold b1_law
  obtain ⟨d2, m2, x2, a2, b2, p2, u2⟩ := f_take m1 p (k + 4) 4 p1 (by omega) (by decide) (by decide)
  -- perhaps all the first one
  have sel : ∃ ws2 : List Int, (if d2 = 0 then A.lst (List.replicate many.toNat (cutA (ws.map A.int) none (some 1))).flatten else .lst (ws.map .int)) = .lst (ws2.map .int) ∧ ws2.length = (if v then 1 else 2) ∧ ∀ x ∈ ws2, 0 ≤ x ∧ x < 2 ^ n.toNat := by
    by_cases hd : d2 = 0
    · rw [if_pos hd]
      cases v with
      | true =>
        match ws, lw, h01 with
        | [a], _, h01 => exact ⟨[a], by rw [em]; rfl, rfl, h01⟩
      | false =>
        match ws, lw, h01 with
        | [a, c], _, h01 => exact ⟨[a, a], by rw [em]; rfl, rfl, fun x hx => h01 x (by simp at hx; simp [hx])⟩
    · rw [if_neg hd]
      exact ⟨ws, rfl, lw, h01⟩
  obtain ⟨ws2, sel, lw2, h02⟩ := sel
  have mg : ∀ (x y : A), (bif decide (d2 = 0) then RS.nx [e0, e1, .val (.loc p), .val (.str w), .val (.int n), .val (.int many), e6, .val x, e8, e9, e10, e11, e12, e13, e14, e15] m2 else RS.nx [e0, e1, .val (.loc p), .val (.str w), .val (.int n), .val (.int many), e6, .val y, e8, e9, e10, e11, e12, e13, e14, e15] m2) = RS.nx [e0, e1, .val (.loc p), .val (.str w), .val (.int n), .val (.int many), e6, .val (if d2 = 0 then x else y), e8, e9, e10, e11, e12, e13, e14, e15] m2 := fun x y => by
    by_cases h : d2 = 0 <;> simp [h]
  have rp : 0 ≤ many ∧ many ≤ 1000 ∧ (cutA (ws.map A.int) none (some 1)).length ≤ 1000 := by
    refine ⟨by cases v <;> simp [em], by cases v <;> simp [em], ?_⟩
    unfold FL.cutA
    rw [List.length_take, List.length_drop, List.length_map]
    cases v <;> simp at lw <;> omega
  obtain ⟨d3, m3, x3, a3, b3, p3, u3⟩ := f_take m2 p (k + 4 + 1) 8 p2 (by omega) (by decide) (by decide)
  obtain ⟨d4, m4, x4, a4, b4, p4, u4⟩ := f_take m3 p (k + 4 + 1 + 1) 3 p3 (by omega) (by decide) (by decide)
  obtain ⟨d5, m5, x5, a5, b5, p5, u5⟩ := f_take m4 p (k + 4 + 1 + 1 + 1) 2 p4 (by omega) (by decide) (by decide)
  obtain ⟨d6, m6, x6, a6, b6, p6, u6⟩ := f_take m5 p (k + 4 + 1 + 1 + 1 + 1) 2 p5 (by omega) (by decide) (by decide)
  obtain ⟨into, hi, hi1, hi8⟩ : ∃ into : Int, atI [A.int 1, .int 8, .int (1 + d3)] d4 = some (.int into) ∧ 1 ≤ into ∧ into ≤ 8 := by
    have : d4 = 0 ∨ d4 = 1 ∨ d4 = 2 := by omega
    rcases this with rfl | rfl | rfl
    · exact ⟨1, rfl, by decide, by decide⟩
    · exact ⟨8, rfl, by decide, by decide⟩
    · exact ⟨1 + d3, rfl, by omega, by omega⟩
  obtain ⟨spot, hs, hs0, hsn⟩ : ∃ spot : Int, atI [A.int 0, .int (n - 1)] d5 = some (.int spot) ∧ 0 ≤ spot ∧ spot < n := by
    have : d5 = 0 ∨ d5 = 1 := by omega
    rcases this with rfl | rfl
    · exact ⟨0, rfl, by decide, by omega⟩
    · exact ⟨n - 1, rfl, by omega, by omega⟩
  obtain ⟨hd, hh, hq⟩ : ∃ hd : A, atI [A.lst (ws2.map .int), .tup (ws2.map .int)] d6 = some hd ∧ Sq2 hd (ws2.map .int) := by
    have : d6 = 0 ∨ d6 = 1 := by omega
    rcases this with rfl | rfl
    · exact ⟨_, rfl, .inl rfl⟩
    · exact ⟨_, rfl, .inr rfl⟩
  obtain ⟨f, W⟩ := words_ok h1 h8 h02 iw is lw2
  have k1 := f_asked2 (.told (W.reck m6 hd into spot hq hi1 hi8 hs0 hsn))
  have k2 := f_asked0 (W.reck m6 hd 1 0 hq (by decide) (by decide) (by decide) (by omega))
  have dec1 := W.due m6 into spot hi1 hi8 hs0 hsn
  have dec2 := W.due m6 1 0 (by decide) (by decide) (by decide) (by omega)
  have b1 := W.bnd into spot hi1 hi8 hs0 hsn
  have b2 := W.bnd 1 0 (by decide) (by decide) (by decide) (by omega)
  have k3 : p__law_asked [.str w, .int n, hd, .tup [if w = "wide" then .int into else .int spot]] m6 = .ok (.lst [.str "told", .int (f into spot)]) m6 := by
    refine f_asked1 ?_
    by_cases e : w = "wide"
    · simp only [if_pos e]
      rw [← W.wide e into spot]
      exact W.reck m6 hd into 0 hq hi1 hi8 (by decide) (by omega)
    · simp only [if_neg e]
      rw [← W.other e into spot]
      exact W.reck m6 hd 1 spot hq (by decide) (by decide) hs0 hsn
  have mg2 : (bif decide (w = "wide") then A.tup [.int into] else .tup [.int spot]) = .tup [if w = "wide" then .int into else .int spot] := by by_cases e : w = "wide" <;> simp [e]
  have mg3 : (bif decide (w = "wide") then (R.ok (A.tup [.int into]) m6) else .ok (.tup [.int spot]) m6) = .ok (.tup [if w = "wide" then .int into else .int spot]) m6 := by by_cases e : w = "wide" <;> simp [e]
  have pf : pd m6 (.lst [.lst [.str "told", .int (f into spot)], .lst [.str "told", .int (f 1 0)]]) = some (.list [.list [.str "told", .int (f into spot)], .list [.str "told", .int (f 1 0)]]) := rfl
  have tf : Tame 3000 7 (.list [.list [.str "told", .int (f into spot)], .list [.str "told", .int (f 1 0)]]) := (tame2 (tame_told b1) (tame_told b2)).mono (by decide) (by decide)
  simp only [e_ok, e_ex, e_bad, e_sok, e_sex, e_sbad, e_var0, e_varS, e_varB0, e_varB1, e_varBS, e_c, e_nil, e_cons, e_op, e_some, e_none, e_cb, e_tup, e_lstF, e_val, e_bOf, e_iOf, e_andT, e_orT, e_notT, e_and, e_or, e_not, e_if, e_chain, e_neg, e_dct0, e_isi2, e_noP, e_pt, e_sl, e_P1, e_slL, e_slT, e_rev, e_call, e_callK, e_lstV, e_new, e_vLst, e_vCat, e_vSl, e_vList, e_vRep, e_lcV, e_compK, e_forK, e_iSq, e_iEn, e_iRg, e_vsqL, e_vsqT, e_iZp, e_catLL, e_catTT, e_aI0, e_aI, e_seqL, e_seqT, e_ixL, e_ixT, e_lenL, e_lenT, e_isi, e_max, e_min, e_tupL, e_tupT, e_intI, e_intB, e_listL, e_listT, e_all, e_any, e_sum, e_all, e_eqII, e_eqSS, e_next, e_seq, e_snx, e_srt, e_sbk, e_sct, e_sxx, e_sbd, e_drop, e_ret, e_retN, e_qif, e_break, e_cont, e_asg, e_asgT, e_ownV, e_app, e_par, e_raise, e_for, e_try, e_txx, e_tnx, e_trt, e_hrt, e_body, e_fnx, e_frt, e_fex, e_start0, e_startS, e_rep0, e_repS, List.append_nil, List.nil_append, List.set_cons_zero, List.set_cons_succ, List.length_cons, List.length_nil, List.length_map, List.length_range, Nat.reduceAdd, Nat.reduceLeDiff, Nat.reduceLT, Int.reduceLT, Int.reduceEq, Int.reduceLE, Int.reducePow, Int.reduceNeg, Int.reduceMul, Int.reduceAdd, Int.reduceSub, Int.reduceToNat, if_true, if_false, cond_true, cond_false, decide_true, decide_false, Bool.and_true, Bool.true_and, Bool.and_false, Bool.false_and, Bool.or_true, Bool.true_or, Bool.or_false, Bool.false_or, Bool.not_true, Bool.not_false, Bool.false_eq_true, Option.some.injEq, and_true, true_and, and_self, t_non, t_bl, t_int, t_str, t_lst, t_tup, t_dct, isiB, tyNs, List.contains_cons, List.contains_nil, String.reduceBEq, Bool.or_self, Bool.and_self, beq_self_eq_true, nc0, nc1, nc2, nc3, nc4, nc5, nc6, nc7, nc8, nc9, nc10, nc11, nc12, e_at0, e_at1, e_at2, e_at3, e_at4, e_at5, e_at6, e_at7, e_at8, e_at9, e_at10, e_at11, e_atm1, e_atm2, e_atm3, e_atm4, e_atm5, hm.1, hm.2, wipeA, xw _ rfl, x2, rp, mg, sel, x3, x4, hi, x5, hs, x6, hh, k1, k2, mg3, k3, dec1, dec2, e_repr pd_told (tame_told b1) (by decide) (by decide), e_repr pf tf (by decide) (by decide), e_eqSS, compA_one, noex_ok, compA_nil]
  exact ⟨ws2, _, _, _, _, _, _, _, _, _, m6, rfl, p6.le (by omega), lw2, h02⟩
end L03
set_option maxHeartbeats 1000001
namespace L03
open PySem PySem.Spec
open PyProof.Rows L2 DL FL
variable {m : AM}
theorem turns_ok {p : Nat} {k n many : Int} {w : Str} {v : Bool} {e0 e1 : SV} (hk : k ≤ 700000000) (h1 : 1 ≤ n) (h8 : n ≤ 8) (iw : inV (.str w) wordsV = true) (is : inV (.str w) singleV = v) (em : many = if v then 1 else 2) (hp : PuA m p k) {e6 e7 e8 e9 e10 e11 e12 e13 e14 e15 : SV} :
    ∃ (ws : List Int) (u6 u8 u9 u10 u11 u12 u13 u14 u15 : SV) (m' : AM), forA (tNm 6) b1_law (rangeA 4) [e0, e1, .val (.loc p), .val (.str w), .val (.int n), .val (.int many), e6, e7, e8, e9, e10, e11, e12, e13, e14, e15] m = .nx [e0, e1, .val (.loc p), .val (.str w), .val (.int n), .val (.int many), u6, .val (.lst (ws.map .int)), u8, u9, u10, u11, u12, u13, u14, u15] m' ∧ PuA m' p (k + 36) ∧
      ws.length = (if v then 1 else 2) ∧ ∀ x ∈ ws, 0 ≤ x ∧ x < 2 ^ n.toNat := by
  have er : rangeA 4 = [.int 0, .int 1, .int 2, .int 3] := rfl
  rw [er]
  obtain ⟨ws, u6, u8, u9, u10, u11, u12, u13, u14, u15, m1, r1, p1, _, _⟩ := turn_ok (e0 := e0) (e1 := e1) (e6 := .val (.int 0)) (e7 := e7) (e8 := e8) (e9 := e9) (e10 := e10) (e11 := e11) (e12 := e12) (e13 := e13) (e14 := e14) (e15 := e15) hp (by omega) h1 h8 iw is em
  obtain ⟨ws2, v6, v8, v9, v10, v11, v12, v13, v14, v15, m2, r2, p2, _, _⟩ := turn_ok (e0 := e0) (e1 := e1) (e6 := .val (.int 1)) (e7 := .val (.lst (ws.map .int))) (e8 := u8) (e9 := u9) (e10 := u10) (e11 := u11) (e12 := u12) (e13 := u13) (e14 := u14) (e15 := u15) p1 (by omega) h1 h8 iw is em
  obtain ⟨ws3, w6, w8, w9, w10, w11, w12, w13, w14, w15, m3, r3, p3, _, _⟩ := turn_ok (e0 := e0) (e1 := e1) (e6 := .val (.int 2)) (e7 := .val (.lst (ws2.map .int))) (e8 := v8) (e9 := v9) (e10 := v10) (e11 := v11) (e12 := v12) (e13 := v13) (e14 := v14) (e15 := v15) p2 (by omega) h1 h8 iw is em
  obtain ⟨ws4, x6, x8, x9, x10, x11, x12, x13, x14, x15, m4, r4, p4, l4, h4⟩ := turn_ok (e0 := e0) (e1 := e1) (e6 := .val (.int 3)) (e7 := .val (.lst (ws3.map .int))) (e8 := w8) (e9 := w9) (e10 := w10) (e11 := w11) (e12 := w12) (e13 := w13) (e14 := w14) (e15 := w15) p3 (by omega) h1 h8 iw is em
  simp only [forA, tNm, List.set_cons_succ, List.set_cons_zero, r1, r2, r3, r4]
  exact ⟨ws4, _, _, _, _, _, _, _, _, _, m4, rfl, p4.le (by omega), l4, h4⟩
theorem word_ok {p : Nat} {k : Int} {w : Str} {e0 e1 e4 e5 e6 e7 e8 e9 e10 e11 e12 e13 e14 e15 : SV} (hk : k ≤ 600000000) (iw : inV (.str w) wordsV = true) (tw : Tame 300 6 (.str w)) (hp : PuA m p k) :
    ∃ (u4 u5 u6 u7 u8 u9 u10 u11 u12 u13 u14 u15 : SV) (m' : AM), b2_law [e0, e1, .val (.loc p), .val (.str w), e4, e5, e6, e7, e8, e9, e10, e11, e12, e13, e14, e15] m = .nx [e0, e1, .val (.loc p), .val (.str w), u4, u5, u6, u7, u8, u9, u10, u11, u12, u13, u14, u15] m' ∧ PuA m' p (k + 50) := by
  obtain ⟨d1, m1, x1, a1, b1, p1, _⟩ := f_take m p k 8 hp (by omega) (by decide) (by decide)
  obtain ⟨d2, m2, x2, a2, b2, p2, _⟩ := f_take m1 p (k + 1) 3 p1 (by omega) (by decide) (by decide)
  obtain ⟨n, hn, h1, h8⟩ : ∃ n : Int, atI [A.int 1, .int 8, .int (1 + d1)] d2 = some (.int n) ∧ 1 ≤ n ∧ n ≤ 8 := by
    have : d2 = 0 ∨ d2 = 1 ∨ d2 = 2 := by omega
    rcases this with rfl | rfl | rfl
    · exact ⟨1, rfl, by decide, by decide⟩
    · exact ⟨8, rfl, by decide, by decide⟩
    · exact ⟨1 + d1, rfl, by omega, by omega⟩
  generalize is : inV (.str w) singleV = v
  have ein : aIn false (.str w) (.tup [.str "not", .str "wide", .str "bit"]) m2 = some (.bl v, m2) := by rw [← is]; rfl
  have ec : (bif v then (R.ok (A.int 1) m2) else .ok (.int 2) m2) = .ok (.int (if v then 1 else 2)) m2 := by cases v <;> rfl
  obtain ⟨ws, u6, u8, u9, u10, u11, u12, u13, u14, u15, m3, r3, p3, lw, h01⟩ := turns_ok (m := m2) (e0 := e0) (e1 := e1) (e6 := e6) (e7 := e7) (e8 := e8) (e9 := e9) (e10 := e10) (e11 := e11) (e12 := e12) (e13 := e13) (e14 := e14) (e15 := e15) (many := if v then 1 else 2) (by omega) h1 h8 iw is rfl p2
  obtain ⟨f, W⟩ := words_ok h1 h8 h01 iw is lw
  obtain ⟨m4, x4, p4⟩ := f_refused (r := f 1 0) p3 (by omega) h1 h8 h01 (many := if v then 1 else 2) (by rw [lw]; cases v <;> rfl) tw iw is rfl (fun h2 h3 m => W.due m 1 0 (by decide) (by decide) (by decide) (by omega)) (fun h2 h3 m a b => W.more h2 h3 m a b) (W.bnd 1 0 (by decide) (by decide) (by decide) (by omega)) (fun hw => by
    have hv : v = true := by rw [← is]; rcases hw with rfl | rfl <;> decide
    subst hv
    match ws, lw with
    | [a], _ => exact ⟨a, rfl⟩)
  unfold b2_law
  have e4 : ((-4611686018427387904 : Int) ≤ 4 ∧ (4 : Int) < 4611686018427387904) := by decide
  simp only [e_ok, e_ex, e_bad, e_sok, e_sex, e_sbad, e_var0, e_varS, e_varB0, e_varB1, e_varBS, e_c, e_nil, e_cons, e_op, e_some, e_none, e_cb, e_tup, e_lstF, e_val, e_bOf, e_iOf, e_andT, e_orT, e_notT, e_and, e_or, e_not, e_if, e_chain, e_neg, e_dct0, e_isi2, e_noP, e_pt, e_sl, e_P1, e_slL, e_slT, e_rev, e_call, e_callK, e_lstV, e_new, e_vLst, e_vCat, e_vSl, e_vList, e_vRep, e_lcV, e_compK, e_forK, e_iSq, e_iEn, e_iRg, e_vsqL, e_vsqT, e_iZp, e_catLL, e_catTT, e_aI0, e_aI, e_seqL, e_seqT, e_ixL, e_ixT, e_lenL, e_lenT, e_isi, e_max, e_min, e_tupL, e_tupT, e_intI, e_intB, e_listL, e_listT, e_all, e_any, e_sum, e_all, e_eqII, e_eqSS, e_next, e_seq, e_snx, e_srt, e_sbk, e_sct, e_sxx, e_sbd, e_drop, e_ret, e_retN, e_qif, e_break, e_cont, e_asg, e_asgT, e_ownV, e_app, e_par, e_raise, e_for, e_try, e_txx, e_tnx, e_trt, e_hrt, e_body, e_fnx, e_frt, e_fex, e_start0, e_startS, e_rep0, e_repS, List.append_nil, List.nil_append, List.set_cons_zero, List.set_cons_succ, List.length_cons, List.length_nil, List.length_map, List.length_range, Nat.reduceAdd, Nat.reduceLeDiff, Nat.reduceLT, Int.reduceLT, Int.reduceEq, Int.reduceLE, Int.reducePow, Int.reduceNeg, Int.reduceMul, Int.reduceAdd, Int.reduceSub, Int.reduceToNat, if_true, if_false, cond_true, cond_false, decide_true, decide_false, Bool.and_true, Bool.true_and, Bool.and_false, Bool.false_and, Bool.or_true, Bool.true_or, Bool.or_false, Bool.false_or, Bool.not_true, Bool.not_false, Bool.false_eq_true, Option.some.injEq, and_true, true_and, and_self, t_non, t_bl, t_int, t_str, t_lst, t_tup, t_dct, isiB, tyNs, List.contains_cons, List.contains_nil, String.reduceBEq, Bool.or_self, Bool.and_self, beq_self_eq_true, nc0, nc1, nc2, nc3, nc4, nc5, nc6, nc7, nc8, nc9, nc10, nc11, nc12, e_at0, e_at1, e_at2, e_at3, e_at4, e_at5, e_at6, e_at7, e_at8, e_at9, e_at10, e_at11, e_atm1, e_atm2, e_atm3, e_atm4, e_atm5, x1, x2, hn, ein, ec, e4, r3, x4]
  exact ⟨_, _, _, _, _, _, _, _, _, _, _, _, m4, rfl, p4.le (by omega)⟩
theorem cell_ok {ns : List Int} {i : Nat} {e2 e3 e4 e5 e6 e7 e8 e9 e10 e11 e12 e13 e14 e15 : SV} :
    ∃ (u2 u3 u4 u5 u6 u7 u8 u9 u10 u11 u12 u13 u14 u15 : SV) (m' : AM), b3_law [.val (.lst (ns.map .int)), .val (.int i), e2, e3, e4, e5, e6, e7, e8, e9, e10, e11, e12, e13, e14, e15] m = .nx [.val (.lst (ns.map .int)), .val (.int i), u2, u3, u4, u5, u6, u7, u8, u9, u10, u11, u12, u13, u14, u15] m' := by
  obtain ⟨c, xc⟩ := f_cell (m := m) (ns := ns) (k := (i : Int)) (Int.natCast_nonneg i)
  obtain ⟨m1, x1, p1, _⟩ := f_purse (m := m) (c := c)
  unfold b3_law
  simp only [e_ok, e_ex, e_bad, e_sok, e_sex, e_sbad, e_var0, e_varS, e_varB0, e_varB1, e_varBS, e_c, e_nil, e_cons, e_op, e_some, e_none, e_cb, e_tup, e_lstF, e_val, e_bOf, e_iOf, e_andT, e_orT, e_notT, e_and, e_or, e_not, e_if, e_chain, e_neg, e_dct0, e_isi2, e_noP, e_pt, e_sl, e_P1, e_slL, e_slT, e_rev, e_call, e_callK, e_lstV, e_new, e_vLst, e_vCat, e_vSl, e_vList, e_vRep, e_lcV, e_compK, e_forK, e_iSq, e_iEn, e_iRg, e_vsqL, e_vsqT, e_iZp, e_catLL, e_catTT, e_aI0, e_aI, e_seqL, e_seqT, e_ixL, e_ixT, e_lenL, e_lenT, e_isi, e_max, e_min, e_tupL, e_tupT, e_intI, e_intB, e_listL, e_listT, e_all, e_any, e_sum, e_all, e_eqII, e_eqSS, e_next, e_seq, e_snx, e_srt, e_sbk, e_sct, e_sxx, e_sbd, e_drop, e_ret, e_retN, e_qif, e_break, e_cont, e_asg, e_asgT, e_ownV, e_app, e_par, e_raise, e_for, e_try, e_txx, e_tnx, e_trt, e_hrt, e_body, e_fnx, e_frt, e_fex, e_start0, e_startS, e_rep0, e_repS, List.append_nil, List.nil_append, List.set_cons_zero, List.set_cons_succ, List.length_cons, List.length_nil, List.length_map, List.length_range, Nat.reduceAdd, Nat.reduceLeDiff, Nat.reduceLT, Int.reduceLT, Int.reduceEq, Int.reduceLE, Int.reducePow, Int.reduceNeg, Int.reduceMul, Int.reduceAdd, Int.reduceSub, Int.reduceToNat, if_true, if_false, cond_true, cond_false, decide_true, decide_false, Bool.and_true, Bool.true_and, Bool.and_false, Bool.false_and, Bool.or_true, Bool.true_or, Bool.or_false, Bool.false_or, Bool.not_true, Bool.not_false, Bool.false_eq_true, Option.some.injEq, and_true, true_and, and_self, t_non, t_bl, t_int, t_str, t_lst, t_tup, t_dct, isiB, tyNs, List.contains_cons, List.contains_nil, String.reduceBEq, Bool.or_self, Bool.and_self, beq_self_eq_true, nc0, nc1, nc2, nc3, nc4, nc5, nc6, nc7, nc8, nc9, nc10, nc11, nc12, e_at0, e_at1, e_at2, e_at3, e_at4, e_at5, e_at6, e_at7, e_at8, e_at9, e_at10, e_at11, e_atm1, e_atm2, e_atm3, e_atm4, e_atm5, xc, x1]
  have words : ∀ d ∈ a_WORDS, ∃ w : Str, d = .str w ∧ inV (.str w) wordsV = true ∧ Tame 300 6 (.str w) := by
    intro d hd
    simp only [a_WORDS, List.mem_cons, List.not_mem_nil, or_false] at hd
    rcases hd with rfl | rfl | rfl | rfl | rfl | rfl | rfl | rfl | rfl | rfl <;> exact ⟨_, rfl, by decide, ⟨by decide, by decide, by decide, by decide⟩⟩
  obtain ⟨e', m2, r, J⟩ := forA_inv (γ := tNm 3) (β := b2_law) (ds := a_WORDS) (m := m1) (env := [.val (.lst (ns.map .int)), .val (.int i), .val (.loc m.length), e3, e4, e5, e6, e7, e8, e9, e10, e11, e12, e13, e14, e15])
    (fun j env m' => PuA m' m.length (50 * j) ∧ ∃ u3 u4 u5 u6 u7 u8 u9 u10 u11 u12 u13 u14 u15 : SV, env = [.val (.lst (ns.map .int)), .val (.int i), .val (.loc m.length), u3, u4, u5, u6, u7, u8, u9, u10, u11, u12, u13, u14, u15]) (fun j d env m' hd hJ => by
      obtain ⟨hp, u3, u4, u5, u6, u7, u8, u9, u10, u11, u12, u13, u14, u15, rfl⟩ := hJ
      obtain ⟨w, rfl, iw, tw⟩ := words d (List.mem_of_getElem? hd)
      have hj : j < 10 := by
        rcases Nat.lt_or_ge j 10 with z | z
        · exact z
        · rw [List.getElem?_eq_none (by exact z)] at hd
          cases hd
      obtain ⟨v4, v5, v6, v7, v8, v9, v10, v11, v12, v13, v14, v15, m3, r3, p3⟩ := word_ok (m := m') (e0 := .val (.lst (ns.map .int))) (e1 := .val (.int i)) (e4 := u4) (e5 := u5) (e6 := u6) (e7 := u7) (e8 := u8) (e9 := u9) (e10 := u10) (e11 := u11) (e12 := u12) (e13 := u13) (e14 := u14) (e15 := u15) (by omega) iw tw hp
      exact ⟨_, _, m3, rfl, .inl r3, p3.le (by omega), _, _, _, _, _, _, _, _, _, _, _, _, _, rfl⟩) ⟨p1.le (by simp), _, _, _, _, _, _, _, _, _, _, _, _, _, rfl⟩
  obtain ⟨_, u3, u4, u5, u6, u7, u8, u9, u10, u11, u12, u13, u14, u15, rfl⟩ := J
  rw [r]
  exact ⟨_, _, _, _, _, _, _, _, _, _, _, _, _, _, m2, rfl⟩
theorem t_law {ns : List Int} (hn : ns.length ≤ 63) : ∃ m', p_law [.lst (ns.map .int)] m = .ok (.bl true) m' := by
  unfold p_law q_law
  have pw : pd m (.tup a_WORDS) = some (.tuple [.str "not", .str "and", .str "or", .str "xor", .str "add", .str "sub", .str "less", .str "same", .str "wide", .str "bit"]) := rfl
  have pw2 : pd m (.tup [.str "not", .str "and", .str "or", .str "xor", .str "add", .str "sub", .str "less", .str "same", .str "wide", .str "bit"]) = some (.tuple [.str "not", .str "and", .str "or", .str "xor", .str "add", .str "sub", .str "less", .str "same", .str "wide", .str "bit"]) := rfl
  have tw : Tame 1000 6 (.tuple [.str "not", .str "and", .str "or", .str "xor", .str "add", .str "sub", .str "less", .str "same", .str "wide", .str "bit"]) := ⟨by decide, by decide, by decide, by decide⟩
  generalize hmany : (if (if (ns.length : Int) < 8 then (ns.length : Int) else 8) > 2 then (if (ns.length : Int) < 8 then (ns.length : Int) else 8) else 2) = many
  have hm : -4611686018427387904 ≤ many ∧ many < 4611686018427387904 := by rw [← hmany]; split <;> split <;> omega
  simp only [e_ok, e_ex, e_bad, e_sok, e_sex, e_sbad, e_var0, e_varS, e_varB0, e_varB1, e_varBS, e_c, e_nil, e_cons, e_op, e_some, e_none, e_cb, e_tup, e_lstF, e_val, e_bOf, e_iOf, e_andT, e_orT, e_notT, e_and, e_or, e_not, e_if, e_chain, e_neg, e_dct0, e_isi2, e_noP, e_pt, e_sl, e_P1, e_slL, e_slT, e_rev, e_call, e_callK, e_lstV, e_new, e_vLst, e_vCat, e_vSl, e_vList, e_vRep, e_lcV, e_compK, e_forK, e_iSq, e_iEn, e_iRg, e_vsqL, e_vsqT, e_iZp, e_catLL, e_catTT, e_aI0, e_aI, e_seqL, e_seqT, e_ixL, e_ixT, e_lenL, e_lenT, e_isi, e_max, e_min, e_tupL, e_tupT, e_intI, e_intB, e_listL, e_listT, e_all, e_any, e_sum, e_all, e_eqII, e_eqSS, e_next, e_seq, e_snx, e_srt, e_sbk, e_sct, e_sxx, e_sbd, e_drop, e_ret, e_retN, e_qif, e_break, e_cont, e_asg, e_asgT, e_ownV, e_app, e_par, e_raise, e_for, e_try, e_txx, e_tnx, e_trt, e_hrt, e_body, e_fnx, e_frt, e_fex, e_start0, e_startS, e_rep0, e_repS, List.append_nil, List.nil_append, List.set_cons_zero, List.set_cons_succ, List.length_cons, List.length_nil, List.length_map, List.length_range, Nat.reduceAdd, Nat.reduceLeDiff, Nat.reduceLT, Int.reduceLT, Int.reduceEq, Int.reduceLE, Int.reducePow, Int.reduceNeg, Int.reduceMul, Int.reduceAdd, Int.reduceSub, Int.reduceToNat, if_true, if_false, cond_true, cond_false, decide_true, decide_false, Bool.and_true, Bool.true_and, Bool.and_false, Bool.false_and, Bool.or_true, Bool.true_or, Bool.or_false, Bool.false_or, Bool.not_true, Bool.not_false, Bool.false_eq_true, Option.some.injEq, and_true, true_and, and_self, t_non, t_bl, t_int, t_str, t_lst, t_tup, t_dct, isiB, tyNs, List.contains_cons, List.contains_nil, String.reduceBEq, Bool.or_self, Bool.and_self, beq_self_eq_true, nc0, nc1, nc2, nc3, nc4, nc5, nc6, nc7, nc8, nc9, nc10, nc11, nc12, e_at0, e_at1, e_at2, e_at3, e_at4, e_at5, e_at6, e_at7, e_at8, e_at9, e_at10, e_at11, e_atm1, e_atm2, e_atm3, e_atm4, e_atm5, e_repr pw tw (by decide) (by decide), e_repr pw2 tw (by decide) (by decide), e_eqSS, hmany, hm]
  obtain ⟨e', m2, r, _⟩ := forA_inv (γ := tNm 1) (β := b3_law) (ds := rangeA many) (m := m) (env := [.val (.lst (ns.map .int)), .no, .no, .no, .no, .no, .no, .no, .no, .no, .no, .no, .no, .no, .no, .no])
    (fun j env m' => ∃ u1 u2 u3 u4 u5 u6 u7 u8 u9 u10 u11 u12 u13 u14 u15 : SV, env = [.val (.lst (ns.map .int)), u1, u2, u3, u4, u5, u6, u7, u8, u9, u10, u11, u12, u13, u14, u15]) (fun j d env m' hd hJ => by
      obtain ⟨u1, u2, u3, u4, u5, u6, u7, u8, u9, u10, u11, u12, u13, u14, u15, rfl⟩ := hJ
      obtain ⟨rfl, _⟩ := rangeA_get hd
      obtain ⟨v2, v3, v4, v5, v6, v7, v8, v9, v10, v11, v12, v13, v14, v15, m3, r3⟩ := cell_ok (m := m') (ns := ns) (i := j) (e2 := u2) (e3 := u3) (e4 := u4) (e5 := u5) (e6 := u6) (e7 := u7) (e8 := u8) (e9 := u9) (e10 := u10) (e11 := u11) (e12 := u12) (e13 := u13) (e14 := u14) (e15 := u15)
      exact ⟨_, _, m3, rfl, .inl r3, _, _, _, _, _, _, _, _, _, _, _, _, _, _, _, rfl⟩) ⟨_, _, _, _, _, _, _, _, _, _, _, _, _, _, _, rfl⟩
  rw [r]
  simp only [e_ok, e_ex, e_bad, e_sok, e_sex, e_sbad, e_var0, e_varS, e_varB0, e_varB1, e_varBS, e_c, e_nil, e_cons, e_op, e_some, e_none, e_cb, e_tup, e_lstF, e_val, e_bOf, e_iOf, e_andT, e_orT, e_notT, e_and, e_or, e_not, e_if, e_chain, e_neg, e_dct0, e_isi2, e_noP, e_pt, e_sl, e_P1, e_slL, e_slT, e_rev, e_call, e_callK, e_lstV, e_new, e_vLst, e_vCat, e_vSl, e_vList, e_vRep, e_lcV, e_compK, e_forK, e_iSq, e_iEn, e_iRg, e_vsqL, e_vsqT, e_iZp, e_catLL, e_catTT, e_aI0, e_aI, e_seqL, e_seqT, e_ixL, e_ixT, e_lenL, e_lenT, e_isi, e_max, e_min, e_tupL, e_tupT, e_intI, e_intB, e_listL, e_listT, e_all, e_any, e_sum, e_all, e_eqII, e_eqSS, e_next, e_seq, e_snx, e_srt, e_sbk, e_sct, e_sxx, e_sbd, e_drop, e_ret, e_retN, e_qif, e_break, e_cont, e_asg, e_asgT, e_ownV, e_app, e_par, e_raise, e_for, e_try, e_txx, e_tnx, e_trt, e_hrt, e_body, e_fnx, e_frt, e_fex, e_start0, e_startS, e_rep0, e_repS, List.append_nil, List.nil_append, List.set_cons_zero, List.set_cons_succ, List.length_cons, List.length_nil, List.length_map, List.length_range, Nat.reduceAdd, Nat.reduceLeDiff, Nat.reduceLT, Int.reduceLT, Int.reduceEq, Int.reduceLE, Int.reducePow, Int.reduceNeg, Int.reduceMul, Int.reduceAdd, Int.reduceSub, Int.reduceToNat, if_true, if_false, cond_true, cond_false, decide_true, decide_false, Bool.and_true, Bool.true_and, Bool.and_false, Bool.false_and, Bool.or_true, Bool.true_or, Bool.or_false, Bool.false_or, Bool.not_true, Bool.not_false, Bool.false_eq_true, Option.some.injEq, and_true, true_and, and_self, t_non, t_bl, t_int, t_str, t_lst, t_tup, t_dct, isiB, tyNs, List.contains_cons, List.contains_nil, String.reduceBEq, Bool.or_self, Bool.and_self, beq_self_eq_true, nc0, nc1, nc2, nc3, nc4, nc5, nc6, nc7, nc8, nc9, nc10, nc11, nc12, e_at0, e_at1, e_at2, e_at3, e_at4, e_at5, e_at6, e_at7, e_at8, e_at9, e_at10, e_at11, e_atm1, e_atm2, e_atm3, e_atm4, e_atm5]
  exact ⟨m2, rfl⟩
theorem s_law {K : PySem.W.Frag} {mg : Str → Option Value} {base : Heap} (T : Tx K mg base) {ns : List Int} (hn : ns.length ≤ 63) {P : QD} {Z : XD} (q : ∀ M, P (.bl true) M) : F_law K [.lst (ns.map D.int)] (fun _ => none) P Z := by
  obtain ⟨m', e⟩ := t_law (m := []) hn
  refine ok_law T [] (fun _ => none) [] _ [.lst (ns.map A.int)] _ P Z ⟨_, _, rfl, ⟨_, rfl, relAs.ints ns⟩, rfl⟩ ⟨rfl, fun i o h => (by simp at h), fun i j o u a h => (by simp at h), fun a u h => (by cases h)⟩ ?_
  rw [e]
  intro ρ' d M' _ r _
  have r : d = .bl true := r
  rw [r]
  exact q M'
end L03
set_option maxHeartbeats 0
namespace L03
open PySem PySem.Spec
open PyProof.Rows L2 DL
abbrev R : PySem.W.OpenRow := PySem.W.OpenLaw.row PySem.Challenge.rw_beatflows_k03_words_of_reckoning
abbrev hk : PySem.W.Hook := hookB 5 facts fns
def ob (s : PySem.W.SharedT) : He.AlD := obsBG 5 facts fns (HandSHeadRun.getT s)
theorem ob_eq (s : PySem.W.SharedT) : ob s = hk.obs s.abs := obsBG_eq (HandSHeadRun.getT_eq s)
def loose : List PySem.Str := (["FlowError", "Missing", "Barred", "NoKind", "NoWidth", "NoWorths", "NoNumber", "NoOp", "is_whole", "is_width", "is_kind", "is_worth", "reckoned_single", "reckoned_two", "reckoned", "_law_cell", "_law_purse", "_law_take", "_law_of", "_law_bits", "_law_made", "_law_carried", "_law_due", "_law_asked", "_law_worth", "_law_refused_right", "MOST_WIDTH", "MOST_ROW", "WORDS", "SINGLE"] : List PySem.Str)
theorem run (w : World) : HandSHeadRun.RunEq R (PySem.W.view R.prog [33]) hk ob 6000 loose w := by
  intro os
  kernel_rfl
end L03
set_option maxHeartbeats 0
open PySem PySem.W
open PySem.Calls PyProof.Rows
theorem PySem.Challenge.cw_beatflows_k03_words_of_reckoning_holds : PySem.Challenge.rw_beatflows_k03_words_of_reckoning.Holds := by
  w_on; o_law
  refine HandSHeadRun.head_any (r := OpenLaw.row PySem.Challenge.rw_beatflows_k03_words_of_reckoning) (q := view (OpenLaw.row PySem.Challenge.rw_beatflows_k03_words_of_reckoning).prog [33]) (H := L03.hk) (ob := L03.ob) (M := 6000) (loose := L03.loose) (d := HandSHeadRun.topDef (OpenLaw.row PySem.Challenge.rw_beatflows_k03_words_of_reckoning).prog 33) (kwd := []) L03.ob_eq
    (by kernel_rfl) (fun s => by kernel_rfl) L03.run (by kernel_rfl) (by kernel_rfl) (by kernel_rfl) (by rfl) (by first | assumption | decide +kernel) (by decide +kernel) ⟨rfl, rfl, rfl, rfl, rfl, by decide +kernel⟩ ?hw ?hc
  case hw => w_witness2
  case hc =>
    refine DL.walk_D (l := PySem.Challenge.rw_beatflows_k03_words_of_reckoning) (n := 63) (k := 8) (x := "script") rfl (by decide) (by kernel_rfl) ⟨rfl, by decide, by decide⟩ ?F
    intro w mg fa h Y G hmg0
    obtain ⟨K, KX, c⟩ := Y
    have hmg :
      mg ("law" : PySem.Str) = some (.ref fa) := by
      have e : (HandSHeadRun.topDef (OpenLaw.row PySem.Challenge.rw_beatflows_k03_words_of_reckoning).prog 33).name = ("law" : PySem.Str) := by kernel_rfl
      rw [← e]
      exact hmg0
    have sy : PySem.W.nsOkIn K sysModules = true := c.fact 0 (f := fun K => PySem.W.nsOkIn K sysModules) rfl
    have TX : ∀ base : Heap, K.In base → base.Ns mainGlobals mg → L03.Tx K mg base := fun base X G => ⟨X, G, ⟨_, .of_isNs (PySem.W.isNs_of_in X sy)⟩, c⟩
    obtain ⟨f0, fd, e0, FF, bb, _⟩ := (L03.k_law (P := PySem.Challenge.rw_beatflows_k03_words_of_reckoning.prog) (w := w) (TX h KX G)).ex
    have e1 := e0.symm.trans hmg
    cases e1
    refine ⟨K, fd, L03.F_law K, KX, sy, fun ns hz => L03.s_law (TX h KX G) hz fun _ => rfl, fun s u => FF.bindsA (ps := ["script"]) (fun _ _ _ _ _ _ us hl => (match us, hl with | [_], _ => rfl)) s [u] rfl, fun base X G2 _ => ?_⟩
    obtain ⟨f1, fd1, e2, FF1, _, DD⟩ := (L03.k_law (P := PySem.Challenge.rw_beatflows_k03_words_of_reckoning.prog) (w := w) (TX base X G2)).ex
    have e3 := e2.symm.trans e0
    cases e3
    obtain ⟨oc, od, dV, kV, doc, pm, an, cdv, ct, osl, r1, lk, _, _, _⟩ := FF.ex
    obtain ⟨oc', od', dV', kV', doc', pm', an', cdv', ct', osl', r2, lk', _, _, _⟩ := FF1.ex
    have e4 := lk.symm.trans lk'
    cases e4
    exact DD
