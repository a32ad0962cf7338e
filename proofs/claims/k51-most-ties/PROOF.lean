import PyProof.Rows.All
import Wide.All
import OpenK.AllK
import Wide.FinOn
import HandS.ForMost
import HandS.Wide
import HandS.WideBits
import HandS.More
import HandS.IsInst
import HandS.EndBits
import HandS.Deep
import HandS.Conv
import PySem.Challenge.RW_forcedties_k51_most_ties_judged
set_option Elab.async false
set_option linter.all false
set_option maxRecDepth 100000
set_option maxHeartbeats 4000000

namespace DL
open PySem L2

/-! # The data layer: plain data over the hand layer's heap -/
inductive D where
  | non
  | bl (b : Bool)
  | int (i : Int)
  | str (x : Str)
  | tup (ds : List D)
  | lst (ds : List D)
  | dct (ks : List Key) (ds : List D)
  | scr (ns : List Int)
  | ref (i : Nat)
  | obj (c : Str) (fs : List Str) (ds : List D)

inductive Cell where
  | lst (ds : List D)
  | dct (kvs : List (Key × D))
  | ins (c : Str) (fs : List Str) (ds : List D)

abbrev Sto := List Cell
abbrev DEnv := List (Option D)
abbrev FE := DEnv → Sto → Option (D × Sto)
abbrev FA := DEnv → Sto → Option (List D × Sto)
abbrev FT := DEnv → Sto → Option (Bool × Sto)
abbrev FD := List D → Sto → Option (D × Sto)
inductive Fl where
  | nx (env : DEnv)
  | rt (d : D)
  | bk (env : DEnv)
  | ct (env : DEnv)
abbrev FS := DEnv → Sto → Option (Fl × Sto)

abbrev CT := Str → Option Addr

section
variable (K : PySem.W.Frag) (ct : CT)
mutual
def Rep (m : List Addr) (F : Hp) : D → V → Prop
  | .non, v => v = .non
  | .bl b, v => v = .bl b
  | .int i, v => v = .int i
  | .str x, v => v = .str x
  | .tup ds, v => ∃ a vs, v = .ref a ∧ SqT K F a vs ∧ Reps m F ds vs
  | .lst ds, v => ∃ a vs, v = .ref a ∧ F a = some (.lst vs) ∧ Reps m F ds vs
  | .dct ks ds, v => ∃ a vs, v = .ref a ∧ F a = some (.dK (ks.zip vs)) ∧ ks.length = vs.length ∧ Reps m F ds vs
  | .scr ns, v => ∃ a, v = .ref a ∧ SqL K F a (ns.map V.int)
  | .ref i, v => ∃ a, m[i]? = some a ∧ v = .ref a
  | .obj c fs ds, v => ∃ a C dx vs, v = .ref a ∧ ct c = some C ∧ F a = some (.ins C dx (fs.zip vs)) ∧ fs.length = vs.length ∧ Reps m F ds vs
def Reps (m : List Addr) (F : Hp) : List D → List V → Prop
  | [], vs => vs = []
  | d :: ds, vs => ∃ v r, vs = v :: r ∧ Rep m F d v ∧ Reps m F ds r
end
def CellR (m : List Addr) (F : Hp) (o : Option HO) : Cell → Prop
  | .lst ds => ∃ vs, o = some (.lst vs) ∧ Reps K ct m F ds vs
  | .dct kvs => ∃ us, o = some (.dK us) ∧ Paired (fun (p : Key × D) (q : Key × V) => p.1 = q.1 ∧ Rep K ct m F p.2 q.2) kvs us
  | .ins c fs ds => ∃ C dx vs, o = some (.ins C dx (fs.zip vs)) ∧ ct c = some C ∧ fs.length = vs.length ∧ Reps K ct m F ds vs
structure Sim (m : List Addr) (F : Hp) (S : Sto) (H : Hp) : Prop where
  same : Same F H
  len : m.length = S.length
  nd : m.Nodup
  off : ∀ a ∈ m, F a = none
  cell : ∀ (i : Nat) (a : Addr) (c : Cell), m[i]? = some a → S[i]? = some c → CellR K ct m F (H a) c
def EnvR (m : List Addr) (F : Hp) (env : DEnv) (σ : St) : Prop :=
  env.length = σ.length ∧ ∀ (i : Nat) (d : D), env[i]? = some (some d) → ∃ v, σ[i]? = some (some v) ∧ Rep K ct m F d v
end
/-- what an evaluation may do to the heap -/
structure Ext (m : List Addr) (F H : Hp) (m' : List Addr) (F' H' : Hp) : Prop where
  pre : ∀ (i : Nat) (a : Addr), m[i]? = some a → m'[i]? = some a
  same : Same F F'
  keep : ∀ b o, H b = some o → b ∉ m → H' b = some o
  new : ∀ a ∈ m', a ∈ m ∨ H a = none
  fnew : ∀ b o, F' b = some o → F b = some o ∨ H b = none
  grow : ∀ b o, H b = some o → ∃ o', H' b = some o'

theorem nodup_inj {α : Type} {a : α} : ∀ {l : List α} {i j : Nat}, l.Nodup → l[i]? = some a → l[j]? = some a → i = j
  | [], _, _, _, h, _ => by simp at h
  | x :: l, 0, 0, _, _, _ => rfl
  | x :: l, 0, j + 1, n, h, q => by
    simp at h q
    exact absurd (List.mem_iff_getElem?.mpr ⟨j, q⟩) (h ▸ (List.nodup_cons.mp n).1)
  | x :: l, i + 1, 0, n, h, q => by
    simp at h q
    exact absurd (List.mem_iff_getElem?.mpr ⟨i, h⟩) (q ▸ (List.nodup_cons.mp n).1)
  | x :: l, i + 1, j + 1, n, h, q => by
    have := nodup_inj (i := i) (j := j) (List.nodup_cons.mp n).2 (by simpa using h) (by simpa using q)
    omega
theorem Ext.refl (m : List Addr) (F H : Hp) : Ext m F H m F H := ⟨fun _ _ h => h, Same.refl _, fun _ _ h _ => h, fun _ h => .inl h, fun _ _ h => .inl h, fun _ o h => ⟨o, h⟩⟩
theorem Ext.mem {m m' : List Addr} {F H F' H' : Hp} (e : Ext m F H m' F' H') {a : Addr} (h : a ∈ m) : a ∈ m' := by
  obtain ⟨i, hi⟩ := List.mem_iff_getElem?.mp h
  exact List.mem_iff_getElem?.mpr ⟨i, e.pre i a hi⟩
theorem Ext.trans {m m1 m2 : List Addr} {F F1 F2 H H1 H2 : Hp} (a : Ext m F H m1 F1 H1) (b : Ext m1 F1 H1 m2 F2 H2) : Ext m F H m2 F2 H2 where
  pre := fun i x h => b.pre i x (a.pre i x h)
  same := a.same.trans b.same
  keep := fun c o h n => b.keep c o (a.keep c o h n) fun hm => by
    rcases a.new c hm with q | q
    · exact n q
    · rw [h] at q; cases q
  new := fun x hx => by
    rcases b.new x hx with q | q
    · exact a.new x q
    · cases e : H x with
      | none => exact .inr rfl
      | some o =>
        obtain ⟨o', h⟩ := a.grow x o e
        rw [h] at q; cases q
  fnew := fun x o hx => by
    rcases b.fnew x o hx with q | q
    · exact a.fnew x o q
    · cases e : H x with
      | none => exact .inr rfl
      | some o =>
        obtain ⟨o', h⟩ := a.grow x o e
        rw [h] at q; cases q
  grow := fun x o h => by
    obtain ⟨o1, h1⟩ := a.grow x o h
    exact b.grow x o1 h1

section
variable {K : PySem.W.Frag} {ct : CT}
theorem sqT_mono {F F' : Hp} {a : Addr} {vs : List V} (e : Same F F') (h : SqT K F a vs) : SqT K F' a vs := by
  rcases h with (h | ⟨o, h⟩) | h
  · exact .inl (.inl (e _ _ h))
  · exact .inl (.inr ⟨o, e _ _ h⟩)
  · exact .inr h
mutual
theorem Rep.mono' {m m' : List Addr} {F F' : Hp} (hp : ∀ (i : Nat) (a : Addr), m[i]? = some a → m'[i]? = some a) (e : Same F F') : ∀ (d : D) (v : V), Rep K ct m F d v → Rep K ct m' F' d v
  | .non, _, h => h
  | .bl _, _, h => h
  | .int _, _, h => h
  | .str _, _, h => h
  | .tup ds, _, h => by
    obtain ⟨a, vs, e1, e2, e3⟩ := h
    exact ⟨a, vs, e1, sqT_mono e e2, Reps.mono' hp e ds vs e3⟩
  | .lst ds, _, h => by
    obtain ⟨a, vs, e1, e2, e3⟩ := h
    exact ⟨a, vs, e1, e _ _ e2, Reps.mono' hp e ds vs e3⟩
  | .dct ks ds, _, h => by
    obtain ⟨a, vs, e1, e2, e4, e3⟩ := h
    exact ⟨a, vs, e1, e _ _ e2, e4, Reps.mono' hp e ds vs e3⟩
  | .scr _, _, h => by
    obtain ⟨a, e1, e2⟩ := h
    exact ⟨a, e1, e.seq e2⟩
  | .ref i, _, h => by
    obtain ⟨a, e1, e2⟩ := h
    exact ⟨a, hp i a e1, e2⟩
  | .obj c fs ds, _, h => by
    obtain ⟨a, C, dx, vs, e1, e2, e4, e5, e3⟩ := h
    exact ⟨a, C, dx, vs, e1, e2, e _ _ e4, e5, Reps.mono' hp e ds vs e3⟩
theorem Reps.mono' {m m' : List Addr} {F F' : Hp} (hp : ∀ (i : Nat) (a : Addr), m[i]? = some a → m'[i]? = some a) (e : Same F F') : ∀ (ds : List D) (vs : List V), Reps K ct m F ds vs → Reps K ct m' F' ds vs
  | [], _, h => h
  | d :: ds, _, h => by
    obtain ⟨v, r, e1, e2, e3⟩ := h
    exact ⟨v, r, e1, Rep.mono' hp e d v e2, Reps.mono' hp e ds r e3⟩
end
variable {m m' : List Addr} {F F' H H' : Hp} {S S' : Sto} {env : DEnv} {σ : St} {d : D} {v : V} {ds : List D} {vs : List V}
theorem Rep.mono (h : Rep K ct m F d v) (e : Ext m F H m' F' H') : Rep K ct m' F' d v := Rep.mono' e.pre e.same d v h
theorem Reps.mono (h : Reps K ct m F ds vs) (e : Ext m F H m' F' H') : Reps K ct m' F' ds vs := Reps.mono' e.pre e.same ds vs h
theorem EnvR.mono (h : EnvR K ct m F env σ) (e : Ext m F H m' F' H') : EnvR K ct m' F' env σ :=
  ⟨h.1, fun i d q => let ⟨v, h1, h2⟩ := h.2 i d q; ⟨v, h1, h2.mono e⟩⟩
theorem CellR.mono {o : Option HO} {c : Cell} (h : CellR K ct m F o c) (e : Ext m F H m' F' H') : CellR K ct m' F' o c := by
  cases c with
  | lst ds => obtain ⟨vs, e1, e2⟩ := h; exact ⟨vs, e1, e2.mono e⟩
  | dct kvs => obtain ⟨vs, e1, e2⟩ := h; exact ⟨vs, e1, Paired.mapP e2 fun p q z => ⟨z.1, z.2.mono e⟩⟩
  | ins c fs ds => obtain ⟨C, dx, vs, e1, e4, e3, e2⟩ := h; exact ⟨C, dx, vs, e1, e4, e3, e2.mono e⟩
theorem CellR.isSome {o : Option HO} {c : Cell} (h : CellR K ct m F o c) : ∃ u, o = some u := by
  cases c with
  | lst ds => obtain ⟨vs, e1, _⟩ := h; exact ⟨_, e1⟩
  | dct kvs => obtain ⟨vs, e1, _⟩ := h; exact ⟨_, e1⟩
  | ins c fs ds => obtain ⟨C, dx, vs, e1, _⟩ := h; exact ⟨_, e1⟩
theorem Sim.at (s : Sim K ct m F S H) {i : Nat} {a : Addr} (h : m[i]? = some a) : ∃ c, S[i]? = some c ∧ CellR K ct m F (H a) c := by
  have hi : i < S.length := by
    rw [← s.len]
    exact (List.getElem?_eq_some_iff.mp h).1
  exact ⟨S[i], List.getElem?_eq_getElem hi, s.cell i a S[i] h (List.getElem?_eq_getElem hi)⟩
theorem Sim.there (s : Sim K ct m F S H) {a : Addr} (h : a ∈ m) : ∃ o, H a = some o := by
  obtain ⟨i, hi⟩ := List.mem_iff_getElem?.mp h
  obtain ⟨c, _, hc⟩ := s.at hi
  exact hc.isSome
/-- a new frozen object -/
theorem Sim.frozen (s : Sim K ct m F S H) {p : Addr} (hp : H p = none) (o : HO) : Sim K ct m (upd F p o) S (upd H p o) ∧ Ext m F H m (upd F p o) (upd H p o) := by
  have nm : p ∉ m := fun h => by
    obtain ⟨o, q⟩ := s.there h
    rw [hp] at q; cases q
  have x : Ext m F H m (upd F p o) (upd H p o) := by
    refine ⟨fun _ _ h => h, fun b u h => ?_, fun b u h _ => ?_, fun a h => .inl h, fun b u h => ?_, fun b u h => ?_⟩
    · rw [upd_ne (ne_of_none (s.same _ _ h) hp)]; exact h
    · rw [upd_ne (ne_of_none h hp)]; exact h
    · by_cases hb : b = p
      · rw [hb]; exact .inr hp
      · rw [upd_ne hb] at h; exact .inl h
    · exact ⟨u, by rw [upd_ne (ne_of_none h hp)]; exact h⟩
  refine ⟨⟨fun b u h => ?_, s.len, s.nd, fun a h => ?_, fun i a c h1 h2 => ?_⟩, x⟩
  · by_cases hb : b = p
    · rw [hb, upd_same] at h; rw [hb, upd_same]; exact h
    · rw [upd_ne hb] at h; rw [upd_ne hb]; exact s.same _ _ h
  · have na : a ≠ p := fun e => nm (e ▸ h)
    rw [upd_ne na]; exact s.off a h
  · have hm : a ∈ m := List.mem_iff_getElem?.mpr ⟨i, h1⟩
    have na : a ≠ p := fun e => nm (e ▸ hm)
    rw [upd_ne na]
    exact (s.cell i a c h1 h2).mono x
/-- a new cell -/
theorem Sim.fresh (s : Sim K ct m F S H) {p : Addr} (hp : H p = none) {o : HO} {c : Cell} (hc : CellR K ct m F (some o) c) : Sim K ct (m ++ [p]) F (S ++ [c]) (upd H p o) ∧ Ext m F H (m ++ [p]) F (upd H p o) := by
  have nm : p ∉ m := fun h => by
    obtain ⟨o, q⟩ := s.there h
    rw [hp] at q; cases q
  have x : Ext m F H (m ++ [p]) F (upd H p o) := by
    refine ⟨fun i a h => ?_, Same.refl _, fun b u h _ => ?_, fun a h => ?_, fun b u h => .inl h, fun b u h => ?_⟩
    · rw [List.getElem?_append_left (List.getElem?_eq_some_iff.mp h).1]; exact h
    · rw [upd_ne (ne_of_none h hp)]; exact h
    · rcases List.mem_append.mp h with q | q
      · exact .inl q
      · rw [List.mem_singleton.mp q]; exact .inr hp
    · exact ⟨u, by rw [upd_ne (ne_of_none h hp)]; exact h⟩
  refine ⟨⟨fun b u h => ?_, by simp [s.len], ?_, fun a h => ?_, fun i a c' h1 h2 => ?_⟩, x⟩
  · rw [upd_ne (ne_of_none (s.same _ _ h) hp)]; exact s.same _ _ h
  · rw [List.nodup_append]
    exact ⟨s.nd, by simp, fun a ha b hb e => nm (by rw [List.mem_singleton.mp hb] at e; exact e ▸ ha)⟩
  · rcases List.mem_append.mp h with q | q
    · exact s.off a q
    · rw [List.mem_singleton.mp q]
      cases e : F p with
      | none => rfl
      | some o => rw [s.same _ _ e] at hp; cases hp
  · by_cases hi : i < m.length
    · rw [List.getElem?_append_left hi] at h1
      rw [List.getElem?_append_left (s.len ▸ hi)] at h2
      have hm : a ∈ m := List.mem_iff_getElem?.mpr ⟨i, h1⟩
      have na : a ≠ p := fun e => nm (e ▸ hm)
      rw [upd_ne na]
      exact (s.cell i a c' h1 h2).mono x
    · rw [List.getElem?_append_right (by omega)] at h1
      rw [List.getElem?_append_right (by have := s.len; omega)] at h2
      have e0 : i - m.length = 0 := by
        have := (List.getElem?_eq_some_iff.mp h1).1
        simp at this; omega
      rw [e0] at h1
      rw [← s.len, e0] at h2
      simp at h1 h2
      subst h1 h2
      rw [upd_same]
      exact hc.mono x
/-- a cell is changed -/
theorem Sim.change (s : Sim K ct m F S H) {i : Nat} {p : Addr} (hi : m[i]? = some p) {o : HO} {c : Cell} (hc : CellR K ct m F (some o) c) : Sim K ct m F (S.set i c) (upd H p o) ∧ Ext m F H m F (upd H p o) := by
  have hm : p ∈ m := List.mem_iff_getElem?.mpr ⟨i, hi⟩
  have x : Ext m F H m F (upd H p o) := by
    refine ⟨fun _ _ h => h, Same.refl _, fun b u h n => ?_, fun a h => .inl h, fun _ _ h => .inl h, fun b u h => ?_⟩
    · have nb : b ≠ p := fun e => n (e ▸ hm)
      rw [upd_ne nb]; exact h
    · by_cases hb : b = p
      · rw [hb, upd_same]; exact ⟨o, rfl⟩
      · rw [upd_ne hb]; exact ⟨u, h⟩
  refine ⟨⟨fun b u h => ?_, by simp [s.len], s.nd, s.off, fun j a c' h1 h2 => ?_⟩, x⟩
  · have nb : b ≠ p := fun e => by
      subst e
      rw [s.off b hm] at h; cases h
    rw [upd_ne nb]; exact s.same _ _ h
  · have hil : i < m.length := (List.getElem?_eq_some_iff.mp hi).1
    by_cases hj : j = i
    · subst hj
      rw [hi] at h1
      cases h1
      rw [List.getElem?_set_self (s.len ▸ hil)] at h2
      cases h2
      rw [upd_same]
      exact hc
    · rw [List.getElem?_set_ne (fun e => hj e.symm)] at h2
      have na : a ≠ p := fun e => by
        subst e
        have hjl : j < m.length := (List.getElem?_eq_some_iff.mp h1).1
        exact hj (nodup_inj s.nd h1 hi)
      rw [upd_ne na]
      exact s.cell j a c' h1 h2
theorem Reps.length : ∀ {ds : List D} {vs : List V}, Reps K ct m F ds vs → ds.length = vs.length
  | [], _, h => by have h : _ = _ := h; subst h; rfl
  | d :: ds, _, h => by
    obtain ⟨v, r, e1, _, e3⟩ := h
    subst e1
    simp [Reps.length e3]
theorem Reps.get : ∀ {ds : List D} {vs : List V} {i : Nat} {d : D}, Reps K ct m F ds vs → ds[i]? = some d → ∃ v, vs[i]? = some v ∧ Rep K ct m F d v
  | [], _, _, _, _, h => by simp at h
  | d :: ds, _, 0, _, hr, h => by
    obtain ⟨v, r, e1, e2, _⟩ := hr
    subst e1
    simp at h
    subst h
    exact ⟨v, rfl, e2⟩
  | d :: ds, _, i + 1, _, hr, h => by
    obtain ⟨v, r, e1, _, e3⟩ := hr
    subst e1
    exact Reps.get (i := i) e3 (by simpa using h)
theorem Reps.getV {i : Nat} (h : Reps K ct m F ds vs) (e : vs[i]? = some v) : ∃ d, ds[i]? = some d ∧ Rep K ct m F d v := by
  have hi : i < ds.length := by
    rw [h.length]
    exact (List.getElem?_eq_some_iff.mp e).1
  obtain ⟨v', q1, q2⟩ := h.get (List.getElem?_eq_getElem hi)
  rw [e] at q1
  cases q1
  exact ⟨_, List.getElem?_eq_getElem hi, q2⟩
theorem Reps.snoc : ∀ {ds : List D} {vs : List V} {d : D} {v : V}, Reps K ct m F ds vs → Rep K ct m F d v → Reps K ct m F (ds ++ [d]) (vs ++ [v])
  | [], _, d, v, h, q => by
    have h : _ = _ := h
    subst h
    exact ⟨v, [], rfl, q, rfl⟩
  | e :: ds, _, d, v, h, q => by
    obtain ⟨x, r, e1, e2, e3⟩ := h
    subst e1
    exact ⟨x, r ++ [v], rfl, e2, e3.snoc q⟩
theorem Reps.append : ∀ {ds es : List D} {vs us : List V}, Reps K ct m F ds vs → Reps K ct m F es us → Reps K ct m F (ds ++ es) (vs ++ us)
  | [], _, _, _, h, q => by
    have h : _ = _ := h
    subst h
    exact q
  | e :: ds, _, _, _, h, q => by
    obtain ⟨x, r, e1, e2, e3⟩ := h
    subst e1
    exact ⟨x, _, rfl, e2, e3.append q⟩
theorem Reps.set : ∀ {ds : List D} {vs : List V} {d : D} {v : V} (i : Nat), Reps K ct m F ds vs → Rep K ct m F d v → Reps K ct m F (ds.set i d) (vs.set i v)
  | [], _, d, v, i, h, q => by
    have h : _ = _ := h
    subst h
    cases i <;> exact rfl
  | e :: ds, _, d, v, 0, h, q => by
    obtain ⟨x, r, e1, e2, e3⟩ := h
    subst e1
    exact ⟨v, r, rfl, q, e3⟩
  | e :: ds, _, d, v, i + 1, h, q => by
    obtain ⟨x, r, e1, e2, e3⟩ := h
    subst e1
    exact ⟨x, _, rfl, e2, e3.set i q⟩
theorem Reps.take : ∀ {ds : List D} {vs : List V} (n : Nat), Reps K ct m F ds vs → Reps K ct m F (ds.take n) (vs.take n)
  | _, _, 0, _ => by simp [Reps]
  | [], _, n + 1, h => by
    have h : _ = _ := h
    subst h
    exact rfl
  | d :: ds, _, n + 1, h => by
    obtain ⟨x, r, e1, e2, e3⟩ := h
    subst e1
    exact ⟨x, _, rfl, e2, e3.take n⟩
theorem Reps.drop : ∀ {ds : List D} {vs : List V} (n : Nat), Reps K ct m F ds vs → Reps K ct m F (ds.drop n) (vs.drop n)
  | _, _, 0, h => h
  | [], _, n + 1, h => by
    have h : _ = _ := h
    subst h
    exact rfl
  | d :: ds, _, n + 1, h => by
    obtain ⟨x, r, e1, e2, e3⟩ := h
    subst e1
    exact e3.drop n
theorem Reps.mk1 (h : Rep K ct m F d v) : Reps K ct m F [d] [v] := ⟨v, [], rfl, h, rfl⟩
theorem Reps.ints (ns : List Int) : Reps K ct m F (ns.map D.int) (ns.map V.int) := by
  induction ns with
  | nil => exact rfl
  | cons n ns ih => exact ⟨_, _, rfl, rfl, ih⟩
theorem EnvR.set (h : EnvR K ct m F env σ) (i : Nat) (q : Rep K ct m F d v) : EnvR K ct m F (env.set i (some d)) (σ.set i (some v)) := by
  refine ⟨by simp [h.1], fun j e hj => ?_⟩
  by_cases e1 : i = j
  · subst e1
    have hl : i < env.length := by
      have := (List.getElem?_eq_some_iff.mp hj).1
      simpa using this
    rw [List.getElem?_set_self hl] at hj
    cases hj
    rw [List.getElem?_set_self (h.1 ▸ hl)]
    exact ⟨v, rfl, q⟩
  · rw [List.getElem?_set_ne e1] at hj
    rw [List.getElem?_set_ne e1]
    exact h.2 j e hj
end

/-! ## judgements -/
section
variable (ct : CT)
def PostE (K : PySem.W.Frag) (m : List Addr) (F H : Hp) (S' : Sto) (d : D) (Q : VK) : Prop :=
  ∀ m' F' v H', Ext m F H m' F' H' → Sim K ct m' F' S' H' → Rep K ct m' F' d v → Q v H'
def PostA (K : PySem.W.Frag) (m : List Addr) (F H : Hp) (S' : Sto) (ds : List D) (Q : List V → Hp → Prop) : Prop :=
  ∀ m' F' vs H', Ext m F H m' F' H' → Sim K ct m' F' S' H' → Reps K ct m' F' ds vs → Q vs H'
def PostT (K : PySem.W.Frag) (m : List Addr) (F H : Hp) (S' : Sto) (b : Bool) (Q : Bool → Hp → Prop) : Prop :=
  ∀ m' F' H', Ext m F H m' F' H' → Sim K ct m' F' S' H' → Q b H'
def PostS (K : PySem.W.Frag) (m : List Addr) (F H : Hp) (S' : Sto) (fl : Fl) (E : Ends) : Prop :=
  match fl with
  | .nx env' => ∀ m' F' σ' H', Ext m F H m' F' H' → Sim K ct m' F' S' H' → EnvR K ct m' F' env' σ' → E.nx σ' H'
  | .rt d => ∀ m' F' v H', Ext m F H m' F' H' → Sim K ct m' F' S' H' → Rep K ct m' F' d v → E.rt v H'
  | .bk env' => ∀ m' F' σ' H', Ext m F H m' F' H' → Sim K ct m' F' S' H' → EnvR K ct m' F' env' σ' → E.bk σ' H'
  | .ct env' => ∀ m' F' σ' H', Ext m F H m' F' H' → Sim K ct m' F' S' H' → EnvR K ct m' F' env' σ' → E.ct σ' H'
def SE (X : Cx) (e : Expr) (f : FE) : Prop := ∃ t, PE X e t ∧ ∀ m F S σ H env d S' Q, Sim X.K ct m F S H → EnvR X.K ct m F env σ → f env S = some (d, S') → PostE ct X.K m F H S' d Q → t σ H Q
def SA (X : Cx) (es : List Expr) (f : FA) : Prop := ∃ t, PA X es t ∧ ∀ m F S σ H env ds S' Q, Sim X.K ct m F S H → EnvR X.K ct m F env σ → f env S = some (ds, S') → PostA ct X.K m F H S' ds Q → t σ H Q
def ST (X : Cx) (e : Expr) (f : FT) : Prop := ∃ t, PT X e t ∧ ∀ m F S σ H env b S' Q, Sim X.K ct m F S H → EnvR X.K ct m F env σ → f env S = some (b, S') → PostT ct X.K m F H S' b Q → t σ H Q
def SW (X : Cx) (e : Expr) (f : FT) : Prop := ∃ t, PW X e t ∧ ∀ m F S σ H env b S' Q, Sim X.K ct m F S H → EnvR X.K ct m F env σ → f env S = some (b, S') → PostT ct X.K m F H S' b Q → t σ H Q
def SS (X : Cx) (st : Stmt) (f : FS) : Prop := ∃ t, PS X st t ∧ ∀ m F S σ H env fl S' E, Sim X.K ct m F S H → EnvR X.K ct m F env σ → f env S = some (fl, S') → PostS ct X.K m F H S' fl E → t E σ H
def SSs (X : Cx) (sts : List Stmt) (f : FS) : Prop := ∃ t, PSs X sts t ∧ ∀ m F S σ H env fl S' E, Sim X.K ct m F S H → EnvR X.K ct m F env σ → f env S = some (fl, S') → PostS ct X.K m F H S' fl E → t E σ H
/-- a rule of two values, at data -/
def OpD (K : PySem.W.Frag) (r : R2) (g : D → D → Sto → Option (D × Sto)) : Prop := ∀ m F S H x y dx dy d S' Q, Sim K ct m F S H → Rep K ct m F dx x → Rep K ct m F dy y → g dx dy S = some (d, S') → PostE ct K m F H S' d Q → r x y H Q
def CallD (K : PySem.W.Frag) (r : List V → Hp → VK → Prop) (g : FD) : Prop := ∀ m F S H xs ds d S' Q, Sim K ct m F S H → Reps K ct m F ds xs → g ds S = some (d, S') → PostE ct K m F H S' d Q → r xs H Q
end

section
variable {ct : CT} {K : PySem.W.Frag} {m m1 : List Addr} {F F1 H H1 : Hp} {S S' : Sto}
theorem PostE.ext {d : D} {Q : VK} (p : PostE ct K m F H S' d Q) (e : Ext m F H m1 F1 H1) : PostE ct K m1 F1 H1 S' d Q := fun m' F' v H' x s r => p m' F' v H' (e.trans x) s r
theorem PostA.ext {d : List D} {Q : List V → Hp → Prop} (p : PostA ct K m F H S' d Q) (e : Ext m F H m1 F1 H1) : PostA ct K m1 F1 H1 S' d Q := fun m' F' v H' x s r => p m' F' v H' (e.trans x) s r
theorem PostT.ext {d : Bool} {Q : Bool → Hp → Prop} (p : PostT ct K m F H S' d Q) (e : Ext m F H m1 F1 H1) : PostT ct K m1 F1 H1 S' d Q := fun m' F' H' x s => p m' F' H' (e.trans x) s
theorem PostS.ext {fl : Fl} {E : Ends} (p : PostS ct K m F H S' fl E) (e : Ext m F H m1 F1 H1) : PostS ct K m1 F1 H1 S' fl E := by
  cases fl with
  | nx env' => exact fun m' F' σ' H' x s r => p m' F' σ' H' (e.trans x) s r
  | rt d => exact fun m' F' σ' H' x s r => p m' F' σ' H' (e.trans x) s r
  | bk env' => exact fun m' F' σ' H' x s r => p m' F' σ' H' (e.trans x) s r
  | ct env' => exact fun m' F' σ' H' x s r => p m' F' σ' H' (e.trans x) s r
theorem PostE.now {d : D} {v : V} {Q : VK} (p : PostE ct K m F H S d Q) (s : Sim K ct m F S H) (r : Rep K ct m F d v) : Q v H := p m F v H (Ext.refl _ _ _) s r
end
end DL

namespace DL
open PySem L2
section
variable {ct : CT} {X : Cx} {a b c e : Expr} {es : List Expr} {fa fb fc f : FE} {fas : FA} {pos : Pos}
/-! ## names, constants -/
def fVar (i : Nat) : FE := fun env S => match env[i]? with
  | some (some d) => some (d, S)
  | _ => none
def fC (d : D) : FE := fun _ S => some (d, S)
theorem se_var (i : Nat) {x : Str} (hN : X.N[i]? = some x := by rfl) (hv : Vis X.env.scope x := by first | exact Or.inl rfl | exact Or.inr (Or.inl rfl) | exact Or.inr (Or.inr rfl)) (hd : (x == ("__debug__" : Str)) = false := by decide)
    (hcd : (x == ("__classdict__" : Str)) = false := by decide) : SE ct X (.Name x pos) (fVar i) := by
  refine ⟨_, pe_var hN hv hd hcd, fun m F S σ H env d S' Q s r h p => ?_⟩
  unfold fVar at h
  split at h
  · rename_i d' e
    cases h
    obtain ⟨v, h1, h2⟩ := r.2 i _ e
    exact ⟨v, h1, p.now s h2⟩
  · cases h
theorem se_of {t : TE} {d : D} {v : V} (h : PE X e t) (ht : ∀ σ H (Q : VK), Q v H → t σ H Q) (hr : ∀ m F, Rep X.K ct m F d v) : SE ct X e (fC d) :=
  ⟨t, h, fun m F S σ H env d' S' Q s _ q p => by
    cases q
    exact ht σ H Q (p.now s (hr m F))⟩
theorem se_int {i : Int} {j : Nat} : SE ct X (.Constant (.int i) j pos) (fC (.int i)) := se_of pe_int (fun _ _ _ q => q) fun _ _ => rfl
theorem se_bl {i : Bool} {j : Nat} : SE ct X (.Constant (.bool i) j pos) (fC (.bl i)) := se_of pe_bl (fun _ _ _ q => q) fun _ _ => rfl
theorem se_non {j : Nat} : SE ct X (.Constant .none j pos) (fC .non) := se_of pe_non (fun _ _ _ q => q) fun _ _ => rfl
theorem se_str {i : Str} {j : Nat} : SE ct X (.Constant (.str i) j pos) (fC (.str i)) := se_of pe_str (fun _ _ _ q => q) fun _ _ => rfl
theorem se_glob {x : Str} {v : V} {u : Value} {d : D} (hg : Gl X x) (hm : X.mg x = some u) (r : RelV v u) (hr : ∀ m F, Rep X.K ct m F d v) (hd : (x == ("__debug__" : Str)) = false := by decide) : SE ct X (.Name x pos) (fC d) :=
  se_of (pe_glob hg hm r hd) (fun _ _ _ q => q) hr
/-! ## two values in a row -/
def fBin (g : D → D → Sto → Option (D × Sto)) (fa fb : FE) : FE := fun env S => (fa env S).bind fun p => (fb env p.2).bind fun q => g p.1 q.1 q.2
theorem bind_some {α β : Type} {o : Option α} {k : α → Option β} {r : β} (h : o.bind k = some r) : ∃ x, o = some x ∧ k x = some r := by
  cases o with
  | none => cases h
  | some x => exact ⟨x, rfl, h⟩
theorem two {m : List Addr} {F H : Hp} {S S' : Sto} {env : DEnv} {d : D} {σ : St} {Q : VK} {g : D → D → Sto → Option (D × Sto)} {r : R2} {ta tb : TE}
    (ra : ∀ m F S σ H env d S' Q, Sim X.K ct m F S H → EnvR X.K ct m F env σ → fa env S = some (d, S') → PostE ct X.K m F H S' d Q → ta σ H Q)
    (rb : ∀ m F S σ H env d S' Q, Sim X.K ct m F S H → EnvR X.K ct m F env σ → fb env S = some (d, S') → PostE ct X.K m F H S' d Q → tb σ H Q)
    (o : OpD ct X.K r g) (s : Sim X.K ct m F S H) (en : EnvR X.K ct m F env σ) (h : fBin g fa fb env S = some (d, S')) (p : PostE ct X.K m F H S' d Q) : tOp r ta tb σ H Q := by
  obtain ⟨⟨x, S1⟩, h1, h⟩ := bind_some h
  obtain ⟨⟨y, S2⟩, h2, h⟩ := bind_some h
  refine ra m F S σ H env x S1 _ s en h1 fun m1 F1 v1 H1 x1 s1 r1 => ?_
  refine rb m1 F1 S1 σ H1 env y S2 _ s1 (en.mono x1) h2 fun m2 F2 v2 H2 x2 s2 r2 => ?_
  exact o m2 F2 S2 H2 v1 v2 x y d S' Q s2 (r1.mono x2) r2 h ((p.ext x1).ext x2)
theorem se_op {op : Operator} {r : R2} {g : D → D → Sto → Option (D × Sto)} (ho : OpR X (binaryOp op) r) (od : OpD ct X.K r g) (ha : SE ct X a fa) (hb : SE ct X b fb) : SE ct X (.BinOp a op b pos) (fBin g fa fb) := by
  obtain ⟨ta, pa, ra⟩ := ha
  obtain ⟨tb, pb, rb⟩ := hb
  exact ⟨_, pe_op ho pa pb, fun m F S σ H env d S' Q s en h p => two ra rb od s en h p⟩
theorem se_cmp {op : CmpOp} {r : R2} {g : D → D → Sto → Option (D × Sto)} (ho : OpR X (compareOp op) r) (od : OpD ct X.K r g) (ha : SE ct X a fa) (hb : SE ct X b fb) (hm : behindInMarks op b = false) : SE ct X (.Compare a [op] [b] pos) (fBin g fa fb) := by
  obtain ⟨ta, pa, ra⟩ := ha
  obtain ⟨tb, pb, rb⟩ := hb
  exact ⟨_, pe_cmpR ho pa pb hm, fun m F S σ H env d S' Q s en h p => two ra rb od s en h p⟩
theorem se_ix {r : R2} {g : D → D → Sto → Option (D × Sto)} (ho : IxR X r) (od : OpD ct X.K r g) (ha : SE ct X a fa) (hb : SE ct X b fb) (hs : PlainIx b) : SE ct X (.Subscript a b pos) (fBin g fa fb) := by
  obtain ⟨ta, pa, ra⟩ := ha
  obtain ⟨tb, pb, rb⟩ := hb
  exact ⟨_, pe_ix ho pa pb hs, fun m F S σ H env d S' Q s en h p => two ra rb od s en h p⟩
def fUn (g : D → Option D) (fa : FE) : FE := fun env S => (fa env S).bind fun p => (g p.1).map fun d => (d, p.2)
def gNeg : D → Option D
  | .int i => some (.int (-i))
  | _ => none
theorem se_neg (ha : SE ct X a fa) : SE ct X (.UnaryOp .USub a pos) (fUn gNeg fa) := by
  obtain ⟨ta, pa, ra⟩ := ha
  refine ⟨_, pe_un un_neg pa, fun m F S σ H env d S' Q s en h p => ?_⟩
  obtain ⟨⟨x, S1⟩, h1, h⟩ := bind_some h
  refine ra m F S σ H env x S1 _ s en h1 fun m1 F1 v1 H1 x1 s1 r1 => ?_
  cases x with
  | int i =>
    cases h
    have r1 : v1 = .int i := r1
    exact ⟨i, r1, (p.ext x1).now s1 rfl⟩
  | _ => cases h
/-! ## arguments -/
def fNil : FA := fun _ S => some ([], S)
def fCons (f : FE) (fs : FA) : FA := fun env S => (f env S).bind fun p => (fs env p.2).bind fun q => some (p.1 :: q.1, q.2)
theorem sa_nil : SA ct X [] fNil := ⟨_, pa_nil, fun m F S σ H env d S' Q s en h p => by
  cases h
  exact p m F [] H (Ext.refl _ _ _) s rfl⟩
theorem sa_cons (ha : SE ct X e f) (hr : SA ct X es fas) (hs : starEach (e :: es) X.env = (false, eval e X.env) :: starEach es X.env := by rfl) : SA ct X (e :: es) (fCons f fas) := by
  obtain ⟨ta, pa, ra⟩ := ha
  obtain ⟨tb, pb, rb⟩ := hr
  refine ⟨_, pa_cons pa pb hs, fun m F S σ H env d S' Q s en h p => ?_⟩
  obtain ⟨⟨x, S1⟩, h1, h⟩ := bind_some h
  obtain ⟨⟨ys, S2⟩, h2, h⟩ := bind_some h
  cases h
  refine ra m F S σ H env x S1 _ s en h1 fun m1 F1 v1 H1 x1 s1 r1 => ?_
  refine rb m1 F1 S1 σ H1 env ys S2 _ s1 (en.mono x1) h2 fun m2 F2 v2 H2 x2 s2 r2 => ?_
  exact p m2 F2 (v1 :: v2) H2 (x1.trans x2) s2 ⟨v1, v2, rfl, r1.mono x2, r2⟩
/-! ## displays -/
def fTup (fs : FA) : FE := fun env S => (fs env S).bind fun p => if p.1.length ≤ 1000 then some (.tup p.1, p.2) else none
def fLst (fs : FA) : FE := fun env S => (fs env S).bind fun p => if p.1.length ≤ 1000 then some (.lst p.1, p.2) else none
/-- a list that will be changed -/
def fLstM (fs : FA) : FE := fun env S => (fs env S).bind fun p => if p.1.length ≤ 1000 then some (.ref p.2.length, p.2 ++ [.lst p.1]) else none
theorem line_of {n : Nat} (h : n ≤ 1000) : n ≤ sizeLine := Nat.le_trans h (by decide)
theorem se_tup {k : Nat} (ha : SA ct X es fas) : SE ct X (.Tuple es k pos) (fTup fas) := by
  obtain ⟨ta, pa, ra⟩ := ha
  refine ⟨_, pe_tup pa, fun m F S σ H env d S' Q s en h p => ?_⟩
  obtain ⟨⟨xs, S1⟩, h1, h⟩ := bind_some h
  by_cases hl : xs.length ≤ 1000
  · rw [if_pos hl] at h
    cases h
    refine ra m F S σ H env xs S1 _ s en h1 fun m1 F1 vs H1 x1 s1 r1 => ⟨line_of (r1.length ▸ hl), fun q hq => ?_⟩
    obtain ⟨s2, x2⟩ := s1.frozen hq (.tup vs)
    exact p m1 _ (.ref q) _ (x1.trans x2) s2 ⟨q, vs, rfl, SqT.of upd_same, r1.mono x2⟩
  · rw [if_neg hl] at h
    cases h
theorem se_lst (ha : SA ct X es fas) : SE ct X (.List es pos) (fLst fas) := by
  obtain ⟨ta, pa, ra⟩ := ha
  refine ⟨_, pe_lst pa, fun m F S σ H env d S' Q s en h p => ?_⟩
  obtain ⟨⟨xs, S1⟩, h1, h⟩ := bind_some h
  by_cases hl : xs.length ≤ 1000
  · rw [if_pos hl] at h
    cases h
    refine ra m F S σ H env xs S1 _ s en h1 fun m1 F1 vs H1 x1 s1 r1 => ⟨line_of (r1.length ▸ hl), fun q hq => ?_⟩
    obtain ⟨s2, x2⟩ := s1.frozen hq (.lst vs)
    exact p m1 _ (.ref q) _ (x1.trans x2) s2 ⟨q, vs, rfl, upd_same, r1.mono x2⟩
  · rw [if_neg hl] at h
    cases h
theorem se_lstM (ha : SA ct X es fas) : SE ct X (.List es pos) (fLstM fas) := by
  obtain ⟨ta, pa, ra⟩ := ha
  refine ⟨_, pe_lst pa, fun m F S σ H env d S' Q s en h p => ?_⟩
  obtain ⟨⟨xs, S1⟩, h1, h⟩ := bind_some h
  by_cases hl : xs.length ≤ 1000
  · rw [if_pos hl] at h
    cases h
    refine ra m F S σ H env xs S1 _ s en h1 fun m1 F1 vs H1 x1 s1 r1 => ⟨line_of (r1.length ▸ hl), fun q hq => ?_⟩
    obtain ⟨s2, x2⟩ := s1.fresh hq (o := .lst vs) (c := .lst xs) ⟨vs, rfl, r1⟩
    exact p _ _ (.ref q) _ (x1.trans x2) s2 ⟨q, by rw [← s1.len]; simp, rfl⟩
  · rw [if_neg hl] at h
    cases h
/-! ## calls of built-ins -/
def fCall (g : FD) (fas : FA) : FE := fun env S => (fas env S).bind fun p => g p.1 p.2
theorem se_callB {id : String} {x : Str} {p : Pos} {r : List V → Hp → VK → Prop} {g : FD} (hc : CallR X (.builtin id) r) (cd : CallD ct X.K r g) (hg : Gl X x) (hm : X.mg x = none) (hv : bootBuiltins x = some (.builtin id)) (ha : SA ct X (e :: es) fas)
    (hn : x ≠ "__name__" := by decide) (hdb : (x == ("__debug__" : Str)) = false := by decide) (he : starEach (e :: es) X.env = (false, eval e X.env) :: starEach es X.env := by rfl) (hpl : (backTo pos (starEach es X.env)).any (·.1) = false := by rfl) :
    SE ct X (.Call (.Name x p) (e :: es) [] pos) (fCall g fas) := by
  obtain ⟨ta, pa, ra⟩ := ha
  refine ⟨_, pe_callB hc hg hm hv pa hn hdb he hpl, fun m F S σ H env d S' Q s en h p => ?_⟩
  obtain ⟨⟨xs, S1⟩, h1, h⟩ := bind_some h
  exact ra m F S σ H env xs S1 _ s en h1 fun m1 F1 vs H1 x1 s1 r1 => cd m1 F1 S1 H1 vs xs d S' Q s1 r1 h (p.ext x1)
theorem se_callTy {T : String} {x : Str} {p : Pos} {r : List V → Hp → VK → Prop} {g : FD} (hc : CallR X (.type T) r) (cd : CallD ct X.K r g) (hg : Gl X x) (hm : X.mg x = none) (hv : bootBuiltins x = some (.type T)) (ha : SA ct X (e :: es) fas)
    (hn : x ≠ "__name__" := by decide) (hdb : (x == ("__debug__" : Str)) = false := by decide) (he : starEach (e :: es) X.env = (false, eval e X.env) :: starEach es X.env := by rfl) (hpl : (backTo pos (starEach es X.env)).any (·.1) = false := by rfl) :
    SE ct X (.Call (.Name x p) (e :: es) [] pos) (fCall g fas) := by
  obtain ⟨ta, pa, ra⟩ := ha
  refine ⟨_, pe_callTy hc hg hm hv pa hn hdb he hpl, fun m F S σ H env d S' Q s en h p => ?_⟩
  obtain ⟨⟨xs, S1⟩, h1, h⟩ := bind_some h
  exact ra m F S σ H env xs S1 _ s en h1 fun m1 F1 vs H1 x1 s1 r1 => cd m1 F1 S1 H1 vs xs d S' Q s1 r1 h (p.ext x1)
/-! ## and, or, not, if as values -/
def fAnd (fa fb : FE) : FE := fun env S => (fa env S).bind fun p => match p.1 with
  | .bl true => fb env p.2
  | .bl false => some (.bl false, p.2)
  | _ => none
def fOr (fa fb : FE) : FE := fun env S => (fa env S).bind fun p => match p.1 with
  | .bl true => some (.bl true, p.2)
  | .bl false => fb env p.2
  | _ => none
def fNot (fa : FE) : FE := fun env S => (fa env S).bind fun p => match p.1 with
  | .bl b => some (.bl (!b), p.2)
  | _ => none
theorem se_one {op : BoolOp} (h : SE ct X a f) : SE ct X (.BoolOp op [a] pos) f := by
  obtain ⟨ta, pa, ra⟩ := h
  exact ⟨ta, pe_one pa, ra⟩
theorem se_and {rest : List Expr} (ha : SE ct X a fa) (hb : SE ct X (.BoolOp .And (b :: rest) pos) fb) : SE ct X (.BoolOp .And (a :: b :: rest) pos) (fAnd fa fb) := by
  obtain ⟨ta, pa, ra⟩ := ha
  obtain ⟨tb, pb, rb⟩ := hb
  refine ⟨_, pe_and pa pb, fun m F S σ H env d S' Q s en h p => ?_⟩
  obtain ⟨⟨x, S1⟩, h1, h⟩ := bind_some h
  refine ra m F S σ H env x S1 _ s en h1 fun m1 F1 v1 H1 x1 s1 r1 => ?_
  cases x with
  | bl k =>
    have r1 : v1 = .bl k := r1
    refine ⟨k, r1, ?_⟩
    cases k with
    | true => exact iteT (rb m1 F1 S1 σ H1 env d S' _ s1 (en.mono x1) h (p.ext x1))
    | false => cases h; exact iteF ((p.ext x1).now s1 rfl)
  | _ => cases h
theorem se_or {rest : List Expr} (ha : SE ct X a fa) (hb : SE ct X (.BoolOp .Or (b :: rest) pos) fb) : SE ct X (.BoolOp .Or (a :: b :: rest) pos) (fOr fa fb) := by
  obtain ⟨ta, pa, ra⟩ := ha
  obtain ⟨tb, pb, rb⟩ := hb
  refine ⟨_, pe_or pa pb, fun m F S σ H env d S' Q s en h p => ?_⟩
  obtain ⟨⟨x, S1⟩, h1, h⟩ := bind_some h
  refine ra m F S σ H env x S1 _ s en h1 fun m1 F1 v1 H1 x1 s1 r1 => ?_
  cases x with
  | bl k =>
    have r1 : v1 = .bl k := r1
    refine ⟨k, r1, ?_⟩
    cases k with
    | false => exact iteF (rb m1 F1 S1 σ H1 env d S' _ s1 (en.mono x1) h (p.ext x1))
    | true => cases h; exact iteT ((p.ext x1).now s1 rfl)
  | _ => cases h
theorem se_not (ha : SE ct X a fa) : SE ct X (.UnaryOp .Not a pos) (fNot fa) := by
  obtain ⟨ta, pa, ra⟩ := ha
  refine ⟨_, pe_not pa, fun m F S σ H env d S' Q s en h p => ?_⟩
  obtain ⟨⟨x, S1⟩, h1, h⟩ := bind_some h
  refine ra m F S σ H env x S1 _ s en h1 fun m1 F1 v1 H1 x1 s1 r1 => ?_
  cases x with
  | bl k =>
    have r1 : v1 = .bl k := r1
    cases h
    exact ⟨k, r1, (p.ext x1).now s1 rfl⟩
  | _ => cases h
/-! ## tests -/
def fTest (f : FE) : FT := fun env S => (f env S).bind fun p => match p.1 with
  | .bl b => some (b, p.2)
  | _ => none
def tAndD (ta tb : FT) : FT := fun env S => (ta env S).bind fun p => if p.1 = true then tb env p.2 else some (false, p.2)
def tOrD (ta tb : FT) : FT := fun env S => (ta env S).bind fun p => if p.1 = true then some (true, p.2) else tb env p.2
def tNotD (ta : FT) : FT := fun env S => (ta env S).bind fun p => some (!p.1, p.2)
def fIf (t : FT) (fa fb : FE) : FE := fun env S => (t env S).bind fun p => if p.1 = true then fa env p.2 else fb env p.2
variable {ga gb : FT}
theorem st_val (h : SE ct X e f) (he : ∀ whole, isTrue e X.env whole = (do let v ← whole; standAt e.pos; holding [v] (truthy v)) := by intro _; rfl) : ST ct X e (fTest f) := by
  obtain ⟨ta, pa, ra⟩ := h
  refine ⟨_, pt_val pa he, fun m F S σ H env d S' Q s en h p => ?_⟩
  obtain ⟨⟨x, S1⟩, h1, h⟩ := bind_some h
  refine ra m F S σ H env x S1 _ s en h1 fun m1 F1 v1 H1 x1 s1 r1 => ?_
  cases x with
  | bl k =>
    have r1 : v1 = .bl k := r1
    cases h
    exact ⟨_, r1, p m1 F1 H1 x1 s1⟩
  | _ => cases h
theorem st_cmp {op : CmpOp} {r : R2} {g : D → D → Sto → Option (D × Sto)} (ho : OpR X (compareOp op) r) (od : OpD ct X.K r g) (ha : SE ct X a fa) (hb : SE ct X b fb) (hm : behindInMarks op b = false) : ST ct X (.Compare a [op] [b] pos) (fTest (fBin g fa fb)) := by
  obtain ⟨ta, pa, ra⟩ := ha
  obtain ⟨tb, pb, rb⟩ := hb
  refine ⟨_, pt_cmpR ho pa pb hm, fun m F S σ H env d S' Q s en h p => ?_⟩
  obtain ⟨⟨x, S1⟩, h1, h⟩ := bind_some h
  refine two ra rb od s en h1 fun m1 F1 v1 H1 x1 s1 r1 => ?_
  cases x with
  | bl k =>
    have r1 : v1 = .bl k := r1
    cases h
    exact ⟨_, r1, p m1 F1 H1 x1 s1⟩
  | _ => cases h
theorem st_not (h : ST ct X a ga) : ST ct X (.UnaryOp .Not a pos) (tNotD ga) := by
  obtain ⟨ta, pa, ra⟩ := h
  refine ⟨_, pt_not pa, fun m F S σ H env d S' Q s en h p => ?_⟩
  obtain ⟨⟨x, S1⟩, h1, h⟩ := bind_some h
  cases h
  exact ra m F S σ H env x S1 _ s en h1 fun m1 F1 H1 x1 s1 => p m1 F1 H1 x1 s1
theorem SW.st (h : SW ct X e ga) : ST ct X e ga := by
  obtain ⟨t, p, r⟩ := h
  exact ⟨t, p.pt, r⟩
theorem sw_and1 (h : ST ct X a ga) : SW ct X (.BoolOp .And [a] pos) ga := by
  obtain ⟨t, p, r⟩ := h
  exact ⟨t, pw_and1 p, r⟩
theorem sw_or1 (h : ST ct X a ga) : SW ct X (.BoolOp .Or [a] pos) ga := by
  obtain ⟨t, p, r⟩ := h
  exact ⟨t, pw_or1 p, r⟩
theorem sw_and {rest : List Expr} (ha : ST ct X a ga) (hb : SW ct X (.BoolOp .And (b :: rest) pos) gb) : SW ct X (.BoolOp .And (a :: b :: rest) pos) (tAndD ga gb) := by
  obtain ⟨ta, pa, ra⟩ := ha
  obtain ⟨tb, pb, rb⟩ := hb
  refine ⟨_, pw_and pa pb, fun m F S σ H env d S' Q s en h p => ?_⟩
  obtain ⟨⟨x, S1⟩, h1, h⟩ := bind_some h
  refine ra m F S σ H env x S1 _ s en h1 fun m1 F1 H1 x1 s1 => ?_
  cases x with
  | true => exact iteT (rb m1 F1 S1 σ H1 env d S' _ s1 (en.mono x1) h (p.ext x1))
  | false => cases h; exact iteF (p m1 F1 H1 x1 s1)
theorem sw_or {rest : List Expr} (ha : ST ct X a ga) (hb : SW ct X (.BoolOp .Or (b :: rest) pos) gb) : SW ct X (.BoolOp .Or (a :: b :: rest) pos) (tOrD ga gb) := by
  obtain ⟨ta, pa, ra⟩ := ha
  obtain ⟨tb, pb, rb⟩ := hb
  refine ⟨_, pw_or pa pb, fun m F S σ H env d S' Q s en h p => ?_⟩
  obtain ⟨⟨x, S1⟩, h1, h⟩ := bind_some h
  refine ra m F S σ H env x S1 _ s en h1 fun m1 F1 H1 x1 s1 => ?_
  cases x with
  | false => exact iteF (rb m1 F1 S1 σ H1 env d S' _ s1 (en.mono x1) h (p.ext x1))
  | true => cases h; exact iteT (p m1 F1 H1 x1 s1)
theorem se_if (hc : ST ct X c ga) (ha : SE ct X a fa) (hb : SE ct X b fb) : SE ct X (.IfExp c a b pos) (fIf ga fa fb) := by
  obtain ⟨tc, pc, rc⟩ := hc
  obtain ⟨ta, pa, ra⟩ := ha
  obtain ⟨tb, pb, rb⟩ := hb
  refine ⟨_, pe_ifExp pc pa pb, fun m F S σ H env d S' Q s en h p => ?_⟩
  obtain ⟨⟨x, S1⟩, h1, h⟩ := bind_some h
  refine rc m F S σ H env x S1 _ s en h1 fun m1 F1 H1 x1 s1 => ?_
  cases x with
  | true => exact iteT (ra m1 F1 S1 σ H1 env d S' _ s1 (en.mono x1) h (p.ext x1))
  | false => exact iteF (rb m1 F1 S1 σ H1 env d S' _ s1 (en.mono x1) h (p.ext x1))
/-! ## chains -/
def fChain (g g' : D → D → Sto → Option (D × Sto)) (fa fb fc : FE) : FE := fun env S => (fa env S).bind fun p => (fb env p.2).bind fun q => (g p.1 q.1 q.2).bind fun z => match z.1 with
  | .bl true => (fc env z.2).bind fun w => g' q.1 w.1 w.2
  | .bl false => some (.bl false, z.2)
  | _ => none
theorem chain {m : List Addr} {F H : Hp} {S S' : Sto} {env : DEnv} {d : D} {σ : St} {Q : VK} {g g' : D → D → Sto → Option (D × Sto)} {r r' : R2} {ta tb tc : TE}
    (ra : ∀ m F S σ H env d S' Q, Sim X.K ct m F S H → EnvR X.K ct m F env σ → fa env S = some (d, S') → PostE ct X.K m F H S' d Q → ta σ H Q)
    (rb : ∀ m F S σ H env d S' Q, Sim X.K ct m F S H → EnvR X.K ct m F env σ → fb env S = some (d, S') → PostE ct X.K m F H S' d Q → tb σ H Q)
    (rc : ∀ m F S σ H env d S' Q, Sim X.K ct m F S H → EnvR X.K ct m F env σ → fc env S = some (d, S') → PostE ct X.K m F H S' d Q → tc σ H Q)
    (o : OpD ct X.K r g) (o' : OpD ct X.K r' g') (s : Sim X.K ct m F S H) (en : EnvR X.K ct m F env σ) (h : fChain g g' fa fb fc env S = some (d, S')) (p : PostE ct X.K m F H S' d Q) : tChain r r' ta tb tc σ H Q := by
  obtain ⟨⟨x, S1⟩, h1, h⟩ := bind_some h
  obtain ⟨⟨y, S2⟩, h2, h⟩ := bind_some h
  obtain ⟨⟨z, S3⟩, h3, h⟩ := bind_some h
  refine ra m F S σ H env x S1 _ s en h1 fun m1 F1 v1 H1 x1 s1 r1 => ?_
  refine rb m1 F1 S1 σ H1 env y S2 _ s1 (en.mono x1) h2 fun m2 F2 v2 H2 x2 s2 r2 => ?_
  refine o m2 F2 S2 H2 v1 v2 x y z S3 _ s2 (r1.mono x2) r2 h3 fun m3 F3 v3 H3 x3 s3 r3 => ?_
  cases z with
  | bl k =>
    have r3 : v3 = .bl k := r3
    refine ⟨k, r3, ?_⟩
    cases k with
    | true =>
      obtain ⟨⟨w, S4⟩, h4, h⟩ := bind_some h
      refine iteT (rc m3 F3 S3 σ H3 env w S4 _ s3 (((en.mono x1).mono x2).mono x3) h4 fun m4 F4 v4 H4 x4 s4 r4 => ?_)
      exact o' m4 F4 S4 H4 v2 v4 y w d S' Q s4 ((r2.mono x3).mono x4) r4 h ((((p.ext x1).ext x2).ext x3).ext x4)
    | false => cases h; exact iteF ((((p.ext x1).ext x2).ext x3).now s3 rfl)
  | _ => cases h
theorem se_chain {op op' : CmpOp} {r r' : R2} {g g' : D → D → Sto → Option (D × Sto)} (ho : OpR X (compareOp op) r) (od : OpD ct X.K r g) (ho' : OpR X (compareOp op') r') (od' : OpD ct X.K r' g') (ha : SE ct X a fa) (hb : SE ct X b fb) (hc : SE ct X c fc)
    (hm : lastMarks [op, op'] [b, c] = false := by with_unfolding_all rfl) : SE ct X (.Compare a [op, op'] [b, c] pos) (fChain g g' fa fb fc) := by
  obtain ⟨ta, pa, ra⟩ := ha
  obtain ⟨tb, pb, rb⟩ := hb
  obtain ⟨tc, pc, rc⟩ := hc
  exact ⟨_, pe_chain ho ho' pa pb pc hm, fun m F S σ H env d S' Q s en h p => chain ra rb rc od od' s en h p⟩
theorem st_chain {op op' : CmpOp} {r r' : R2} {g g' : D → D → Sto → Option (D × Sto)} (ho : OpR X (compareOp op) r) (od : OpD ct X.K r g) (ho' : OpR X (compareOp op') r') (od' : OpD ct X.K r' g') (ha : SE ct X a fa) (hb : SE ct X b fb) (hc : SE ct X c fc)
    (hm : lastMarks [op, op'] [b, c] = false := by with_unfolding_all rfl) : ST ct X (.Compare a [op, op'] [b, c] pos) (fTest (fChain g g' fa fb fc)) := by
  obtain ⟨ta, pa, ra⟩ := ha
  obtain ⟨tb, pb, rb⟩ := hb
  obtain ⟨tc, pc, rc⟩ := hc
  refine ⟨_, pt_chain ho ho' pa pb pc hm, fun m F S σ H env d S' Q s en h p => ?_⟩
  obtain ⟨⟨x, S1⟩, h1, h⟩ := bind_some h
  refine chain ra rb rc od od' s en h1 fun m1 F1 v1 H1 x1 s1 r1 => ?_
  cases x with
  | bl k =>
    have r1 : v1 = .bl k := r1
    cases h
    exact ⟨_, r1, p m1 F1 H1 x1 s1⟩
  | _ => cases h
end
end DL

namespace DL
open PySem PySem.Spec PyProof.Rows L2
section
variable {ct : CT} {X : Cx} {a b c e : Expr} {es : List Expr} {fa fb fc f : FE} {fas : FA} {ga gb : FT} {pos : Pos} {st : Stmt} {rest : List Stmt} {f1 f2 : FS}
/-! ## statements -/
def sSkip : FS := fun env S => some (.nx env, S)
def sSeq (f1 f2 : FS) : FS := fun env S => (f1 env S).bind fun p => match p.1 with
  | .nx env' => f2 env' p.2
  | fl => some (fl, p.2)
theorem sss_nil : SSs ct X [] sSkip := ⟨_, pss_nil, fun m F S σ H env fl S' E s en h p => by
  cases h
  exact p m F σ H (Ext.refl _ _ _) s en⟩
theorem sss_cons (h1 : SS ct X st f1) (h2 : SSs ct X rest f2) : SSs ct X (st :: rest) (sSeq f1 f2) := by
  obtain ⟨ta, pa, ra⟩ := h1
  obtain ⟨tb, pb, rb⟩ := h2
  refine ⟨_, pss_cons pa pb, fun m F S σ H env fl S' E s en h p => ?_⟩
  obtain ⟨⟨x, S1⟩, h1, h⟩ := bind_some h
  refine ra m F S σ H env x S1 _ s en h1 ?_
  cases x with
  | nx env1 => exact fun m1 F1 σ1 H1 x1 s1 r1 => rb m1 F1 S1 σ1 H1 env1 fl S' E s1 r1 h (p.ext x1)
  | rt d => cases h; exact p
  | bk env1 => cases h; exact p
  | ct env1 => cases h; exact p
theorem sss_one (h1 : SS ct X st f1) : SSs ct X [st] f1 := by
  obtain ⟨ta, pa, ra⟩ := h1
  exact ⟨_, pss_one pa, ra⟩
theorem ss_pass : SS ct X (.Pass pos) sSkip := ⟨_, ps_pass, fun m F S σ H env fl S' E s en h p => by
  cases h
  exact p m F σ H (Ext.refl _ _ _) s en⟩
def sBreak : FS := fun env S => some (.bk env, S)
def sCont : FS := fun env S => some (.ct env, S)
theorem ss_break : SS ct X (.Break pos) sBreak := ⟨_, ps_break, fun m F S σ H env fl S' E s en h p => by
  cases h
  exact p m F σ H (Ext.refl _ _ _) s en⟩
theorem ss_continue : SS ct X (.Continue pos) sCont := ⟨_, ps_continue, fun m F S σ H env fl S' E s en h p => by
  cases h
  exact p m F σ H (Ext.refl _ _ _) s en⟩
/-- what is never reached -/
def sNever : FS := fun _ _ => none
theorem ss_never : SS ct X st sNever := ⟨_, ps_never, fun m F S σ H env fl S' E s en h p => by cases h⟩
theorem sss_never {sts : List Stmt} : SSs ct X sts sNever := ⟨_, pss_never, fun m F S σ H env fl S' E s en h p => by cases h⟩
def sExpr (f : FE) : FS := fun env S => (f env S).bind fun p => some (.nx env, p.2)
def sRet (f : FE) : FS := fun env S => (f env S).bind fun p => some (.rt p.1, p.2)
def sIf (t : FT) (f1 f2 : FS) : FS := fun env S => (t env S).bind fun p => if p.1 = true then f1 env p.2 else f2 env p.2
theorem ss_expr (he : SE ct X e f) (hs : swapsWith e none pos.line X.env = pure false := by rfl) : SS ct X (.Expr e pos) (sExpr f) := by
  obtain ⟨ta, pa, ra⟩ := he
  refine ⟨_, ps_expr pa hs, fun m F S σ H env fl S' E s en h p => ?_⟩
  obtain ⟨⟨x, S1⟩, h1, h⟩ := bind_some h
  cases h
  exact ra m F S σ H env x S1 _ s en h1 fun m1 F1 v1 H1 x1 s1 r1 => p m1 F1 σ H1 x1 s1 (en.mono x1)
theorem ss_ret (he : SE ct X e f) : SS ct X (.Return (some e) pos) (sRet f) := by
  obtain ⟨ta, pa, ra⟩ := he
  refine ⟨_, ps_ret pa, fun m F S σ H env fl S' E s en h p => ?_⟩
  obtain ⟨⟨x, S1⟩, h1, h⟩ := bind_some h
  cases h
  exact ra m F S σ H env x S1 _ s en h1 fun m1 F1 v1 H1 x1 s1 r1 => p m1 F1 v1 H1 x1 s1 r1
theorem ss_if {as bs : List Stmt} (hc : ST ct X c ga) (ha : SSs ct X as f1) (hb : SSs ct X bs f2) : SS ct X (.If c as bs pos) (sIf ga f1 f2) := by
  obtain ⟨tc, pc, rc⟩ := hc
  obtain ⟨ta, pa, ra⟩ := ha
  obtain ⟨tb, pb, rb⟩ := hb
  refine ⟨_, ps_if pc pa pb, fun m F S σ H env fl S' E s en h p => ?_⟩
  obtain ⟨⟨x, S1⟩, h1, h⟩ := bind_some h
  refine rc m F S σ H env x S1 _ s en h1 fun m1 F1 H1 x1 s1 => ?_
  cases x with
  | true => exact iteT (ra m1 F1 S1 σ H1 env fl S' _ s1 (en.mono x1) h (p.ext x1))
  | false => exact iteF (rb m1 F1 S1 σ H1 env fl S' _ s1 (en.mono x1) h (p.ext x1))
/-! ## targets -/
abbrev FG := D → DEnv → Sto → Option (DEnv × Sto)
def SG (ct : CT) (X : Cx) (tg : Expr) (g : FG) : Prop := ∃ t, PG X tg t ∧ ∀ m F S σ H env d v env' S' Q, Sim X.K ct m F S H → EnvR X.K ct m F env σ → Rep X.K ct m F d v → g d env S = some (env', S') →
  (∀ m' F' σ' H', Ext m F H m' F' H' → Sim X.K ct m' F' S' H' → EnvR X.K ct m' F' env' σ' → Q σ' H') → t v σ H Q
abbrev FGs := List D → DEnv → Sto → Option (DEnv × Sto)
def SGs (ct : CT) (X : Cx) (tgs : List Expr) (g : FGs) : Prop := ∃ t, PGs X tgs t ∧ ∀ m F S σ H env ds vs env' S' Q, Sim X.K ct m F S H → EnvR X.K ct m F env σ → Reps X.K ct m F ds vs → g ds env S = some (env', S') →
  (∀ m' F' σ' H', Ext m F H m' F' H' → Sim X.K ct m' F' S' H' → EnvR X.K ct m' F' env' σ' → Q σ' H') → t vs σ H Q
def gN (i : Nat) : FG := fun d env S => some (env.set i (some d), S)
theorem sg_name {i : Nat} {x : Str} (hN : X.N.Nodup) (hi : X.N[i]? = some x) (hx : Loc X.env.scope x) (hf : X.fn x = true ∨ X.env.scope.names.lookup x = some .local := by first | exact .inl rfl | exact .inr rfl | assumption) : SG ct X (.Name x pos) (gN i) :=
  ⟨_, pg_name hN hi hx hf, fun m F S σ H env d v env' S' Q s en r h q => by
    cases h
    exact q m F _ H (Ext.refl _ _ _) s (en.set i r)⟩
def gNil : FGs := fun ds env S => match ds with
  | [] => some (env, S)
  | _ => none
def gCons (g : FG) (gs : FGs) : FGs := fun ds env S => match ds with
  | d :: r => (g d env S).bind fun p => gs r p.1 p.2
  | _ => none
theorem sgs_nil : SGs ct X [] gNil := ⟨_, pgs_nil, fun m F S σ H env ds vs env' S' Q s en r h q => by
  cases ds with
  | nil =>
    cases h
    exact ⟨r, q m F _ H (Ext.refl _ _ _) s en⟩
  | cons _ _ => cases h⟩
theorem sgs_cons {t : Expr} {ts : List Expr} {g : FG} {gs : FGs} (h1 : SG ct X t g) (h2 : SGs ct X ts gs) (hs : (assignEach (t :: ts) X.env).map (·.2) = assign t X.env :: (assignEach ts X.env).map (·.2) := by rfl) : SGs ct X (t :: ts) (gCons g gs) := by
  obtain ⟨ta, pa, ra⟩ := h1
  obtain ⟨tb, pb, rb⟩ := h2
  refine ⟨_, pgs_cons pa pb hs, fun m F S σ H env ds vs env' S' Q s en r h q => ?_⟩
  cases ds with
  | nil => cases h
  | cons d dr =>
    obtain ⟨⟨env1, S1⟩, h1, h⟩ := bind_some h
    obtain ⟨v, vr, e1, r1, r2⟩ := r
    refine ⟨v, vr, e1, ra m F S σ H env d v env1 S1 _ s en r1 h1 fun m1 F1 σ1 H1 x1 s1 en1 => ?_⟩
    exact rb m1 F1 S1 σ1 H1 env1 dr vr env' S' Q s1 en1 (r2.mono x1) h fun m2 F2 σ2 H2 x2 s2 en2 => q m2 F2 σ2 H2 (x1.trans x2) s2 en2
/-- (a, b, ..) = a tuple -/
def gTup (n : Nat) (gs : FGs) : FG := fun d env S => match d with
  | .tup ds => if ds.length = n then gs ds env S else none
  | _ => none
theorem sg_tup {ts : List Expr} {k n : Nat} {gs : FGs} (hc : X.calm = true) (h : SGs ct X ts gs) (hn : (assignEach ts X.env).length = n := by rfl) (hst : (assignEach ts X.env).findIdx? (·.1) = none := by rfl) : SG ct X (.Tuple ts k pos) (gTup n gs) := by
  obtain ⟨ta, pa, ra⟩ := h
  refine ⟨_, pg_tup hc pa hn hst, fun m F S σ H env d v env' S' Q s en r h q => ?_⟩
  cases d with
  | tup ds =>
    obtain ⟨a, vs, e1, e2, e3⟩ := r
    by_cases hl : ds.length = n
    · have h : (if ds.length = n then gs ds env S else none) = some (env', S') := h
      rw [if_pos hl] at h
      exact ⟨a, vs, e1, sqT_mono s.same e2, by rw [← e3.length]; exact hl, ra m F S σ H env ds vs env' S' Q s en e3 h q⟩
    · have h : (if ds.length = n then gs ds env S else none) = some (env', S') := h
      rw [if_neg hl] at h
      cases h
  | _ => cases h
/-- o[i] = .. by a rule -/
def SetD (ct : CT) (K : PySem.W.Frag) (t : TSet) (g : D → D → D → Sto → Option Sto) : Prop := ∀ m F S H o i v d1 d2 d3 S' Q, Sim K ct m F S H → Rep K ct m F d1 o → Rep K ct m F d2 i → Rep K ct m F d3 v → g d1 d2 d3 S = some S' →
  (∀ m' F' H', Ext m F H m' F' H' → Sim K ct m' F' S' H' → Q H') → t o i v H Q
def gSub (g : D → D → D → Sto → Option Sto) (fa fb : FE) : FG := fun d env S => (fa env S).bind fun p => (fb env p.2).bind fun q => (g p.1 q.1 d q.2).map fun S' => (env, S')
theorem sg_sub {t : TSet} {g : D → D → D → Sto → Option Sto} (ho : SE ct X a fa) (hi : SE ct X b fb) (hs : PSet X t) (sd : SetD ct X.K t g)
    (ha : ∀ v, assign (.Subscript a b pos) X.env v = (do
      let ov ← holding [v] (eval a X.env)
      let iv ← holding [v, ov] (eval b X.env)
      standAt pos
      holding [v, ov, iv] (setItem ov iv v)
      release [v, ov, iv] []) := by intro _; rfl) : SG ct X (.Subscript a b pos) (gSub g fa fb) := by
  obtain ⟨ta, pa, ra⟩ := ho
  obtain ⟨tb, pb, rb⟩ := hi
  refine ⟨_, pg_sub pa pb hs ha, fun m F S σ H env d v env' S' Q s en r h q => ?_⟩
  obtain ⟨⟨x, S1⟩, h1, h⟩ := bind_some h
  obtain ⟨⟨y, S2⟩, h2, h⟩ := bind_some h
  cases h3 : g x y d S2 with
  | none => simp only [h3] at h; cases h
  | some S3 =>
    simp only [h3] at h
    cases h
    refine ra m F S σ H env x S1 _ s en h1 fun m1 F1 v1 H1 x1 s1 r1 => ?_
    refine rb m1 F1 S1 σ H1 env y S2 _ s1 (en.mono x1) h2 fun m2 F2 v2 H2 x2 s2 r2 => ?_
    exact sd m2 F2 S2 H2 v1 v2 v x y d _ _ s2 (r1.mono x2) r2 ((r.mono x1).mono x2) h3 fun m3 F3 H3 x3 s3 => q m3 F3 σ H3 ((x1.trans x2).trans x3) s3 (((en.mono x1).mono x2).mono x3)
/-! ## assignments -/
def sAsg (f : FE) (g : FG) : FS := fun env S => (f env S).bind fun p => (g p.1 env p.2).map fun q => (.nx q.1, q.2)
theorem ss_asg {tg : Expr} {g : FG} (he : SE ct X e f) (hg : SG ct X tg g) (hs : swapsWithSole [tg] e pos.line X.env = pure false := by rfl) (hw : swappedStores [tg] e X.env = pure none := by rfl)
    (h1 : (assignEach [tg] X.env).map (·.2) = [assign tg X.env] := by rfl) : SS ct X (.Assign [tg] e pos) (sAsg f g) := by
  obtain ⟨ta, pa, ra⟩ := he
  obtain ⟨tb, pb, rb⟩ := hg
  refine ⟨_, ps_asg pa pb hs hw h1, fun m F S σ H env fl S' E s en h p => ?_⟩
  obtain ⟨⟨x, S1⟩, h1, h⟩ := bind_some h
  cases h3 : g x env S1 with
  | none => simp only [h3] at h; cases h
  | some q3 =>
    obtain ⟨env3, S3⟩ := q3
    simp only [h3] at h
    cases h
    refine ra m F S σ H env x S1 _ s en h1 fun m1 F1 v1 H1 x1 s1 r1 => ?_
    exact rb m1 F1 S1 σ H1 env x v1 env3 _ _ s1 (en.mono x1) r1 h3 fun m2 F2 σ2 H2 x2 s2 en2 => p m2 F2 σ2 H2 (x1.trans x2) s2 en2
theorem ss_set {i : Nat} {x : Str} {pos' : Pos} (hN : X.N.Nodup) (hi : X.N[i]? = some x) (hx : Loc X.env.scope x) (he : SE ct X e f) (hs : swapsWith e (some (.Name x pos')) pos.line X.env = pure false := by rfl) (hf : X.fn x = true ∨ X.env.scope.names.lookup x = some .local := by first | exact .inl rfl | exact .inr rfl | assumption) :
    SS ct X (.Assign [.Name x pos'] e pos) (sAsg f (gN i)) := by
  obtain ⟨ta, pa, ra⟩ := he
  refine ⟨_, ps_set hN hi hx pa hs hf, fun m F S σ H env fl S' E s en h p => ?_⟩
  obtain ⟨⟨x, S1⟩, h1, h⟩ := bind_some h
  cases h
  exact ra m F S σ H env x S1 _ s en h1 fun m1 F1 v1 H1 x1 s1 r1 => p m1 F1 _ H1 x1 s1 ((en.mono x1).set i r1)
/-- a, b = x, y -/
def sPar (i j : Nat) (fas : FA) : FS := fun env S => (fas env S).bind fun p => match p.1 with
  | [v, w] => some (.nx ((env.set i (some v)).set j (some w)), p.2)
  | _ => none
theorem ss_par {i j : Nat} (hp : ∀ ta, PA X [a, b] ta → PS X st (tPar i j ta)) (ha : SA ct X [a, b] fas) : SS ct X st (sPar i j fas) := by
  obtain ⟨ta, pa, ra⟩ := ha
  refine ⟨_, hp ta pa, fun m F S σ H env fl S' E s en h p => ?_⟩
  obtain ⟨⟨xs, S1⟩, h1, h⟩ := bind_some h
  match xs, h with
  | [v, w], h =>
    cases h
    refine ra m F S σ H env _ S1 _ s en h1 fun m1 F1 vs H1 x1 s1 r1 => ?_
    obtain ⟨v1, r1', e1, q1, v2, r2', e2, q2, e3⟩ := r1
    have e3 : r2' = [] := e3
    subst e3 e2 e1
    exact ⟨v1, v2, rfl, p m1 F1 _ H1 x1 s1 (((en.mono x1).set i q1).set j q2)⟩
  | [], h => cases h
  | [_], h => cases h
  | _ :: _ :: _ :: _, h => cases h
/-! ## what is walked -/
def ItOk (ct : CT) (K : PySem.W.Frag) (m0 : List Addr) (F0 H0 : Hp) (items : List D) (J : It) : Prop := ∀ (i : Nat) (m : List Addr) (F : Hp) (S : Sto) (H : Hp), Ext m0 F0 H0 m F H → Sim K ct m F S H →
  (∀ d, items[i]? = some d → J.go i H ∧ ∀ x H', J.yld i H x H' → ∃ F', Ext m F H m F' H' ∧ Sim K ct m F' S H' ∧ Rep K ct m F' d x) ∧ (items.length = i → J.stop i H)
def SI (ct : CT) (X : Cx) (tg iter : Expr) (fi : FA) : Prop := ∃ wi, PI X tg iter wi ∧ ∀ m F S σ H env items S' R, Sim X.K ct m F S H → EnvR X.K ct m F env σ → fi env S = some (items, S') →
  (∀ m' F' J H', Ext m F H m' F' H' → Sim X.K ct m' F' S' H' → ItOk ct X.K m' F' H' items J → R J H') → wi σ H R
def forD (g : FG) (body : FS) : List D → FS
  | [], env, S => some (.nx env, S)
  | x :: xs, env, S => (g x env S).bind fun p => (body p.1 p.2).bind fun q => match q.1 with
    | .nx env' => forD g body xs env' q.2
    | .ct env' => forD g body xs env' q.2
    | .bk env' => some (.nx env', q.2)
    | .rt d => some (.rt d, q.2)
def sFor (fi : FA) (g : FG) (body : FS) : FS := fun env S => (fi env S).bind fun p => forD g body p.1 env p.2
theorem drop_cons {α : Type} : ∀ {l : List α} {i : Nat} {x : α} {r : List α}, l.drop i = x :: r → l[i]? = some x ∧ l.drop (i + 1) = r
  | [], i, x, r, h => by simp at h
  | y :: l, 0, x, r, h => by
    simp at h
    simp [h]
  | y :: l, i + 1, x, r, h => by
    have := drop_cons (l := l) (i := i) (by simpa using h)
    simpa using this
theorem ss_for {tg iter : Expr} {body : List Stmt} {fi : FA} {g : FG} {fb : FS} (hp : PassesOwn (model X.prog X.w) X.A X.env X.xe) (hc : X.calm = true) (hi : SI ct X tg iter fi) (hg : SG ct X tg g) (hb : SSs ct X body fb)
    (hs : ∀ x, foldedSetIterable iter X.env x = pure x := by intro _; rfl) : SS ct X (.For tg iter body [] pos) (sFor fi g fb) := by
  obtain ⟨wi, pi, ri⟩ := hi
  obtain ⟨tg', pg, rg⟩ := hg
  obtain ⟨tb, pb, rb⟩ := hb
  refine ⟨_, ps_for hp hc pi pg pb hs, fun m F S σ H env fl S' E s en h p => ?_⟩
  obtain ⟨⟨items, S1⟩, h1, h⟩ := bind_some h
  refine ri m F S σ H env items S1 _ s en h1 fun m1 F1 J H1 x1 s1 ok => ?_
  refine ⟨fun i k σ' H' => k = items.length - i ∧ i ≤ items.length ∧ ∃ m' F' env' S2, Ext m1 F1 H1 m' F' H' ∧ Sim X.K ct m' F' S2 H' ∧ EnvR X.K ct m' F' env' σ' ∧ forD g fb (items.drop i) env' S2 = some (fl, S'),
    ⟨_, rfl, Nat.zero_le _, m1, F1, env, S1, Ext.refl _ _ _, s1, en.mono x1, h⟩, ?_⟩
  rintro i k σ' H' ⟨rfl, hle, m', F', env', S2, x', s', en', hf⟩
  have okk := ok i m' F' S2 H' x' s'
  cases hd : items.drop i with
  | nil =>
    rw [hd] at hf
    cases hf
    have hl : items.length = i := by
      have := congrArg List.length hd
      simp at this
      omega
    exact .inl ⟨okk.2 hl, p m' F' σ' H' (x1.trans x') s' en'⟩
  | cons d r =>
    rw [hd] at hf
    obtain ⟨q1, q2⟩ := drop_cons hd
    have hlt : i < items.length := (List.getElem?_eq_some_iff.mp q1).1
    obtain ⟨⟨env1, S3⟩, h3, hf⟩ := bind_some hf
    obtain ⟨⟨fl4, S4⟩, h4, hf⟩ := bind_some hf
    obtain ⟨go, yl⟩ := okk.1 d q1
    refine .inr ⟨go, fun σ5 H5 => ∃ m5 F5 env5 S5, Ext m1 F1 H1 m5 F5 H5 ∧ Sim X.K ct m5 F5 S5 H5 ∧ EnvR X.K ct m5 F5 env5 σ5 ∧ forD g fb (items.drop (i + 1)) env5 S5 = some (fl, S'), fun σ5 H5 w => ⟨items.length - (i + 1), by omega, rfl, hlt, w⟩, fun x H5 y => ?_⟩
    obtain ⟨F5, x5, s5, r5⟩ := yl x H5 y
    refine rg m' F5 S2 σ' H5 env' d x env1 S3 _ s5 (en'.mono x5) r5 h3 fun m6 F6 σ6 H6 x6 s6 en6 => ?_
    refine rb m6 F6 S3 σ6 H6 env1 fl4 S4 _ s6 en6 h4 ?_
    have xx : Ext m1 F1 H1 m6 F6 H6 := (x'.trans x5).trans x6
    cases fl4 with
    | nx env7 => exact fun m7 F7 σ7 H7 x7 s7 en7 => ⟨m7, F7, env7, S4, xx.trans x7, s7, en7, by rw [q2]; exact hf⟩
    | ct env7 => exact fun m7 F7 σ7 H7 x7 s7 en7 => ⟨m7, F7, env7, S4, xx.trans x7, s7, en7, by rw [q2]; exact hf⟩
    | bk env7 => cases hf; exact fun m7 F7 σ7 H7 x7 s7 en7 => p m7 F7 σ7 H7 (x1.trans (xx.trans x7)) s7 en7
    | rt d7 => cases hf; exact fun m7 F7 v7 H7 x7 s7 r7 => p m7 F7 v7 H7 (x1.trans (xx.trans x7)) s7 r7
/-! ## while -/
def whileD (t : FT) (body : FS) : Nat → FS
  | 0, _, _ => none
  | n + 1, env, S => (t env S).bind fun p => if p.1 = true then (body env p.2).bind fun q => match q.1 with
      | .nx env' => whileD t body n env' q.2
      | .ct env' => whileD t body n env' q.2
      | .bk env' => some (.nx env', q.2)
      | .rt d => some (.rt d, q.2)
    else some (.nx env, p.2)
theorem ss_while {body : List Stmt} {fb : FS} (n : Nat) (hp : PassesOwn (model X.prog X.w) X.A X.env X.xe) (hc : ST ct X c ga) (hb : SSs ct X body fb) : SS ct X (.While c body [] pos) (whileD ga fb n) := by
  obtain ⟨tc, pc, rc⟩ := hc
  obtain ⟨tb, pb, rb⟩ := hb
  refine ⟨_, ps_while hp pc pb, fun m F S σ H env fl S' E s en h p => ?_⟩
  refine ⟨fun k σ' H' => ∃ m' F' env' S2, Ext m F H m' F' H' ∧ Sim X.K ct m' F' S2 H' ∧ EnvR X.K ct m' F' env' σ' ∧ whileD ga fb k env' S2 = some (fl, S'), ⟨n, m, F, env, S, Ext.refl _ _ _, s, en, h⟩, ?_⟩
  rintro k σ' H' ⟨m', F', env', S2, x', s', en', hf⟩
  cases k with
  | zero => cases hf
  | succ k =>
    obtain ⟨⟨b1, S3⟩, h3, hf⟩ := bind_some hf
    refine rc m' F' S2 σ' H' env' b1 S3 _ s' en' h3 fun m3 F3 H3 x3 s3 => ?_
    cases b1 with
    | true =>
      obtain ⟨⟨fl4, S4⟩, h4, hf⟩ := bind_some (show (fb env' S3).bind _ = _ from hf)
      refine iteT ⟨fun σ5 H5 => ∃ m5 F5 env5 S5, Ext m F H m5 F5 H5 ∧ Sim X.K ct m5 F5 S5 H5 ∧ EnvR X.K ct m5 F5 env5 σ5 ∧ whileD ga fb k env5 S5 = some (fl, S'), fun σ5 H5 w => ⟨k, Nat.lt_succ_self _, w⟩, ?_⟩
      refine rb m3 F3 S3 σ' H3 env' fl4 S4 _ s3 (en'.mono x3) h4 ?_
      cases fl4 with
      | nx env7 => exact fun m7 F7 σ7 H7 x7 s7 en7 => ⟨m7, F7, env7, S4, (x'.trans x3).trans x7, s7, en7, hf⟩
      | ct env7 => exact fun m7 F7 σ7 H7 x7 s7 en7 => ⟨m7, F7, env7, S4, (x'.trans x3).trans x7, s7, en7, hf⟩
      | bk env7 => cases hf; exact fun m7 F7 σ7 H7 x7 s7 en7 => p m7 F7 σ7 H7 ((x'.trans x3).trans x7) s7 en7
      | rt d7 => cases hf; exact fun m7 F7 v7 H7 x7 s7 r7 => p m7 F7 v7 H7 ((x'.trans x3).trans x7) s7 r7
    | false =>
      cases hf
      exact iteF (p m3 F3 σ' H3 (x'.trans x3) s3 (en'.mono x3))
/-! ## the body of a def, calls of defs -/
def runD (n : Nat) (g : FS) : FD := fun ds S => (g (ds.map some ++ List.replicate (n - ds.length) none) S).bind fun p => match p.1 with
  | .rt d => some (d, p.2)
  | .nx _ => some (.non, p.2)
  | _ => none
def spD (K : PySem.W.Frag) (ct : CT) (n : Nat) (g : FD) : Sp := fun vs H Q _ => vs.length = n ∧ ∃ m F S ds d S', Sim K ct m F S H ∧ Reps K ct m F ds vs ∧ g ds S = some (d, S') ∧ PostE ct K m F H S' d Q
end
section
variable {P : Program} {w : World} {K : PySem.W.Frag} {mg : Str → Option Value} {base : Heap} {ct : CT}
theorem def_ok {x qual : Str} {st : Stmt} {f : Addr} {fd : FuncData} {N ps : List Str} {k : Nat} {g : FS} (F : Fun K x qual st f fd) (S : FnScope N ps (defScope st))
    (hbody : ∀ (cdv : Value) (A : Around) (outer : List Env) (s : Shared) (H : Hp) (E : XK), Room k (A.deeper (envOfC qual (defScope st) s.heap.objs.size f cdv)) →
      SSs ct (cxOf CX0 P w K mg base N qual (defScope st) f cdv A outer s H E).nox (defBody st) g) : FnOk P w K mg base CX0 (k + 1) f fd ps (spD K ct ps.length (runD N.length g)) := by
  refine F.ok S (fun vs H Q E h => h.1) (fun cdv A outer s H vs Q E hr h => ?_)
  obtain ⟨hl, m, F', S0, ds, d, S', sim, reps, hg, post⟩ := h
  obtain ⟨t, pt, rt⟩ := hbody cdv A outer s H E hr
  refine ⟨t, pt, ?_⟩
  obtain ⟨⟨fl, S1⟩, h1, h2⟩ := bind_some hg
  refine rt m F' S0 _ H _ fl S1 _ sim ?_ h1 ?_
  · have hl2 := reps.length
    refine ⟨by simp [L2.start, hl2], fun i e he => ?_⟩
    by_cases hi : i < ds.length
    · rw [List.getElem?_append_left (by simpa using hi)] at he
      simp at he
      obtain ⟨v, q1, q2⟩ := reps.get (i := i) (d := e) (by simpa using he)
      refine ⟨v, ?_, q2⟩
      unfold L2.start
      rw [List.getElem?_append_left (by simpa [← hl2] using hi)]
      simp [q1]
    · rw [List.getElem?_append_right (by simpa using hi)] at he
      have := List.mem_of_getElem? he
      simp at this
  · cases fl with
    | rt d1 => cases h2; exact fun m' F1 v H' x1 s1 r1 => post m' F1 v H' x1 s1 r1
    | nx env1 => cases h2; exact fun m' F1 σ1 H' x1 s1 r1 => post m' F1 .non H' x1 s1 rfl
    | bk env1 => cases h2
    | ct env1 => cases h2
end
section
variable {ct : CT} {X : Cx} {e : Expr} {es : List Expr} {fas : FA} {x : Str} {p pos : Pos}
theorem se_call {k n : Nat} {f : Addr} {fd : FuncData} {ps : List Str} {g : FD} (F : FnOk X.prog X.w X.K X.mg X.base CX0 k f fd ps (spD X.K ct n g)) (hr : Room k X.A) (hg : Gl X x) (hm : X.mg x = some (.ref f)) (hk : PySem.W.keepIn X.K (.ref f) = true) (hb : Binds X.K fd ps [])
    (ha : SA ct X (e :: es) fas) (hn : ∀ env S ds S', fas env S = some (ds, S') → ds.length = n) (hdb : (x == ("__debug__" : Str)) = false := by decide) (he : starEach (e :: es) X.env = (false, eval e X.env) :: starEach es X.env := by rfl) (hpl : (backTo pos (starEach es X.env)).any (·.1) = false := by rfl) :
    SE ct X (.Call (.Name x p) (e :: es) [] pos) (fCall g fas) := by
  obtain ⟨ta, pa, ra⟩ := ha
  refine ⟨_, pe_call F hr hg hm hk hb .nil pass0 pa hdb he hpl, fun m F S σ H env d S' Q s en h p => ?_⟩
  obtain ⟨⟨xs, S1⟩, h1, h⟩ := bind_some h
  refine ra m F S σ H env xs S1 _ s en h1 fun m1 F1 vs H1 x1 s1 r1 => ?_
  rw [List.append_nil]
  exact ⟨by rw [← r1.length]; exact hn _ _ _ _ h1, m1, F1, S1, xs, d, S', s1, r1, h, p.ext x1⟩
theorem fNil_len {env : DEnv} {S S' : Sto} {ds : List D} (h : fNil env S = some (ds, S')) : ds.length = 0 := by cases h; rfl
theorem fCons_len {f : FE} {fs : FA} {n : Nat} (hn : ∀ env S ds S', fs env S = some (ds, S') → ds.length = n) : ∀ env S ds S', fCons f fs env S = some (ds, S') → ds.length = n + 1 := fun env S ds S' h => by
  obtain ⟨⟨x, S1⟩, h1, h⟩ := bind_some h
  obtain ⟨⟨y, S2⟩, h2, h⟩ := bind_some h
  cases h
  simp [hn _ _ _ _ h2]
end
end DL

namespace DL
open PySem PySem.Spec PyProof.Rows L2
theorem line_eq : sizeLine = 16777216 := sizeLine_eq
/-! ## operators at data -/
section
variable {ct : CT} {K : PySem.W.Frag}
/-- an operator of two ints -/
def gI (C : Int → Int → Bool) (k : Int → Int → D) : D → D → Sto → Option (D × Sto)
  | .int i, .int j, S => if C i j = true then some (k i j, S) else none
  | _, _, _ => none
theorem od_I {C : Int → Int → Bool} {C' : Int → Int → Prop} {k : Int → Int → D} {g : Int → Int → V} (hC : ∀ i j, C i j = true → C' i j) (hk : ∀ m F i j, Rep K ct m F (k i j) (g i j)) : OpD ct K (rI C' g) (gI C k) := by
  intro m F S H x y dx dy d S' Q s rx ry h p
  unfold gI at h
  split at h
  · rename_i i j
    split at h
    · rename_i hc
      cases h
      have rx : x = .int i := rx
      have ry : y = .int j := ry
      exact ⟨i, j, rx, ry, hC _ _ hc, p.now s (hk m F i j)⟩
    · cases h
  · cases h
def gI0 (k : Int → Int → D) : D → D → Sto → Option (D × Sto)
  | .int i, .int j, S => some (k i j, S)
  | _, _, _ => none
theorem od_I0 {k : Int → Int → D} {g : Int → Int → V} (hk : ∀ m F i j, Rep K ct m F (k i j) (g i j)) : OpD ct K (rI0 g) (gI0 k) := by
  intro m F S H x y dx dy d S' Q s rx ry h p
  unfold gI0 at h
  split at h
  · rename_i i j
    cases h
    have rx : x = .int i := rx
    have ry : y = .int j := ry
    exact ⟨i, j, rx, ry, p.now s (hk m F i j)⟩
  · cases h
abbrev gSubI := gI0 fun i j => .int (i - j)
theorem od_sub : OpD ct K (rI0 fun i j => .int (i - j)) gSubI := od_I0 fun _ _ _ _ => rfl
def smallI (i : Int) : Bool := decide (i.natAbs.log2 < 400000)
abbrev gMul := gI (fun i j => smallI i && smallI j) fun i j => .int (i * j)
theorem od_mul : OpD ct K (rI CMulW fun i j => .int (i * j)) gMul := od_I (fun i j h => by
  simp only [smallI, Bool.and_eq_true, decide_eq_true_eq] at h
  show i.natAbs.log2 + j.natAbs.log2 < 1000000
  omega) fun _ _ _ _ => rfl
abbrev gFdiv := gI (fun _ j => decide (0 < j) && decide (j.natAbs.log2 < 9000)) fun i j => .int (i / j)
theorem od_fdiv : OpD ct K (rI CDivW fun i j => .int (i / j)) gFdiv := od_I (fun i j h => by
  simp only [Bool.and_eq_true, decide_eq_true_eq] at h
  exact h) fun _ _ _ _ => rfl
abbrev gMod := gI (fun _ j => decide (0 < j)) fun i j => .int (i % j)
theorem od_mod : OpD ct K (rI (fun _ j => 0 < j) fun i j => .int (i % j)) gMod := od_I (fun i j h => of_decide_eq_true h) fun _ _ _ _ => rfl
abbrev gPow := gI (fun i j => decide (0 ≤ j) && decide (j ≤ 1000000) && decide (i.natAbs < 18446744073709551616)) fun i j => .int (i ^ j.toNat)
theorem od_pow : OpD ct K (rI CPow fun i j => .int (i ^ j.toNat)) gPow := od_I (fun i j h => by
  simp only [Bool.and_eq_true, decide_eq_true_eq] at h
  exact ⟨h.1.1, h.1.2, h.2⟩) fun _ _ _ _ => rfl
abbrev gShl := gI (fun i j => decide (0 ≤ j) && decide (j ≤ 1000000) && decide (i.natAbs < 18446744073709551616)) fun i j => .int (i * 2 ^ j.toNat)
theorem od_shl : OpD ct K (rI CPow fun i j => .int (i * 2 ^ j.toNat)) gShl := od_I (fun i j h => by
  simp only [Bool.and_eq_true, decide_eq_true_eq] at h
  exact ⟨h.1.1, h.1.2, h.2⟩) fun _ _ _ _ => rfl
abbrev gShr := gI (fun _ j => decide (0 ≤ j)) fun i j => .int (i / 2 ^ j.toNat)
theorem od_shr : OpD ct K (rI (fun _ j => 0 ≤ j) fun i j => .int (i / 2 ^ j.toNat)) gShr := od_I (fun i j h => of_decide_eq_true h) fun _ _ _ _ => rfl
abbrev gAndI := gI0 fun i j => .int (Builtin.bitAnd i j)
theorem od_and : OpD ct K (rI0 fun i j => .int (Builtin.bitAnd i j)) gAndI := od_I0 fun _ _ _ _ => rfl
abbrev gOrI := gI0 fun i j => .int (Builtin.bitOr i j)
theorem od_or : OpD ct K (rI0 fun i j => .int (Builtin.bitOr i j)) gOrI := od_I0 fun _ _ _ _ => rfl
abbrev gLt := gI0 fun i j => .bl (decide (i < j))
abbrev gLe := gI0 fun i j => .bl (decide (i ≤ j))
abbrev gGt := gI0 fun i j => .bl (decide (j < i))
abbrev gGe := gI0 fun i j => .bl (decide (j ≤ i))
theorem od_lt : OpD ct K (rI0 fun i j => .bl (decide (i < j))) gLt := od_I0 fun _ _ _ _ => rfl
theorem od_le : OpD ct K (rI0 fun i j => .bl (decide (i ≤ j))) gLe := od_I0 fun _ _ _ _ => rfl
theorem od_gt : OpD ct K (rI0 fun i j => .bl (decide (j < i))) gGt := od_I0 fun _ _ _ _ => rfl
theorem od_ge : OpD ct K (rI0 fun i j => .bl (decide (j ≤ i))) gGe := od_I0 fun _ _ _ _ => rfl
/-! + of ints, texts, lists -/
def gAdd : D → D → Sto → Option (D × Sto)
  | .int i, .int j, S => some (.int (i + j), S)
  | .str x, .str y, S => if x.length + y.length ≤ 16777216 then some (.str (x ++ y), S) else none
  | .lst a, .lst b, S => if a.length + b.length ≤ 16777216 then some (.lst (a ++ b), S) else none
  | _, _, _ => none
def rAddAll : R2 := fun x y H Q => rI0 (fun i j => .int (i + j)) x y H Q ∨ ((∃ i j, x = .str i ∧ y = .str j ∧ i.length + j.length ≤ sizeLine ∧ Q (.str (i ++ j)) H) ∨ rCat x y H Q)
theorem op_addAll {X : Cx} : OpR X (binaryOp .Add) rAddAll := op_add.or (op_add_str.or op_cat)
theorem od_add : OpD ct K rAddAll gAdd := by
  intro m F S H x y dx dy d S' Q s rx ry h p
  unfold gAdd at h
  split at h
  · rename_i i j
    cases h
    exact .inl ⟨i, j, rx, ry, p.now s rfl⟩
  · rename_i u v
    split at h
    · rename_i hl
      cases h
      exact .inr (.inl ⟨u, v, rx, ry, by rw [line_eq]; exact hl, p.now s rfl⟩)
    · cases h
  · rename_i as bs
    split at h
    · rename_i hl
      cases h
      obtain ⟨a, vs, e1, e2, e3⟩ := rx
      obtain ⟨b, us, f1, f2, f3⟩ := ry
      refine .inr (.inr ⟨a, b, vs, us, e1, f1, s.same _ _ e2, s.same _ _ f2, by rw [line_eq, ← e3.length, ← f3.length]; exact hl, fun q hq => ?_⟩)
      obtain ⟨s2, x2⟩ := s.frozen hq (.lst (vs ++ us))
      exact p m _ (.ref q) _ x2 s2 ⟨q, _, rfl, upd_same, (e3.append f3).mono x2⟩
    · cases h
  · cases h
/-! == and != -/
mutual
def toP : D → Option PyData
  | .non => some .none
  | .bl b => some (.bool b)
  | .int i => some (.int i)
  | .str x => some (.str x)
  | .tup ds => (toPs ds).map .tuple
  | .lst ds => (toPs ds).map .list
  | .scr ns => some (.list (ns.map .int))
  | _ => none
def toPs : List D → Option (List PyData)
  | [] => some []
  | d :: ds => (toP d).bind fun p => (toPs ds).map fun ps => p :: ps
end
theorem map_some {α β : Type} {o : Option α} {k : α → β} {r : β} (h : o.map k = some r) : ∃ x, o = some x ∧ k x = r := by
  cases o with
  | none => cases h
  | some x => exact ⟨x, rfl, Option.some.inj h⟩
theorem DpAll_ints {H : Hp} (ns : List Int) : DpAll K H (ns.map V.int) (ns.map PyData.int) := by
  induction ns with
  | nil => exact .nil
  | cons n ns ih => exact .cons (.int n) ih
mutual
theorem Rep.dp {m : List Addr} {F H : Hp} (e : Same F H) : ∀ (d : D) (v : V) (p : PyData), Rep K ct m F d v → toP d = some p → Dp K H v p
  | .non, _, _, h, q => by
    have h : _ = _ := h
    subst h
    cases q
    exact .non
  | .bl b, _, _, h, q => by
    have h : _ = _ := h
    subst h
    cases q
    exact .bl b
  | .int b, _, _, h, q => by
    have h : _ = _ := h
    subst h
    cases q
    exact .int b
  | .str b, _, _, h, q => by
    have h : _ = _ := h
    subst h
    cases q
    exact .str b
  | .tup ds, _, _, h, q => by
    obtain ⟨a, vs, e1, e2, e3⟩ := h
    subst e1
    obtain ⟨ps, q1, q2⟩ := map_some (show (toPs ds).map PyData.tuple = _ from q)
    subst q2
    exact .tup (sqT_mono e e2) (Reps.dp e ds vs ps e3 q1)
  | .lst ds, _, _, h, q => by
    obtain ⟨a, vs, e1, e2, e3⟩ := h
    subst e1
    obtain ⟨ps, q1, q2⟩ := map_some (show (toPs ds).map PyData.list = _ from q)
    subst q2
    exact .lst (SqL.of (e _ _ e2)) (Reps.dp e ds vs ps e3 q1)
  | .scr ns, _, _, h, q => by
    obtain ⟨a, e1, e2⟩ := h
    subst e1
    cases q
    exact .lst (e.seq e2) (DpAll_ints ns)
  | .dct _ _, _, _, _, q => by cases q
  | .ref _, _, _, _, q => by cases q
  | .obj _ _ _, _, _, _, q => by cases q
theorem Reps.dp {m : List Addr} {F H : Hp} (e : Same F H) : ∀ (ds : List D) (vs : List V) (ps : List PyData), Reps K ct m F ds vs → toPs ds = some ps → DpAll K H vs ps
  | [], _, _, h, q => by
    have h : _ = _ := h
    subst h
    cases q
    exact .nil
  | d :: ds, _, _, h, q => by
    obtain ⟨v, r, e1, e2, e3⟩ := h
    subst e1
    obtain ⟨p, q1, q⟩ := bind_some (show (toP d).bind _ = _ from q)
    obtain ⟨ps, q2, q3⟩ := map_some q
    subst q3
    exact .cons (Rep.dp e d v p e2 q1) (Reps.dp e ds r ps e3 q2)
end
def eqDeep (neg : Bool) (dx dy : D) : Option D := (toP dx).bind fun p => (toP dy).bind fun q => if SeqAt.shaped p = true ∧ SeqAt.shaped q = true then some (.bl (if neg then !PyData.eqv p q else PyData.eqv p q)) else none
def gEq : D → D → Sto → Option (D × Sto)
  | .int i, .int j, S => some (.bl (decide (i = j)), S)
  | .str i, .str j, S => some (.bl (decide (i = j)), S)
  | .bl i, .bl j, S => some (.bl (decide (i = j)), S)
  | dx, dy, S => (eqDeep false dx dy).map fun d => (d, S)
def gNe : D → D → Sto → Option (D × Sto)
  | .int i, .int j, S => some (.bl (!decide (i = j)), S)
  | .str i, .str j, S => some (.bl (!decide (i = j)), S)
  | .bl i, .bl j, S => some (.bl (!decide (i = j)), S)
  | dx, dy, S => (eqDeep true dx dy).map fun d => (d, S)
def rEqAll (K : PySem.W.Frag) : R2 := fun x y H Q => rEq x y H Q ∨ rEqD K x y H Q
def rNeAll (K : PySem.W.Frag) : R2 := fun x y H Q => rNe x y H Q ∨ rNeD K x y H Q
theorem op_eqAll {X : Cx} {k : Nat} (hr : Room k X.A) : OpR X (compareOp .Eq) (rEqAll X.K) := op_eq.or (op_eqD hr.units)
theorem op_neAll {X : Cx} {k : Nat} (hr : Room k X.A) : OpR X (compareOp .NotEq) (rNeAll X.K) := op_ne.or (op_neD hr.units)
theorem dec_eq {α : Type} [DecidableEq α] {f : α → V} (hf : ∀ a b, f a = f b → a = b) (i j : α) : decide (f i = f j) = decide (i = j) := by
  by_cases h : i = j
  · subst h; simp
  · rw [decide_eq_false h, decide_eq_false fun q => h (hf _ _ q)]
theorem od_eq : OpD ct K (rEqAll K) gEq := by
  intro m F S H x y dx dy d S' Q s rx ry h p
  unfold gEq at h
  split at h
  · rename_i i j
    cases h
    have rx : x = .int i := rx
    have ry : y = .int j := ry
    subst rx ry
    exact .inl ⟨rfl, by rw [dec_eq (fun _ _ q => V.int.inj q)]; exact p.now s rfl⟩
  · rename_i i j
    cases h
    have rx : x = .str i := rx
    have ry : y = .str j := ry
    subst rx ry
    exact .inl ⟨rfl, by rw [dec_eq (fun _ _ q => V.str.inj q)]; exact p.now s rfl⟩
  · rename_i i j
    cases h
    have rx : x = .bl i := rx
    have ry : y = .bl j := ry
    subst rx ry
    exact .inl ⟨rfl, by rw [dec_eq (fun _ _ q => V.bl.inj q)]; exact p.now s rfl⟩
  · obtain ⟨z, h1, h2⟩ := map_some h
    cases h2
    obtain ⟨u, g1, h⟩ := bind_some h1
    obtain ⟨w, g2, h⟩ := bind_some h
    split at h
    · rename_i hs
      cases h
      exact .inr ⟨u, w, Rep.dp s.same dx x u rx g1, Rep.dp s.same dy y w ry g2, hs.1, hs.2, p.now s rfl⟩
    · cases h
theorem od_ne : OpD ct K (rNeAll K) gNe := by
  intro m F S H x y dx dy d S' Q s rx ry h p
  unfold gNe at h
  split at h
  · rename_i i j
    cases h
    have rx : x = .int i := rx
    have ry : y = .int j := ry
    subst rx ry
    exact .inl ⟨rfl, by rw [dec_eq (fun _ _ q => V.int.inj q)]; exact p.now s rfl⟩
  · rename_i i j
    cases h
    have rx : x = .str i := rx
    have ry : y = .str j := ry
    subst rx ry
    exact .inl ⟨rfl, by rw [dec_eq (fun _ _ q => V.str.inj q)]; exact p.now s rfl⟩
  · rename_i i j
    cases h
    have rx : x = .bl i := rx
    have ry : y = .bl j := ry
    subst rx ry
    exact .inl ⟨rfl, by rw [dec_eq (fun _ _ q => V.bl.inj q)]; exact p.now s rfl⟩
  · obtain ⟨z, h1, h2⟩ := map_some h
    cases h2
    obtain ⟨u, g1, h⟩ := bind_some h1
    obtain ⟨w, g2, h⟩ := bind_some h
    split at h
    · rename_i hs
      cases h
      exact .inr ⟨u, w, Rep.dp s.same dx x u rx g1, Rep.dp s.same dy y w ry g2, hs.1, hs.2, p.now s rfl⟩
    · cases h
/-! is None -/
def isNonD : D → Bool
  | .non => true
  | _ => false
theorem Rep.isNon {m : List Addr} {F : Hp} {d : D} {v : V} (r : Rep K ct m F d v) : decide (v = .non) = isNonD d := by
  cases d with
  | non => have r : v = .non := r; subst r; rfl
  | bl b => have r : v = _ := r; subst r; rfl
  | int b => have r : v = _ := r; subst r; rfl
  | str b => have r : v = _ := r; subst r; rfl
  | tup ds => obtain ⟨a, vs, e1, _⟩ := r; subst e1; rfl
  | lst ds => obtain ⟨a, vs, e1, _⟩ := r; subst e1; rfl
  | dct ks ds => obtain ⟨a, vs, e1, _⟩ := r; subst e1; rfl
  | scr ds => obtain ⟨a, e1, _⟩ := r; subst e1; rfl
  | ref i => obtain ⟨a, _, e1⟩ := r; subst e1; rfl
  | obj c fs ds => obtain ⟨a, C, dx, vs, e1, _⟩ := r; subst e1; rfl
def gIsN : D → D → Sto → Option (D × Sto)
  | x, .non, S => some (.bl (isNonD x), S)
  | _, _, _ => none
def gNotN : D → D → Sto → Option (D × Sto)
  | x, .non, S => some (.bl (!isNonD x), S)
  | _, _, _ => none
theorem od_isN : OpD ct K (fun x y H Q => y = .non ∧ Q (.bl (decide (x = .non))) H) gIsN := by
  intro m F S H x y dx dy d S' Q s rx ry h p
  unfold gIsN at h
  split at h
  · cases h
    exact ⟨ry, by rw [rx.isNon]; exact p.now s rfl⟩
  · cases h
theorem od_notN : OpD ct K (fun x y H Q => y = .non ∧ Q (.bl (!decide (x = .non))) H) gNotN := by
  intro m F S H x y dx dy d S' Q s rx ry h p
  unfold gNotN at h
  split at h
  · cases h
    exact ⟨ry, by rw [rx.isNon]; exact p.now s rfl⟩
  · cases h
/-! in: flat items of a list or a tuple; a text in a text -/
def flatD : D → Bool
  | .non => true
  | .bl _ => true
  | .int _ => true
  | .str _ => true
  | _ => false
def eqF : D → D → Bool
  | .non, .non => true
  | .bl a, .bl b => a == b
  | .bl a, .int b => (if a then 1 else 0) == b
  | .int a, .bl b => a == (if b then 1 else 0)
  | .int a, .int b => a == b
  | .str a, .str b => a == b
  | _, _ => false
def vOf : D → V
  | .bl b => .bl b
  | .int b => .int b
  | .str b => .str b
  | _ => .non
theorem Rep.flat {m : List Addr} {F : Hp} {d : D} {v : V} (r : Rep K ct m F d v) (h : flatD d = true) : v = vOf d ∧ flatV v = true := by
  cases d with
  | non => have r : v = _ := r; subst r; exact ⟨rfl, rfl⟩
  | bl b => have r : v = _ := r; subst r; exact ⟨rfl, rfl⟩
  | int b => have r : v = _ := r; subst r; exact ⟨rfl, rfl⟩
  | str b => have r : v = _ := r; subst r; exact ⟨rfl, rfl⟩
  | _ => cases h
theorem eqV_eqF {a b : D} (ha : flatD a = true) (hb : flatD b = true) : eqV (vOf a) (vOf b) = eqF a b := by
  cases a <;> cases ha <;> cases b <;> cases hb <;> rfl
theorem Reps.flat {m : List Addr} {F : Hp} : ∀ {ds : List D} {vs : List V}, Reps K ct m F ds vs → ds.all flatD = true → vs = ds.map vOf ∧ vs.all flatV = true
  | [], _, r, _ => by have r : _ = _ := r; subst r; exact ⟨rfl, rfl⟩
  | d :: ds, _, r, h => by
    obtain ⟨v, vr, e1, e2, e3⟩ := r
    subst e1
    simp only [List.all_cons, Bool.and_eq_true] at h
    obtain ⟨q1, q2⟩ := e2.flat h.1
    obtain ⟨q3, q4⟩ := Reps.flat e3 h.2
    exact ⟨by rw [q1, q3]; rfl, by simp only [List.all_cons, q2, q4]; rfl⟩
theorem inV_eq {x : D} (hx : flatD x = true) : ∀ ds : List D, ds.all flatD = true → inV (vOf x) (ds.map vOf) = ds.any fun z => eqF z x
  | [], _ => rfl
  | d :: ds, h => by
    simp only [List.all_cons, Bool.and_eq_true] at h
    have ih := inV_eq hx ds h.2
    unfold inV at ih ⊢
    simp only [List.map_cons, List.any_cons, ih, eqV_eqF h.1 hx]
def inSeq (neg : Bool) (x : D) (ds : List D) (S : Sto) : Option (D × Sto) := if flatD x = true ∧ ds.all flatD = true then some (.bl (if neg then !ds.any (fun z => eqF z x) else ds.any fun z => eqF z x), S) else none
def gInB (neg : Bool) : D → D → Sto → Option (D × Sto)
  | x, .tup ds, S => inSeq neg x ds S
  | x, .lst ds, S => inSeq neg x ds S
  | .str x, .str y, S => some (.bl (if neg then !(!(Builtin.Str.occurrences y x 0 y.length 1).isEmpty) else !(Builtin.Str.occurrences y x 0 y.length 1).isEmpty), S)
  | _, _, _ => none
abbrev gIn := gInB false
abbrev gNotIn := gInB true
def rInAll (K : PySem.W.Frag) : R2 := fun x y H Q => rIn K false x y H Q ∨ ∃ i j, x = .str i ∧ y = .str j ∧ Q (.bl (!(Builtin.Str.occurrences j i 0 j.length 1).isEmpty)) H
def rNotInAll (K : PySem.W.Frag) : R2 := fun x y H Q => rIn K true x y H Q ∨ ∃ i j, x = .str i ∧ y = .str j ∧ Q (.bl (!(!(Builtin.Str.occurrences j i 0 j.length 1).isEmpty))) H
theorem op_inAll {X : Cx} : OpR X (compareOp .In) (rInAll X.K) := op_in_seq.or op_in_str
theorem op_notInAll {X : Cx} : OpR X (compareOp .NotIn) (rNotInAll X.K) := op_notIn_seq.or op_notIn_str
theorem in_seq {neg : Bool} {m : List Addr} {F H : Hp} {S S' : Sto} {x y : V} {dx d : D} {ds : List D} {Q : VK} {a : Addr} {vs : List V} (s : Sim K ct m F S H) (rx : Rep K ct m F dx x) (e1 : y = .ref a) (e2 : SqL K H a vs ∨ SqT K H a vs) (e3 : Reps K ct m F ds vs)
    (h : inSeq neg dx ds S = some (d, S')) (p : PostE ct K m F H S' d Q) : rIn K neg x y H Q := by
  unfold inSeq at h
  split at h
  · rename_i hf
    cases h
    obtain ⟨q1, q2⟩ := rx.flat hf.1
    obtain ⟨q3, q4⟩ := e3.flat hf.2
    refine ⟨a, vs, e1, e2, q2, q4, ?_⟩
    rw [q1, q3, inV_eq hf.1 _ hf.2]
    exact p.now s rfl
  · cases h
theorem od_in : OpD ct K (rInAll K) gIn := by
  intro m F S H x y dx dy d S' Q s rx ry h p
  unfold gIn gInB at h
  split at h
  · obtain ⟨a, vs, e1, e2, e3⟩ := ry
    exact .inl (in_seq s rx e1 (.inr (sqT_mono s.same e2)) e3 h p)
  · obtain ⟨a, vs, e1, e2, e3⟩ := ry
    exact .inl (in_seq s rx e1 (.inl (SqL.of (s.same _ _ e2))) e3 h p)
  · cases h
    exact .inr ⟨_, _, rx, ry, p.now s rfl⟩
  · cases h
theorem od_notIn : OpD ct K (rNotInAll K) gNotIn := by
  intro m F S H x y dx dy d S' Q s rx ry h p
  unfold gNotIn gInB at h
  split at h
  · obtain ⟨a, vs, e1, e2, e3⟩ := ry
    exact .inl (in_seq s rx e1 (.inr (sqT_mono s.same e2)) e3 h p)
  · obtain ⟨a, vs, e1, e2, e3⟩ := ry
    exact .inl (in_seq s rx e1 (.inl (SqL.of (s.same _ _ e2))) e3 h p)
  · cases h
    exact .inr ⟨_, _, rx, ry, p.now s rfl⟩
  · cases h
/-! subscripts -/
def gIx : D → D → Sto → Option (D × Sto)
  | .tup ds, .int i, S => (atI ds i).map fun d => (d, S)
  | .lst ds, .int i, S => (atI ds i).map fun d => (d, S)
  | .scr ns, .int i, S => (atI ns i).map fun n => (.int n, S)
  | .str z, .int i, S => if z.length ≤ 16777216 then (atI z.cps.toList i).map fun c => (.str ⟨#[c]⟩, S) else none
  | .ref k, .int i, S => match S[k]? with
    | some (.lst ds) => (atI ds i).map fun d => (d, S)
    | _ => none
  | _, _, _ => none
theorem Reps.atI {m : List Addr} {F : Hp} {ds : List D} {vs : List V} {i : Int} {d : D} (r : Reps K ct m F ds vs) (h : atI ds i = some d) : ∃ v, L2.atI vs i = some v ∧ Rep K ct m F d v := by
  unfold L2.atI at h ⊢
  obtain ⟨j, h1, h2⟩ := bind_some h
  obtain ⟨v, q1, q2⟩ := r.get h2
  exact ⟨v, by rw [← r.length, h1]; exact q1, q2⟩
theorem atI_map {α β : Type} {f : α → β} {xs : List α} {i : Int} {x : α} (h : L2.atI xs i = some x) : L2.atI (xs.map f) i = some (f x) := by
  unfold L2.atI at h ⊢
  obtain ⟨j, h1, h2⟩ := bind_some h
  rw [List.length_map, h1]
  simp [h2]
theorem od_ix : OpD ct K (rIx K) gIx := by
  intro m F S H x y dx dy d S' Q s rx ry h p
  unfold gIx at h
  split at h
  · obtain ⟨a, vs, e1, e2, e3⟩ := rx
    obtain ⟨z, h1, h2⟩ := map_some h
    cases h2
    obtain ⟨v, q1, q2⟩ := e3.atI h1
    exact .inr (.inl ⟨a, vs, _, v, e1, ry, sqT_mono s.same e2, q1, p.now s q2⟩)
  · obtain ⟨a, vs, e1, e2, e3⟩ := rx
    obtain ⟨z, h1, h2⟩ := map_some h
    cases h2
    obtain ⟨v, q1, q2⟩ := e3.atI h1
    exact .inl ⟨a, vs, _, v, e1, ry, SqL.of (s.same _ _ e2), q1, p.now s q2⟩
  · obtain ⟨a, e1, e2⟩ := rx
    obtain ⟨z, h1, h2⟩ := map_some h
    cases h2
    exact .inl ⟨a, _, _, .int z, e1, ry, s.same.seq e2, atI_map h1, p.now s rfl⟩
  · split at h
    · rename_i hl
      obtain ⟨z, h1, h2⟩ := map_some h
      cases h2
      exact .inr (.inr ⟨_, _, z, rx, ry, by rw [line_eq]; exact hl, h1, p.now s rfl⟩)
    · cases h
  · split at h
    · rename_i ds hk
      obtain ⟨a, e1, e2⟩ := rx
      obtain ⟨z, h1, h2⟩ := map_some h
      cases h2
      obtain ⟨vs, q1, q2⟩ := s.cell _ a _ e1 hk
      obtain ⟨v, q3, q4⟩ := q2.atI h1
      exact .inl ⟨a, vs, _, v, e2, ry, SqL.of q1, q3, p.now s q4⟩
    · cases h
  · cases h
/-! o[i] = v of a cell -/
def gSetL : D → D → D → Sto → Option Sto
  | .ref k, .int i, v, S => match S[k]? with
    | some (.lst ds) => (ixN ds.length i).map fun j => S.set k (.lst (ds.set j v))
    | _ => none
  | _, _, _, _ => none
theorem sd_list : SetD ct K rSetL gSetL := by
  intro m F S H o i v d1 d2 d3 S' Q s r1 r2 r3 h q
  unfold gSetL at h
  split at h
  · split at h
    · rename_i ds hk
      obtain ⟨j, h1, h2⟩ := map_some h
      subst h2
      obtain ⟨a, e1, e2⟩ := r1
      obtain ⟨vs, q1, q2⟩ := s.cell _ a _ e1 hk
      obtain ⟨s2, x2⟩ := s.change e1 (o := .lst (vs.set j v)) (c := .lst (ds.set j d3)) ⟨_, rfl, q2.set j r3⟩
      exact ⟨a, vs, _, j, e2, r2, q1, by rw [← q2.length]; exact h1, q _ _ _ x2 s2⟩
    · cases h
  · cases h
end
end DL

namespace DL
open PySem PySem.Spec PyProof.Rows L2
section
variable {ct : CT} {K : PySem.W.Frag}
/-! ## built-ins at data -/
def cAbs : FD
  | [.int i], S => some (.int (if i < 0 then -i else i), S)
  | _, _ => none
theorem reps1 {m : List Addr} {F : Hp} {d : D} {xs : List V} (r : Reps K ct m F [d] xs) : ∃ v, xs = [v] ∧ Rep K ct m F d v := by
  obtain ⟨v, r', e1, e2, e3⟩ := r
  have e3 : r' = [] := e3
  subst e3
  exact ⟨v, e1, e2⟩
theorem reps2 {m : List Addr} {F : Hp} {d e : D} {xs : List V} (r : Reps K ct m F [d, e] xs) : ∃ v u, xs = [v, u] ∧ Rep K ct m F d v ∧ Rep K ct m F e u := by
  obtain ⟨v, r', e1, e2, e3⟩ := r
  obtain ⟨u, e4, e5⟩ := reps1 e3
  subst e4
  exact ⟨v, u, e1, e2, e5⟩
theorem cd_abs : CallD ct K (fun xs H Q => ∃ i, xs = [.int i] ∧ Q (.int (if i < 0 then -i else i)) H) cAbs := by
  intro m F S H xs ds d S' Q s r h p
  unfold cAbs at h
  split at h
  · cases h
    obtain ⟨v, e1, e2⟩ := reps1 r
    have e2 : v = _ := e2
    subst e2
    exact ⟨_, e1, p.now s rfl⟩
  · cases h
def cMax2 : FD
  | [.int i, .int j], S => some (.int (if j > i then j else i), S)
  | _, _ => none
def cMin2 : FD
  | [.int i, .int j], S => some (.int (if j < i then j else i), S)
  | _, _ => none
theorem cd_max2 : CallD ct K (fun xs H Q => ∃ i j, xs = [.int i, .int j] ∧ Q (.int (if j > i then j else i)) H) cMax2 := by
  intro m F S H xs ds d S' Q s r h p
  unfold cMax2 at h
  split at h
  · cases h
    obtain ⟨v, u, e1, e2, e3⟩ := reps2 r
    have e2 : v = _ := e2
    have e3 : u = _ := e3
    subst e2 e3
    exact ⟨_, _, e1, p.now s rfl⟩
  · cases h
theorem cd_min2 : CallD ct K (fun xs H Q => ∃ i j, xs = [.int i, .int j] ∧ Q (.int (if j < i then j else i)) H) cMin2 := by
  intro m F S H xs ds d S' Q s r h p
  unfold cMin2 at h
  split at h
  · cases h
    obtain ⟨v, u, e1, e2, e3⟩ := reps2 r
    have e2 : v = _ := e2
    have e3 : u = _ := e3
    subst e2 e3
    exact ⟨_, _, e1, p.now s rfl⟩
  · cases h
/-- int(n), int(flag), int(text) -/
def cInt : FD
  | [.int i], S => some (.int i, S)
  | [.bl b], S => some (.int (if b then 1 else 0), S)
  | [.str x], S => if x.length ≤ 640 then (PySem.intText? x).map fun n => (.int n, S) else none
  | _, _ => none
def rInt : List V → Hp → VK → Prop := fun xs H Q => ((∃ i, xs = [.int i] ∧ Q (.int i) H) ∨ ∃ k, xs = [.bl k] ∧ Q (.int (if k then 1 else 0)) H) ∨ ∃ a n, xs = [.str a] ∧ PySem.intText? a = some n ∧ a.length ≤ 640 ∧ Q (.int n) H
theorem call_intAll {X : Cx} : CallR X (.type "int") rInt := call_int1.or call_int_str
theorem cd_int : CallD ct K rInt cInt := by
  intro m F S H xs ds d S' Q s r h p
  unfold cInt at h
  split at h
  · cases h
    obtain ⟨v, e1, e2⟩ := reps1 r
    have e2 : v = _ := e2
    subst e2
    exact .inl (.inl ⟨_, e1, p.now s rfl⟩)
  · cases h
    obtain ⟨v, e1, e2⟩ := reps1 r
    have e2 : v = _ := e2
    subst e2
    exact .inl (.inr ⟨_, e1, p.now s rfl⟩)
  · split at h
    · rename_i hl
      obtain ⟨n, h1, h2⟩ := map_some h
      cases h2
      obtain ⟨v, e1, e2⟩ := reps1 r
      have e2 : v = _ := e2
      subst e2
      exact .inr ⟨_, n, e1, h1, hl, p.now s rfl⟩
    · cases h
  · cases h
def cStr : FD
  | [.int i], S => if i.natAbs.log2 < 1920 then some (.str (toString i), S) else none
  | _, _ => none
theorem cd_str : CallD ct K (fun xs H Q => ∃ i : Int, xs = [.int i] ∧ i.natAbs.log2 < 1920 ∧ Q (.str (toString i)) H) cStr := by
  intro m F S H xs ds d S' Q s r h p
  unfold cStr at h
  split at h
  · split at h
    · rename_i hl
      cases h
      obtain ⟨v, e1, e2⟩ := reps1 r
      have e2 : v = _ := e2
      subst e2
      exact ⟨_, e1, hl, p.now s rfl⟩
    · cases h
  · cases h
def cLen : FD
  | [.str x], S => if x.length ≤ 16777216 then some (.int x.length, S) else none
  | [.tup ds], S => some (.int ds.length, S)
  | [.lst ds], S => some (.int ds.length, S)
  | [.scr ns], S => some (.int ns.length, S)
  | [.ref k], S => match S[k]? with
    | some (.lst ds) => some (.int ds.length, S)
    | _ => none
  | _, _ => none
def rLenAll (K : PySem.W.Frag) : List V → Hp → VK → Prop := fun xs H Q => (∃ p ys, xs = [.ref p] ∧ (SqL K H p ys ∨ SqT K H p ys) ∧ Q (.int ys.length) H) ∨ ∃ z, xs = [.str z] ∧ z.length ≤ sizeLine ∧ Q (.int z.length) H
theorem call_lenAll {X : Cx} : CallR X (.builtin "len") (rLenAll X.K) := call_len_seq.or call_len_str
theorem cd_len : CallD ct K (rLenAll K) cLen := by
  intro m F S H xs ds d S' Q s r h p
  unfold cLen at h
  split at h
  · split at h
    · rename_i hl
      cases h
      obtain ⟨v, e1, e2⟩ := reps1 r
      have e2 : v = _ := e2
      subst e2
      exact .inr ⟨_, e1, by rw [line_eq]; exact hl, p.now s rfl⟩
    · cases h
  · cases h
    obtain ⟨v, e1, a, vs, e2, e3, e4⟩ := reps1 r
    subst e2
    exact .inl ⟨a, vs, e1, .inr (sqT_mono s.same e3), by rw [← e4.length]; exact p.now s rfl⟩
  · cases h
    obtain ⟨v, e1, a, vs, e2, e3, e4⟩ := reps1 r
    subst e2
    exact .inl ⟨a, vs, e1, .inl (SqL.of (s.same _ _ e3)), by rw [← e4.length]; exact p.now s rfl⟩
  · cases h
    obtain ⟨v, e1, a, e2, e3⟩ := reps1 r
    subst e2
    exact .inl ⟨a, _, e1, .inl (s.same.seq e3), by rw [List.length_map]; exact p.now s rfl⟩
  · split at h
    · rename_i es hk
      cases h
      obtain ⟨v, e1, a, e2, e3⟩ := reps1 r
      subst e3
      obtain ⟨vs, q1, q2⟩ := s.cell _ a _ e2 hk
      exact .inl ⟨a, vs, e1, .inl (SqL.of q1), by rw [← q2.length]; exact p.now s rfl⟩
    · cases h
  · cases h
/-- any, all of a list of bools -/
def asBools : List D → Option (List Bool)
  | [] => some []
  | .bl b :: ds => (asBools ds).map fun bs => b :: bs
  | _ => none
theorem Reps.bools {m : List Addr} {F : Hp} : ∀ {ds : List D} {vs : List V} {bs : List Bool}, Reps K ct m F ds vs → asBools ds = some bs → vs = bs.map V.bl
  | [], _, _, r, h => by
    have r : _ = _ := r
    subst r
    cases h
    rfl
  | .bl b :: ds, _, _, r, h => by
    obtain ⟨v, vr, e1, e2, e3⟩ := r
    obtain ⟨cs, h1, h2⟩ := map_some (show (asBools ds).map _ = _ from h)
    have e2 : v = _ := e2
    subst e1 h2 e2
    rw [Reps.bools e3 h1]
    rfl
  | .non :: ds, _, _, r, h => by cases h
  | .int _ :: ds, _, _, r, h => by cases h
  | .str _ :: ds, _, _, r, h => by cases h
  | .tup _ :: ds, _, _, r, h => by cases h
  | .lst _ :: ds, _, _, r, h => by cases h
  | .dct _ _ :: ds, _, _, r, h => by cases h
  | .scr _ :: ds, _, _, r, h => by cases h
  | .ref _ :: ds, _, _, r, h => by cases h
  | .obj _ _ _ :: ds, _, _, r, h => by cases h
def cAny : FD
  | [.lst ds], S => (asBools ds).map fun bs => (.bl (bs.any id), S)
  | _, _ => none
def cAll : FD
  | [.lst ds], S => (asBools ds).map fun bs => (.bl (bs.all id), S)
  | _, _ => none
theorem cd_any : CallD ct K (rAny K) cAny := by
  intro m F S H xs ds d S' Q s r h p
  unfold cAny at h
  split at h
  · obtain ⟨bs, h1, h2⟩ := map_some h
    cases h2
    obtain ⟨v, e1, a, vs, e2, e3, e4⟩ := reps1 r
    subst e2
    have e5 := e4.bools h1
    subst e5
    exact ⟨a, bs, e1, SqL.of (s.same _ _ e3), p.now s rfl⟩
  · cases h
theorem cd_all : CallD ct K (rAll K) cAll := by
  intro m F S H xs ds d S' Q s r h p
  unfold cAll at h
  split at h
  · obtain ⟨bs, h1, h2⟩ := map_some h
    cases h2
    obtain ⟨v, e1, a, vs, e2, e3, e4⟩ := reps1 r
    subst e2
    have e5 := e4.bools h1
    subst e5
    exact ⟨a, bs, e1, SqL.of (s.same _ _ e3), p.now s rfl⟩
  · cases h
/-- ints of a list -/
def asInts : List D → Option (List Int)
  | [] => some []
  | .int b :: ds => (asInts ds).map fun bs => b :: bs
  | _ => none
theorem Reps.asInts {m : List Addr} {F : Hp} : ∀ {ds : List D} {vs : List V} {bs : List Int}, Reps K ct m F ds vs → asInts ds = some bs → vs = bs.map V.int
  | [], _, _, r, h => by
    have r : _ = _ := r
    subst r
    cases h
    rfl
  | .int b :: ds, _, _, r, h => by
    obtain ⟨v, vr, e1, e2, e3⟩ := r
    obtain ⟨cs, h1, h2⟩ := map_some (show (DL.asInts ds).map _ = _ from h)
    have e2 : v = _ := e2
    subst e1 h2 e2
    rw [Reps.asInts e3 h1]
    rfl
  | .non :: ds, _, _, r, h => by cases h
  | .bl _ :: ds, _, _, r, h => by cases h
  | .str _ :: ds, _, _, r, h => by cases h
  | .tup _ :: ds, _, _, r, h => by cases h
  | .lst _ :: ds, _, _, r, h => by cases h
  | .dct _ _ :: ds, _, _, r, h => by cases h
  | .scr _ :: ds, _, _, r, h => by cases h
  | .ref _ :: ds, _, _, r, h => by cases h
  | .obj _ _ _ :: ds, _, _, r, h => by cases h
def cSum : FD
  | [.lst ds], S => (asInts ds).map fun bs => (.int bs.sum, S)
  | _, _ => none
theorem cd_sum : CallD ct K (rSum K) cSum := by
  intro m F S H xs ds d S' Q s r h p
  unfold cSum at h
  split at h
  · obtain ⟨bs, h1, h2⟩ := map_some h
    cases h2
    obtain ⟨v, e1, a, vs, e2, e3, e4⟩ := reps1 r
    subst e2
    have e5 := e4.asInts h1
    subst e5
    exact ⟨a, bs, e1, SqL.of (s.same _ _ e3), p.now s rfl⟩
  · cases h
/-- list(xs), list(t) -/
def cList : FD
  | [.lst ds], S => some (.lst ds, S)
  | [.tup ds], S => some (.lst ds, S)
  | _, _ => none
theorem cd_list : CallD ct K (fun xs H Q => ∃ p ys, xs = [.ref p] ∧ (SqL K H p ys ∨ SqT K H p ys) ∧ ∀ l, H l = none → Q (.ref l) (upd H l (.lst ys))) cList := by
  intro m F S H xs ds d S' Q s r h p
  unfold cList at h
  split at h
  · cases h
    obtain ⟨v, e1, a, vs, e2, e3, e4⟩ := reps1 r
    subst e2
    refine ⟨a, vs, e1, .inl (SqL.of (s.same _ _ e3)), fun q hq => ?_⟩
    obtain ⟨s2, x2⟩ := s.frozen hq (.lst vs)
    exact p m _ (.ref q) _ x2 s2 ⟨q, _, rfl, upd_same, e4.mono x2⟩
  · cases h
    obtain ⟨v, e1, a, vs, e2, e3, e4⟩ := reps1 r
    subst e2
    refine ⟨a, vs, e1, .inr (sqT_mono s.same e3), fun q hq => ?_⟩
    obtain ⟨s2, x2⟩ := s.frozen hq (.lst vs)
    exact p m _ (.ref q) _ x2 s2 ⟨q, _, rfl, upd_same, e4.mono x2⟩
  · cases h
/-- tuple(xs) -/
def cTuple : FD
  | [.lst ds], S => some (.tup ds, S)
  | [.tup ds], S => some (.tup ds, S)
  | _, _ => none
theorem cd_tuple : CallD ct K (fun xs H Q => ∃ p ys, xs = [.ref p] ∧ ((SqL K H p ys ∧ ∀ l, H l = none → Q (.ref l) (upd H l (.tup ys))) ∨ (SqT K H p ys ∧ Q (.ref p) H))) cTuple := by
  intro m F S H xs ds d S' Q s r h p
  unfold cTuple at h
  split at h
  · cases h
    obtain ⟨v, e1, a, vs, e2, e3, e4⟩ := reps1 r
    subst e2
    refine ⟨a, vs, e1, .inl ⟨SqL.of (s.same _ _ e3), fun q hq => ?_⟩⟩
    obtain ⟨s2, x2⟩ := s.frozen hq (.tup vs)
    exact p m _ (.ref q) _ x2 s2 ⟨q, _, rfl, SqT.of upd_same, e4.mono x2⟩
  · cases h
    obtain ⟨v, e1, a, vs, e2, e3, e4⟩ := reps1 r
    subst e2
    exact ⟨a, vs, e1, .inr ⟨sqT_mono s.same e3, p.now s ⟨a, vs, rfl, e3, e4⟩⟩⟩
  · cases h
end
/-! ## isinstance with a built-in class -/
section
variable {ct : CT} {X : Cx} {e : Expr} {f : FE}
def isiT : String → D → Option Bool
  | "int", .int _ => some true
  | "int", .bl _ => some true
  | "int", .non => some false
  | "int", .str _ => some false
  | "int", .tup _ => some false
  | "int", .lst _ => some false
  | "int", .dct _ _ => some false
  | "bool", .bl _ => some true
  | "bool", .int _ => some false
  | "bool", .non => some false
  | "bool", .str _ => some false
  | "bool", .tup _ => some false
  | "bool", .lst _ => some false
  | "bool", .dct _ _ => some false
  | "str", .str _ => some true
  | "str", .int _ => some false
  | "str", .bl _ => some false
  | "str", .non => some false
  | "str", .tup _ => some false
  | "str", .lst _ => some false
  | "str", .dct _ _ => some false
  | "tuple", .tup _ => some true
  | "tuple", .int _ => some false
  | "tuple", .bl _ => some false
  | "tuple", .non => some false
  | "tuple", .str _ => some false
  | "tuple", .lst _ => some false
  | "tuple", .dct _ _ => some false
  | _, _ => none
def tyN : D → String
  | .non => "NoneType"
  | .bl _ => "bool"
  | .int _ => "int"
  | .str _ => "str"
  | .tup _ => "tuple"
  | .lst _ => "list"
  | .dct _ _ => "dict"
  | _ => ""
theorem tyX_of {K : PySem.W.Frag} {m : List Addr} {F H : Hp} (e : Same F H) {d : D} {v : V} (r : Rep K ct m F d v) (h : tyN d ≠ "") : TyX K H v (.type (tyN d)) := by
  cases d with
  | non => have r : v = _ := r; subst r; exact .base .non
  | bl b => have r : v = _ := r; subst r; exact .base (.bl b)
  | int b => have r : v = _ := r; subst r; exact .base (.int b)
  | str b => have r : v = _ := r; subst r; exact .base (.str b)
  | tup ds =>
    obtain ⟨a, vs, e1, e2, _⟩ := r
    subst e1
    rcases sqT_mono e e2 with (q | ⟨o, q⟩) | ⟨o, its, n, q1, q2, _⟩
    · exact .base (.tup q)
    · exact .fTuple q
    · exact .kTuple q1 q2
  | lst ds =>
    obtain ⟨a, vs, e1, e2, _⟩ := r
    subst e1
    exact .base (.lst (e _ _ e2))
  | dct ks ds =>
    obtain ⟨a, vs, e1, e2, _⟩ := r
    subst e1
    exact .base (.dK (e _ _ e2))
  | scr _ => exact absurd rfl h
  | ref _ => exact absurd rfl h
  | obj _ _ _ => exact absurd rfl h
theorem isiT_kit {T : String} {d : D} {b : Bool} (h : isiT T d = some b) : kitB (tyN d) T = some b ∧ tyN d ≠ "" := by
  unfold isiT at h
  split at h <;> first
    | (cases h; refine ⟨?_, ?_⟩ <;> (dsimp only [tyN]; decide +kernel))
    | cases h
def fIsi (T : String) (f : FE) : FE := fun env S => (f env S).bind fun p => (isiT T p.1).map fun b => (.bl b, p.2)
theorem se_isi {T : String} {x : Str} {p q pos : Pos} (hg : Gl X "isinstance") (hm : X.mg "isinstance" = none) (he : SE ct X e f) (hg2 : Gl X x) (hm2 : X.mg x = none) (hv2 : bootBuiltins x = some (.type T)) (hn2 : x ≠ "__name__" := by decide) (hd2 : (x == ("__debug__" : Str)) = false := by decide)
    (hs : starEach [e, .Name x q] X.env = (false, eval e X.env) :: starEach [.Name x q] X.env := by rfl) (hs2 : starEach [.Name x q] X.env = (false, eval (.Name x q) X.env) :: starEach [] X.env := by rfl)
    (hpl : (backTo pos (starEach [.Name x q] X.env)).any (·.1) = false := by rfl) : SE ct X (.Call (.Name "isinstance" p) [e, .Name x q] [] pos) (fIsi T f) := by
  obtain ⟨ta, pa, ra⟩ := he
  refine ⟨_, pe_callB call_isi hg hm (by decide +kernel) (pa_cons pa (pa_cons (pe_bltn (v := .ty T) hg2 hm2 hv2 rfl hn2 hd2) pa_nil hs2) hs) (by decide) (by decide) hs hpl, fun m F S σ H env d S' Q s en h p => ?_⟩
  obtain ⟨⟨z, S1⟩, h1, h⟩ := bind_some h
  obtain ⟨b, h2, h3⟩ := map_some h
  cases h3
  refine ra m F S σ H env z S1 _ s en h1 fun m1 F1 v1 H1 x1 s1 r1 => ?_
  obtain ⟨k1, k2⟩ := isiT_kit h2
  exact ⟨v1, .ty T, .type (tyN z), .type T, b, rfl, .ty T, tyX_of s1.same r1 k2, kit_ty k1, (p.ext x1).now s1 rfl⟩
end
/-! ## slices -/
section
variable {ct : CT} {X : Cx} {a b c e : Expr} {es : List Expr} {fa fb fc f : FE}
abbrev FO := DEnv → Sto → Option (Option Int × Sto)
def SO (ct : CT) (X : Cx) (e : Option Expr) (f : FO) : Prop := ∃ t, PO X e t ∧ ∀ m F S σ H env o S' Q, Sim X.K ct m F S H → EnvR X.K ct m F env σ → f env S = some (o, S') → (∀ m' F' H', Ext m F H m' F' H' → Sim X.K ct m' F' S' H' → Q o H') → t σ H Q
def oNone : FO := fun _ S => some (none, S)
def oSome (f : FE) : FO := fun env S => (f env S).bind fun p => match p.1 with
  | .int i => some (some i, p.2)
  | _ => none
theorem so_none : SO ct X none oNone := ⟨_, po_none, fun m F S σ H env o S' Q s en h q => by
  cases h
  exact q m F H (Ext.refl _ _ _) s⟩
theorem so_some (h : SE ct X e f) : SO ct X (some e) (oSome f) := by
  obtain ⟨ta, pa, ra⟩ := h
  refine ⟨_, po_some pa, fun m F S σ H env o S' Q s en h q => ?_⟩
  obtain ⟨⟨z, S1⟩, h1, h⟩ := bind_some h
  refine ra m F S σ H env z S1 _ s en h1 fun m1 F1 v1 H1 x1 s1 r1 => ?_
  cases z with
  | int i => cases h; exact ⟨i, r1, q m1 F1 H1 x1 s1⟩
  | _ => cases h
def cutD {α : Type} (xs : List α) (lo hi : Option Int) : List α := (xs.drop (HT.sIx xs.length 0 lo)).take (HT.sIx xs.length xs.length hi - HT.sIx xs.length 0 lo)
def gSl : D → Option Int → Option Int → Sto → Option (D × Sto)
  | .lst ds, lo, hi, S => some (.lst (cutD ds lo hi), S)
  | .scr ns, lo, hi, S => some (.lst ((cutD ns lo hi).map .int), S)
  | .tup ds, lo, hi, S => if HT.sIx ds.length 0 lo = 0 ∧ HT.sIx ds.length ds.length hi = ds.length then none else some (.tup (cutD ds lo hi), S)
  | .str z, lo, hi, S => if z.length ≤ 16777216 then some (.str (cutS z lo hi), S) else none
  | _, _, _, _ => none
def rSlAll (K : PySem.W.Frag) : V → Option Int → Option Int → Hp → VK → Prop := fun x lo hi H Q => rSlL K x lo hi H Q ∨ (rSlT K x lo hi H Q ∨ rSlS x lo hi H Q)
theorem sl_all : SlR X (rSlAll X.K) := sl_list.or (sl_tup.or sl_str)
def fSl (fa : FE) (lo hi : FO) : FE := fun env S => (fa env S).bind fun p => (lo env p.2).bind fun q => (hi env q.2).bind fun r => gSl p.1 q.1 r.1 r.2
theorem cutD_reps {K : PySem.W.Frag} {m : List Addr} {F : Hp} {ds : List D} {vs : List V} (r : Reps K ct m F ds vs) (lo hi : Option Int) : Reps K ct m F (cutD ds lo hi) (cutV vs lo hi) := by
  unfold cutD cutV
  rw [← r.length]
  exact (r.drop _).take _
theorem se_slice {lo hi : Option Expr} {fl fh : FO} {p2 pos : Pos} (he : SE ct X a fa) (hl : SO ct X lo fl) (hh : SO ct X hi fh) : SE ct X (.Subscript a (.Slice lo hi none p2) pos) (fSl fa fl fh) := by
  obtain ⟨ta, pa, ra⟩ := he
  obtain ⟨tb, pb, rb⟩ := hl
  obtain ⟨tc, pc, rc⟩ := hh
  refine ⟨_, pe_slice sl_all pa pb pc, fun m F S σ H env d S' Q s en h p => ?_⟩
  obtain ⟨⟨z, S1⟩, h1, h⟩ := bind_some h
  obtain ⟨⟨i, S2⟩, h2, h⟩ := bind_some h
  obtain ⟨⟨j, S3⟩, h3, h⟩ := bind_some h
  refine ra m F S σ H env z S1 _ s en h1 fun m1 F1 v1 H1 x1 s1 r1 => ?_
  refine rb m1 F1 S1 σ H1 env i S2 _ s1 (en.mono x1) h2 fun m2 F2 H2 x2 s2 => ?_
  refine rc m2 F2 S2 σ H2 env j S3 _ s2 ((en.mono x1).mono x2) h3 fun m3 F3 H3 x3 s3 => ?_
  have p3 := ((p.ext x1).ext x2).ext x3
  have r3 := (r1.mono x2).mono x3
  cases z with
  | lst ds =>
    cases h
    obtain ⟨q, vs, e1, e2, e3⟩ := r3
    refine .inl ⟨q, vs, e1, SqL.of (s3.same _ _ e2), fun w hw => ?_⟩
    obtain ⟨s4, x4⟩ := s3.frozen hw (.lst (cutV vs i j))
    exact p3 _ _ (.ref w) _ x4 s4 ⟨w, _, rfl, upd_same, (cutD_reps e3 i j).mono x4⟩
  | scr ns =>
    cases h
    obtain ⟨q, e1, e2⟩ := r3
    refine .inl ⟨q, _, e1, s3.same.seq e2, fun w hw => ?_⟩
    obtain ⟨s4, x4⟩ := s3.frozen hw (.lst (cutV (ns.map V.int) i j))
    refine p3 _ _ (.ref w) _ x4 s4 ⟨w, _, rfl, upd_same, ?_⟩
    have := cutD_reps (K := X.K) (ct := ct) (m := m3) (F := upd F3 w (.lst (cutV (ns.map V.int) i j))) (Reps.ints ns) i j
    have e : cutD (ns.map D.int) i j = (cutD ns i j).map D.int := by
      unfold cutD
      rw [List.length_map, List.map_take, List.map_drop]
    rw [e] at this
    exact this
  | tup ds =>
    have h : (if HT.sIx ds.length 0 i = 0 ∧ HT.sIx ds.length ds.length j = ds.length then none else some (D.tup (cutD ds i j), S3)) = some (d, S') := h
    split at h
    · cases h
    · rename_i hw
      cases h
      obtain ⟨q, vs, e1, e2, e3⟩ := r3
      refine .inr (.inl ⟨q, vs, e1, sqT_mono s3.same e2, by rw [← e3.length]; exact hw, fun w hw => ?_⟩)
      obtain ⟨s4, x4⟩ := s3.frozen hw (.tup (cutV vs i j))
      exact p3 _ _ (.ref w) _ x4 s4 ⟨w, _, rfl, SqT.of upd_same, (cutD_reps e3 i j).mono x4⟩
  | str z =>
    have h : (if z.length ≤ 16777216 then some (D.str (cutS z i j), S3) else none) = some (d, S') := h
    split at h
    · rename_i hl
      cases h
      exact .inr (.inr ⟨_, r3, by rw [line_eq]; exact hl, p3.now s3 rfl⟩)
    · cases h
  | _ => cases h
end
/-! ## what is walked -/
section
variable {ct : CT} {X : Cx} {tg a b c e : Expr} {es : List Expr} {fa fb fc f : FE} {fas : FA}
/-- a list -/
def iLst (f : FE) : FA := fun env S => (f env S).bind fun p => match p.1 with
  | .lst ds => some (ds, p.2)
  | _ => none
theorem si_list (h : SE ct X e f) : SI ct X tg e (iLst f) := by
  obtain ⟨ta, pa, ra⟩ := h
  refine ⟨_, pi_list pa, fun m F S σ H env items S' R s en h p => ?_⟩
  obtain ⟨⟨z, S1⟩, h1, h⟩ := bind_some h
  refine ra m F S σ H env z S1 _ s en h1 fun m1 F1 v1 H1 x1 s1 r1 => ?_
  cases z with
  | lst ds =>
    cases h
    obtain ⟨q, vs, e1, e2, e3⟩ := r1
    refine ⟨q, e1, ⟨vs, SqL.of (s1.same _ _ e2)⟩, p m1 F1 _ H1 x1 s1 fun i m2 F2 S2 H2 x2 s2 => ?_⟩
    have hq : SqL X.K H2 q vs := SqL.of (s2.same _ _ (x2.same _ _ e2))
    refine ⟨fun d hd => ?_, fun hl => ⟨vs, hq, by rw [← e3.length]; omega⟩⟩
    obtain ⟨v, g1, g2⟩ := e3.get hd
    refine ⟨⟨vs, v, hq, g1⟩, fun x H' y => ?_⟩
    obtain ⟨y1, y2⟩ := y
    subst y1
    have := y2 vs hq
    rw [g1] at this
    cases this
    exact ⟨F2, Ext.refl _ _ _, s2, g2.mono x2⟩
  | _ => cases h
/-- a tuple -/
def iTup (f : FE) : FA := fun env S => (f env S).bind fun p => match p.1 with
  | .tup ds => some (ds, p.2)
  | _ => none
theorem si_tup (h : SE ct X e f) : SI ct X tg e (iTup f) := by
  obtain ⟨ta, pa, ra⟩ := h
  refine ⟨_, pi_tup pa, fun m F S σ H env items S' R s en h p => ?_⟩
  obtain ⟨⟨z, S1⟩, h1, h⟩ := bind_some h
  refine ra m F S σ H env z S1 _ s en h1 fun m1 F1 v1 H1 x1 s1 r1 => ?_
  cases z with
  | tup ds =>
    cases h
    obtain ⟨q, vs, e1, e2, e3⟩ := r1
    refine ⟨q, e1, ⟨vs, sqT_mono s1.same e2⟩, p m1 F1 _ H1 x1 s1 fun i m2 F2 S2 H2 x2 s2 => ?_⟩
    have hq : SqT X.K H2 q vs := sqT_mono s2.same (sqT_mono x2.same e2)
    refine ⟨fun d hd => ?_, fun hl => ⟨vs, hq, by rw [← e3.length]; omega⟩⟩
    obtain ⟨v, g1, g2⟩ := e3.get hd
    refine ⟨⟨vs, v, hq, g1⟩, fun x H' y => ?_⟩
    obtain ⟨y1, y2⟩ := y
    subst y1
    have := y2 vs hq
    rw [g1] at this
    cases this
    exact ⟨F2, Ext.refl _ _ _, s2, g2.mono x2⟩
  | _ => cases h
/-- range(n), range(a, b) -/
def rangeD (lo hi : Int) : List D := (List.range (hi - lo).toNat).map fun (k : Nat) => D.int (lo + k)
def okR (i : Int) : Bool := decide (-4611686018427387904 ≤ i) && decide (i < 4611686018427387904)
def iRange1 (fas : FA) : FA := fun env S => (fas env S).bind fun p => match p.1 with
  | [.int j] => if okR j = true then some (rangeD 0 j, p.2) else none
  | _ => none
def iRange2 (fas : FA) : FA := fun env S => (fas env S).bind fun p => match p.1 with
  | [.int i, .int j] => if okR i = true ∧ okR j = true then some (rangeD i j, p.2) else none
  | _ => none
theorem itr_ok {K : PySem.W.Frag} {m0 : List Addr} {F0 H0 : Hp} (lo hi : Int) {n : Nat} (hn : n = (hi - lo).toNat) : ItOk ct K m0 F0 H0 (rangeD lo hi) (Itr lo n) := by
  subst hn
  intro i m F S H x s
  have hl : (rangeD lo hi).length = (hi - lo).toNat := by simp [rangeD]
  refine ⟨fun d hd => ?_, fun h => ?_⟩
  · have hi : i < (rangeD lo hi).length := (List.getElem?_eq_some_iff.mp hd).1
    rw [hl] at hi
    refine ⟨hi, fun v H' y => ?_⟩
    obtain ⟨y1, y2⟩ := y
    subst y1 y2
    refine ⟨F, Ext.refl _ _ _, s, ?_⟩
    have e : d = .int (lo + i) := by
      unfold rangeD at hd
      rw [List.getElem?_map, List.getElem?_range hi] at hd
      cases hd
      rfl
    subst e
    rfl
  · rw [hl] at h
    show _ ≤ i
    omega
theorem okR_ok {i : Int} (h : okR i = true) : -(2 ^ 62) ≤ i ∧ i < 2 ^ 62 := by
  simp only [okR, Bool.and_eq_true, decide_eq_true_eq] at h
  exact h
theorem si_range1 {p pos : Pos} (hg : Gl X "range") (hm : X.mg "range" = none) (h : SA ct X [a] fas) (hs : starEach [a] X.env = [(false, eval a X.env)] := by rfl) : SI ct X tg (.Call (.Name "range" p) [a] [] pos) (iRange1 fas) := by
  obtain ⟨ta, pa, ra⟩ := h
  refine ⟨_, pi_range1 hg hm pa hs, fun m F S σ H env items S' R s en h p => ?_⟩
  obtain ⟨⟨zs, S1⟩, h1, h⟩ := bind_some h
  refine ra m F S σ H env zs S1 _ s en h1 fun m1 F1 vs H1 x1 s1 r1 => ?_
  split at h
  · rename_i j hz
    have hz : zs = _ := hz
    subst hz
    split at h
    · rename_i hj
      cases h
      obtain ⟨v, e1, e2⟩ := reps1 r1
      have e2 : v = _ := e2
      subst e2
      exact ⟨j, e1, (okR_ok hj).1, (okR_ok hj).2, p m1 F1 _ H1 x1 s1 (itr_ok 0 j (by simp))⟩
    · cases h
  · cases h
theorem si_range2 {p pos : Pos} (hg : Gl X "range") (hm : X.mg "range" = none) (h : SA ct X [a, b] fas) (hs : starEach [a, b] X.env = [(false, eval a X.env), (false, eval b X.env)] := by rfl) (hs2 : starEach [b] X.env = [(false, eval b X.env)] := by rfl) : SI ct X tg (.Call (.Name "range" p) [a, b] [] pos) (iRange2 fas) := by
  obtain ⟨ta, pa, ra⟩ := h
  refine ⟨_, pi_range2 hg hm pa hs hs2, fun m F S σ H env items S' R s en h p => ?_⟩
  obtain ⟨⟨zs, S1⟩, h1, h⟩ := bind_some h
  refine ra m F S σ H env zs S1 _ s en h1 fun m1 F1 vs H1 x1 s1 r1 => ?_
  split at h
  · rename_i i j hz
    have hz : zs = _ := hz
    subst hz
    split at h
    · rename_i hj
      cases h
      obtain ⟨v, u, e1, e2, e3⟩ := reps2 r1
      have e2 : v = _ := e2
      have e3 : u = _ := e3
      subst e2 e3
      exact ⟨i, j, e1, ⟨(okR_ok hj.1).1, (okR_ok hj.1).2, (okR_ok hj.2).1, (okR_ok hj.2).2⟩, p m1 F1 _ H1 x1 s1 (itr_ok i j rfl)⟩
    · cases h
  · cases h
/-- the signs of a text -/
def iStrD (f : FE) : FA := fun env S => (f env S).bind fun p => match p.1 with
  | .str x => some (x.cps.toList.map fun c => D.str ⟨#[c]⟩, p.2)
  | _ => none
theorem si_str (h : SE ct X e f) : SI ct X tg e (iStrD f) := by
  obtain ⟨ta, pa, ra⟩ := h
  refine ⟨_, pi_str pa, fun m F S σ H env items S' R s en h p => ?_⟩
  obtain ⟨⟨z, S1⟩, h1, h⟩ := bind_some h
  refine ra m F S σ H env z S1 _ s en h1 fun m1 F1 v1 H1 x1 s1 r1 => ?_
  cases z with
  | str x =>
    cases h
    refine ⟨x, r1, p m1 F1 _ H1 x1 s1 fun i m2 F2 S2 H2 x2 s2 => ?_⟩
    refine ⟨fun d hd => ?_, fun hl => ?_⟩
    · rw [List.getElem?_map] at hd
      obtain ⟨c, hc, e⟩ := map_some hd
      subst e
      have hc' : x.cps[i]? = some c := by simpa using hc
      refine ⟨by
        have := (List.getElem?_eq_some_iff.mp hc).1
        show i < x.cps.size
        simpa using this, fun v H' y => ?_⟩
      obtain ⟨y1, c', y2, y3⟩ := y
      subst y1 y3
      rw [hc'] at y2
      cases y2
      exact ⟨F2, Ext.refl _ _ _, s2, rfl⟩
    · show _ ≤ i
      simp at hl
      omega
  | _ => cases h
end
end DL

namespace DL
open PySem PySem.Spec PyProof.Rows L2
/-! ## one reading for each denotation -/
def tE (ct : CT) (K : PySem.W.Frag) (f : FE) : TE := fun σ H Q => ∃ m F S env d S', Sim K ct m F S H ∧ EnvR K ct m F env σ ∧ f env S = some (d, S') ∧ PostE ct K m F H S' d Q
def tT (ct : CT) (K : PySem.W.Frag) (f : FT) : TT := fun σ H Q => ∃ m F S env b S', Sim K ct m F S H ∧ EnvR K ct m F env σ ∧ f env S = some (b, S') ∧ PostT ct K m F H S' b Q
theorem SE.pe {ct : CT} {X : Cx} {e : Expr} {f : FE} (h : SE ct X e f) : PE X e (tE ct X.K f) := by
  obtain ⟨t, p, r⟩ := h
  exact ⟨fun pins s σ H Q I ⟨m, F, S, env, d, S', s1, en, h1, p1⟩ => p.run pins s σ H Q I (r m F S σ H env d S' Q s1 en h1 p1)⟩
def STs (ct : CT) (X : Cx) (ifs : List Expr) (f : FT) : Prop := ∃ t, PTs X ifs t ∧ ∀ m F S σ H env b S' Q, Sim X.K ct m F S H → EnvR X.K ct m F env σ → f env S = some (b, S') → PostT ct X.K m F H S' b Q → t σ H Q
theorem STs.pt {ct : CT} {X : Cx} {es : List Expr} {f : FT} (h : STs ct X es f) : PTs X es (tT ct X.K f) := by
  obtain ⟨t, p, r⟩ := h
  exact ⟨fun pins s σ H Q I ⟨m, F, S, env, d, S', s1, en, h1, p1⟩ => p.run pins s σ H Q I (r m F S σ H env d S' Q s1 en h1 p1)⟩
def tYesD : FT := fun _ S => some (true, S)
theorem sts_nil {ct : CT} {X : Cx} : STs ct X [] tYesD := ⟨_, pts_nil, fun m F S σ H env b S' Q s en h p => by
  cases h
  exact p m F H (Ext.refl _ _ _) s⟩
theorem sts_one {ct : CT} {X : Cx} {e : Expr} {f : FT} (h : ST ct X e f) : STs ct X [e] f := by
  obtain ⟨t, p, r⟩ := h
  exact ⟨t, pts_one p, r⟩
/-! ## targets of a comprehension -/
def SGw (ct : CT) (X : Cx) (vs : List Nat) (tg : Expr) (g : FG) : Prop := ∃ t, PG X tg t ∧ ∀ m F S σ H env d v env' S' Q, Sim X.K ct m F S H → EnvR X.K ct m F env σ → Rep X.K ct m F d v → g d env S = some (env', S') →
  (∀ m' F' σ' H', Ext m F H m' F' H' → Sim X.K ct m' F' S' H' → EnvR X.K ct m' F' env' σ' → wipe σ' vs = wipe σ vs → Q σ' H') → t v σ H Q
def SGws (ct : CT) (X : Cx) (vs : List Nat) (tgs : List Expr) (g : FGs) : Prop := ∃ t, PGs X tgs t ∧ ∀ m F S σ H env ds us env' S' Q, Sim X.K ct m F S H → EnvR X.K ct m F env σ → Reps X.K ct m F ds us → g ds env S = some (env', S') →
  (∀ m' F' σ' H', Ext m F H m' F' H' → Sim X.K ct m' F' S' H' → EnvR X.K ct m' F' env' σ' → wipe σ' vs = wipe σ vs → Q σ' H') → t us σ H Q
def tGw (ct : CT) (K : PySem.W.Frag) (vs : List Nat) (g : FG) : TG := fun v σ H Q => ∃ m F S env d env' S', Sim K ct m F S H ∧ EnvR K ct m F env σ ∧ Rep K ct m F d v ∧ g d env S = some (env', S') ∧
  (∀ m' F' σ' H', Ext m F H m' F' H' → Sim K ct m' F' S' H' → EnvR K ct m' F' env' σ' → wipe σ' vs = wipe σ vs → Q σ' H')
theorem SGw.pg {ct : CT} {X : Cx} {vs : List Nat} {tg : Expr} {g : FG} (h : SGw ct X vs tg g) : PG X tg (tGw ct X.K vs g) := by
  obtain ⟨t, p, r⟩ := h
  exact ⟨fun pins s σ H v u Q I rv ⟨m, F, S, env, d, env', S', s1, en, rp, h1, p1⟩ => p.run pins s σ H v u Q I rv (r m F S σ H env d v env' S' Q s1 en rp h1 p1)⟩
theorem set_comm' {α : Type} (l : List α) {i j : Nat} (h : i ≠ j) (a b : α) : (l.set i a).set j b = (l.set j b).set i a := List.set_comm a b h
theorem wipe_out_set {σ : L2.St} {i : Nat} {x : Option V} : ∀ {vs : List Nat}, i ∉ vs → wipe (σ.set i x) vs = (wipe σ vs).set i x
  | [], _ => rfl
  | v :: vs, h => by
    have h1 : i ≠ v := fun e => h (by simp [e])
    have h2 : i ∉ vs := fun e => h (by simp [e])
    unfold wipe
    rw [wipe_out_set h2, set_comm' _ h1]
theorem wipe_set {σ : L2.St} {i : Nat} {x : Option V} : ∀ {vs : List Nat}, i ∈ vs → wipe (σ.set i x) vs = wipe σ vs
  | [], h => by cases h
  | v :: vs, h => by
    unfold wipe
    by_cases hi : i ∈ vs
    · rw [wipe_set hi]
    · have e : i = v := by simpa [hi] using h
      subst e
      rw [wipe_out_set hi, List.set_set]
theorem wipe_idem_sub {σ : L2.St} {us : List Nat} : ∀ {vs : List Nat}, (∀ v ∈ vs, v ∈ us) → wipe (wipe σ vs) us = wipe σ us
  | [], _ => rfl
  | v :: vs, h => by
    show wipe ((wipe σ vs).set v none) us = wipe σ us
    rw [wipe_set (h v (by simp)), wipe_idem_sub fun w hw => h w (by simp [hw])]
theorem wipe_idem {σ : L2.St} {vs : List Nat} : wipe (wipe σ vs) vs = wipe σ vs := wipe_idem_sub fun _ h => h
def wipeD (env : DEnv) : List Nat → DEnv
  | [] => env
  | v :: vs => (wipeD env vs).set v none
theorem EnvR.unset {K : PySem.W.Frag} {ct : CT} {m : List Addr} {F : Hp} {env : DEnv} {σ : L2.St} (h : EnvR K ct m F env σ) (i : Nat) : EnvR K ct m F (env.set i none) (σ.set i none) := by
  refine ⟨by simp [h.1], fun j e hj => ?_⟩
  by_cases e1 : i = j
  · subst e1
    have hl : i < env.length := by
      have := (List.getElem?_eq_some_iff.mp hj).1
      simpa using this
    rw [List.getElem?_set_self hl] at hj
    cases hj
  · rw [List.getElem?_set_ne e1] at hj
    rw [List.getElem?_set_ne e1]
    exact h.2 j e hj
theorem EnvR.wipe {K : PySem.W.Frag} {ct : CT} {m : List Addr} {F : Hp} {env : DEnv} {σ : L2.St} (h : EnvR K ct m F env σ) : ∀ vs : List Nat, EnvR K ct m F (wipeD env vs) (L2.wipe σ vs)
  | [] => h
  | v :: vs => (EnvR.wipe h vs).unset v
section
variable {ct : CT} {X : Cx} {pos : Pos}
theorem sgw_name {vs : List Nat} {i : Nat} {x : Str} (hN : X.N.Nodup) (hi : X.N[i]? = some x) (hx : Loc X.env.scope x) (hv : i ∈ vs) (hf : X.fn x = true ∨ X.env.scope.names.lookup x = some .local := by first | exact .inl rfl | exact .inr rfl | assumption) : SGw ct X vs (.Name x pos) (gN i) :=
  ⟨_, pg_name hN hi hx hf, fun m F S σ H env d v env' S' Q s en r h q => by
    cases h
    exact q m F _ H (Ext.refl _ _ _) s (en.set i r) (wipe_set hv)⟩
theorem sgws_nil {vs : List Nat} : SGws ct X vs [] gNil := ⟨_, pgs_nil, fun m F S σ H env ds us env' S' Q s en r h q => by
  cases ds with
  | nil =>
    cases h
    exact ⟨r, q m F _ H (Ext.refl _ _ _) s en rfl⟩
  | cons _ _ => cases h⟩
theorem sgws_cons {vs : List Nat} {t : Expr} {ts : List Expr} {g : FG} {gs : FGs} (h1 : SGw ct X vs t g) (h2 : SGws ct X vs ts gs) (hs : (assignEach (t :: ts) X.env).map (·.2) = assign t X.env :: (assignEach ts X.env).map (·.2) := by rfl) : SGws ct X vs (t :: ts) (gCons g gs) := by
  obtain ⟨ta, pa, ra⟩ := h1
  obtain ⟨tb, pb, rb⟩ := h2
  refine ⟨_, pgs_cons pa pb hs, fun m F S σ H env ds us env' S' Q s en r h q => ?_⟩
  cases ds with
  | nil => cases h
  | cons d dr =>
    obtain ⟨⟨env1, S1⟩, h1, h⟩ := bind_some h
    obtain ⟨v, vr, e1, r1, r2⟩ := r
    refine ⟨v, vr, e1, ra m F S σ H env d v env1 S1 _ s en r1 h1 fun m1 F1 σ1 H1 x1 s1 en1 w1 => ?_⟩
    exact rb m1 F1 S1 σ1 H1 env1 dr vr env' S' Q s1 en1 (r2.mono x1) h fun m2 F2 σ2 H2 x2 s2 en2 w2 => q m2 F2 σ2 H2 (x1.trans x2) s2 en2 (w2.trans w1)
theorem sgw_tup {vs : List Nat} {ts : List Expr} {k n : Nat} {gs : FGs} (hc : X.calm = true) (h : SGws ct X vs ts gs) (hn : (assignEach ts X.env).length = n := by rfl) (hst : (assignEach ts X.env).findIdx? (·.1) = none := by rfl) : SGw ct X vs (.Tuple ts k pos) (gTup n gs) := by
  obtain ⟨ta, pa, ra⟩ := h
  refine ⟨_, pg_tup hc pa hn hst, fun m F S σ H env d v env' S' Q s en r h q => ?_⟩
  cases d with
  | tup ds =>
    obtain ⟨a, us, e1, e2, e3⟩ := r
    by_cases hl : ds.length = n
    · have h : (if ds.length = n then gs ds env S else none) = some (env', S') := h
      rw [if_pos hl] at h
      exact ⟨a, us, e1, sqT_mono s.same e2, by rw [← e3.length]; exact hl, ra m F S σ H env ds us env' S' Q s en e3 h q⟩
    · have h : (if ds.length = n then gs ds env S else none) = some (env', S') := h
      rw [if_neg hl] at h
      cases h
  | _ => cases h
end
/-! ## hidden objects -/
section
variable {K : PySem.W.Frag} {ct : CT} {m m' m0 : List Addr} {F F' H H' F0 H0 : Hp} {S : Sto} {L : Addr} {o u : HO}
theorem Ext.hid (x : Ext m F H m' F' H') (h : H L = some o) (n : L ∉ m) (f : F L = none) : H' L = some o ∧ L ∉ m' ∧ F' L = none := by
  refine ⟨x.keep _ _ h n, fun hm => ?_, ?_⟩
  · rcases x.new _ hm with q | q
    · exact n q
    · rw [h] at q; cases q
  · cases e : F' L with
    | none => rfl
    | some z =>
      rcases x.fnew _ _ e with q | q
      · rw [f] at q; cases q
      · rw [h] at q; cases q
theorem Sim.hidden (s : Sim K ct m F S H) (n : L ∉ m) (f : F L = none) (o : HO) : Sim K ct m F S (upd H L o) := by
  refine ⟨fun b z h => ?_, s.len, s.nd, s.off, fun i a c h1 h2 => ?_⟩
  · have nb : b ≠ L := fun e => by rw [e, f] at h; cases h
    rw [upd_ne nb]; exact s.same _ _ h
  · have hm : a ∈ m := List.mem_iff_getElem?.mpr ⟨i, h1⟩
    have na : a ≠ L := fun e => n (e ▸ hm)
    rw [upd_ne na]; exact s.cell i a c h1 h2
theorem Ext.put (x : Ext m0 F0 H0 m F H) (h : H0 L = none) (o : HO) : Ext m0 F0 H0 m F (upd H L o) := by
  refine ⟨x.pre, x.same, fun b z q n => ?_, x.new, x.fnew, fun b z q => ?_⟩
  · rw [upd_ne (ne_of_none q h)]; exact x.keep b z q n
  · rw [upd_ne (ne_of_none q h)]; exact x.grow b z q
theorem CellR.mono' {o : Option HO} {c : Cell} (h : CellR K ct m F o c) (hp : ∀ (i : Nat) (a : Addr), m[i]? = some a → m'[i]? = some a) (e : Same F F') : CellR K ct m' F' o c := by
  cases c with
  | lst ds => obtain ⟨vs, e1, e2⟩ := h; exact ⟨vs, e1, Reps.mono' hp e _ _ e2⟩
  | dct kvs => obtain ⟨vs, e1, e2⟩ := h; exact ⟨vs, e1, Paired.mapP e2 fun p q z => ⟨z.1, Rep.mono' hp e _ _ z.2⟩⟩
  | ins c fs ds => obtain ⟨C, dx, vs, e1, e4, e3, e2⟩ := h; exact ⟨C, dx, vs, e1, e4, e3, Reps.mono' hp e _ _ e2⟩
theorem same_upd (f : F L = none) (o : HO) : Same F (upd F L o) := fun b z q => by
  have nb : b ≠ L := fun e => by rw [e, f] at q; cases q
  rw [upd_ne nb]; exact q
theorem Sim.freeze (s : Sim K ct m F S H) (n : L ∉ m) (f : F L = none) (h : H L = some o) : Sim K ct m (upd F L o) S H := by
  refine ⟨fun b z q => ?_, s.len, s.nd, fun a ha => ?_, fun i a c h1 h2 => (s.cell i a c h1 h2).mono' (fun _ _ q => q) (same_upd f o)⟩
  · by_cases hb : b = L
    · rw [hb, upd_same] at q; rw [hb, h]; exact q
    · rw [upd_ne hb] at q; exact s.same _ _ q
  · have na : a ≠ L := fun e => n (e ▸ ha)
    rw [upd_ne na]; exact s.off a ha
theorem Ext.freeze (x : Ext m0 F0 H0 m F H) (h : H0 L = none) (f : F L = none) (o : HO) : Ext m0 F0 H0 m (upd F L o) H := by
  refine ⟨x.pre, x.same.trans (same_upd f o), x.keep, x.new, fun b z q => ?_, x.grow⟩
  by_cases hb : b = L
  · rw [hb]; exact .inr h
  · rw [upd_ne hb] at q; exact x.fnew b z q
end
/-! ## list comprehensions -/
def lcD (g : FG) (t : FT) (f : FE) (env : DEnv) : List D → Sto → Option (List D × Sto)
  | [], S => some ([], S)
  | x :: xs, S => (g x env S).bind fun p => (t p.1 p.2).bind fun b => if b.1 = true then (f p.1 b.2).bind fun y => (lcD g t f env xs y.2).bind fun r => some (y.1 :: r.1, r.2) else lcD g t f env xs b.2
def fLc (fi : FA) (g : FG) (t : FT) (f : FE) (vs : List Nat) : FE := fun env S => (fi env S).bind fun p => if p.1.length ≤ 1000000 then (lcD g t f (wipeD env vs) p.1 p.2).bind fun r => some (.lst r.1, r.2) else none
section
variable {ct : CT} {X : Cx}
theorem lc_run {fi : FA} {g : FG} {gt : FT} {fe : FE} {wi : TI} {own : List Nat} {m : List Addr} {F H : Hp} {S S' : Sto} {σ : L2.St} {env : DEnv} {d : D} {Q : VK}
    (ri : ∀ m F S σ H env items S' R, Sim X.K ct m F S H → EnvR X.K ct m F env σ → fi env S = some (items, S') → (∀ m' F' J H', Ext m F H m' F' H' → Sim X.K ct m' F' S' H' → ItOk ct X.K m' F' H' items J → R J H') → wi σ H R)
    (s : Sim X.K ct m F S H) (en : EnvR X.K ct m F env σ) (h : fLc fi g gt fe own env S = some (d, S')) (p : PostE ct X.K m F H S' d Q) :
    tLc wi (tGw ct X.K own g) (tT ct X.K gt) (tE ct X.K fe) own σ H Q := by
  obtain ⟨⟨items, S1⟩, h1, h⟩ := bind_some h
  split at h
  case isFalse => cases h
  rename_i hlen
  have hlen : items.length ≤ 1000000 := hlen
  obtain ⟨⟨out, S9⟩, h2, h⟩ := bind_some h
  cases h
  refine ri m F S σ H env items S1 _ s en h1 fun m1 F1 J H1 x1 s1 ok => fun L hL => ?_
  have nL1 : L ∉ m1 := fun hm => by
    obtain ⟨o, q⟩ := s1.there hm
    rw [hL] at q; cases q
  have fL1 : F1 L = none := by
    cases e : F1 L with
    | none => rfl
    | some o => rw [s1.same _ _ e] at hL; cases hL
  refine ⟨fun i k H' => k = items.length - i ∧ i ≤ items.length ∧ ∃ m' F' S2 accV accD rest, Ext m1 F1 H1 m' F' H' ∧ Sim X.K ct m' F' S2 H' ∧ H' L = some (.lst accV) ∧ L ∉ m' ∧ F' L = none ∧ Reps X.K ct m' F' accD accV ∧ accD.length ≤ i ∧
      lcD g gt fe (wipeD env own) (items.drop i) S2 = some (rest, S9) ∧ out = accD ++ rest,
    ⟨_, rfl, Nat.zero_le _, m1, F1, S1, [], [], out, (Ext.refl _ _ _).put hL _, s1.hidden nL1 fL1 _, upd_same, nL1, fL1, rfl, Nat.le_refl _, h2, rfl⟩, ?_⟩
  rintro i k H' ⟨rfl, hle, m', F', S2, accV, accD, rest, x', s', hH, nL, fL, rp, hal, hlc, eo⟩
  have en' : EnvR X.K ct m' F' (wipeD env own) (wipe σ own) := ((en.mono x1).mono x').wipe own
  have okk : (∀ d, items[i]? = some d → J.go i H' ∧ ∀ x H1, J.yld i H' x H1 → ∃ F1, Ext m' F' H' m' F1 H1 ∧ Sim X.K ct m' F1 S2 H1 ∧ Rep X.K ct m' F1 d x) ∧ (items.length = i → J.stop i H') := ok i m' F' S2 H' x' s'
  cases hd : items.drop i with
  | nil =>
    rw [hd] at hlc
    cases hlc
    have hl : items.length = i := by
      have := congrArg List.length hd
      simp at this
      omega
    refine .inl ⟨okk.2 hl, p m' (upd F' L (.lst accV)) (.ref L) H' (x1.trans (x'.freeze hL fL _)) (s'.freeze nL fL hH) ⟨L, accV, rfl, upd_same, ?_⟩⟩
    rw [eo, List.append_nil]
    exact Reps.mono' (fun _ _ q => q) (same_upd fL _) _ _ rp
  | cons a r =>
    rw [hd] at hlc
    obtain ⟨q1, q2⟩ := drop_cons hd
    have hlt : i < items.length := (List.getElem?_eq_some_iff.mp q1).1
    obtain ⟨go, yl⟩ := okk.1 a q1
    obtain ⟨⟨env1, S3⟩, h3, hlc⟩ := bind_some hlc
    obtain ⟨⟨b4, S4⟩, h4, hlc⟩ := bind_some hlc
    refine .inr ⟨go, fun H5 => ∃ m5 F5 S5 accV accD rest, Ext m1 F1 H1 m5 F5 H5 ∧ Sim X.K ct m5 F5 S5 H5 ∧ H5 L = some (.lst accV) ∧ L ∉ m5 ∧ F5 L = none ∧ Reps X.K ct m5 F5 accD accV ∧ accD.length ≤ i + 1 ∧
      lcD g gt fe (wipeD env own) (items.drop (i + 1)) S5 = some (rest, S9) ∧ out = accD ++ rest, fun H5 w => ⟨items.length - (i + 1), by omega, rfl, hlt, w⟩, fun x H5 y => ?_⟩
    obtain ⟨F5, x5, s5, r5⟩ := yl x H5 y
    obtain ⟨hH5, nL5, fL5⟩ := x5.hid hH nL fL
    refine ⟨m', F5, S2, wipeD env own, a, env1, S3, s5, en'.mono x5, r5, h3, fun m6 F6 σ6 H6 x6 s6 en6 w6 => ⟨by rw [w6]; exact wipe_idem, ?_⟩⟩
    obtain ⟨hH6, nL6, fL6⟩ := x6.hid hH5 nL5 fL5
    refine ⟨m6, F6, S3, env1, b4, S4, s6, en6, h4, fun m7 F7 H7 x7 s7 => ?_⟩
    obtain ⟨hH7, nL7, fL7⟩ := x7.hid hH6 nL6 fL6
    have xx : Ext m1 F1 H1 m7 F7 H7 := ((x'.trans x5).trans x6).trans x7
    have rp7 : Reps X.K ct m7 F7 accD accV := ((rp.mono x5).mono x6).mono x7
    cases b4 with
    | false =>
      refine iteF ⟨m7, F7, S4, accV, accD, rest, xx, s7, hH7, nL7, fL7, rp7, by omega, ?_, eo⟩
      rw [q2]
      exact hlc
    | true =>
      obtain ⟨⟨y8, S8⟩, h8, hlc⟩ := bind_some (show (fe env1 S4).bind _ = _ from hlc)
      obtain ⟨⟨r9, S10⟩, h9, hlc⟩ := bind_some hlc
      cases hlc
      refine iteT ⟨m7, F7, S4, env1, y8, S8, s7, en6.mono x7, h8, fun m8 F8 v8 H8 x8 s8 r8 => ?_⟩
      obtain ⟨hH8, nL8, fL8⟩ := x8.hid hH7 nL7 fL7
      refine ⟨accV, hH8, ?_, m8, F8, S8, accV ++ [v8], accD ++ [y8], r9, (xx.trans x8).put hL _, s8.hidden nL8 fL8 _, upd_same, nL8, fL8, (rp7.mono x8).snoc r8, by simp; omega, ?_, by rw [eo, List.append_assoc]; rfl⟩
      · rw [← rp.length, line_eq]
        omega
      · rw [q2]
        exact h9
theorem se_lc {elt tg iter : Expr} {ifs : List Expr} {scope : Scope} {own : List (Str × Nat)} {pos : Pos} {fi : FA} {g : FG} {gt : FT} {fe : FE} (hc : X.calm = true) (hN : X.N.Nodup) (hi : SI ct X tg iter fi) (ok : BlkOk X.N X.env.scope scope own)
    (hg : ∀ (s : Shared) (H : Hp) (C : Addr) (cl : List (Str × Addr)) (fp : List Addr), SGw ct (X.blk s H scope (compEnvC scope cl C X.env) fp) (own.map (·.2)) tg g) (ht : ∀ (s : Shared) (H : Hp) (C : Addr) (cl : List (Str × Addr)) (fp : List Addr), STs ct (X.blk s H scope (compEnvC scope cl C X.env) fp) ifs gt)
    (he : ∀ (s : Shared) (H : Hp) (C : Addr) (cl : List (Str × Addr)) (fp : List Addr), SE ct (X.blk s H scope (compEnvC scope cl C X.env) fp) elt fe) (hs : ∀ x, foldedSetIterable iter X.env x = pure x := by intro _; rfl) :
    SE ct X (.ListComp elt [⟨tg, iter, ifs, 0⟩] scope pos) (fLc fi g gt fe (own.map (·.2))) := by
  obtain ⟨wi, pi, ri⟩ := hi
  exact ⟨_, pe_lc (g := tGw ct X.K (own.map (·.2)) g) (tt := tT ct X.K gt) (te := tE ct X.K fe) hc hN pi ok (fun s H C cl fp => (hg s H C cl fp).pg) (fun s H C cl fp => (ht s H C cl fp).pt) (fun s H C cl fp => (he s H C cl fp).pe) hs, fun m F S σ H env d S' Q s en h p => lc_run ri s en h p⟩
theorem ss_setLc {i : Nat} {y : Str} {py : Pos} {elt tg iter : Expr} {ifs : List Expr} {scope : Scope} {own : List (Str × Nat)} {pos spos : Pos} {fi : FA} {g : FG} {gt : FT} {fe : FE} (hc : X.calm = true) (hN : X.N.Nodup) (hy : X.N[i]? = some y) (hyl : X.env.scope.names.lookup y = some .local)
    (hsw : swapsWith (.ListComp elt [⟨tg, iter, ifs, 0⟩] scope pos) (some (.Name y py)) spos.line X.env = pure true) (hi : SI ct X tg iter fi) (ok : BlkOk X.N X.env.scope scope own)
    (hg : ∀ (s : Shared) (H : Hp) (C : Addr) (cl : List (Str × Addr)) (fp : List Addr), SGw ct (X.blk s H scope (compEnvC scope cl C X.env) fp) (own.map (·.2)) tg g) (ht : ∀ (s : Shared) (H : Hp) (C : Addr) (cl : List (Str × Addr)) (fp : List Addr), STs ct (X.blk s H scope (compEnvC scope cl C X.env) fp) ifs gt)
    (he : ∀ (s : Shared) (H : Hp) (C : Addr) (cl : List (Str × Addr)) (fp : List Addr), SE ct (X.blk s H scope (compEnvC scope cl C X.env) fp) elt fe) (hs : ∀ x, foldedSetIterable iter X.env x = pure x := by intro _; rfl) :
    SS ct X (.Assign [.Name y py] (.ListComp elt [⟨tg, iter, ifs, 0⟩] scope pos) spos) (sAsg (fLc fi g gt fe (own.map (·.2))) (gN i)) := by
  obtain ⟨wi, pi, ri⟩ := hi
  refine ⟨_, ps_setLc (g := tGw ct X.K (own.map (·.2)) g) (tt := tT ct X.K gt) (te := tE ct X.K fe) hc hN hy hyl hsw pi ok (fun s H C cl fp => (hg s H C cl fp).pg) (fun s H C cl fp => (ht s H C cl fp).pt) (fun s H C cl fp => (he s H C cl fp).pe) hs, fun m F S σ H env fl S' E s en h p => ?_⟩
  obtain ⟨⟨x, S1⟩, h1, h⟩ := bind_some h
  cases h
  exact lc_run ri s en h1 fun m1 F1 v1 H1 x1 s1 r1 => p m1 F1 _ H1 x1 s1 ((en.mono x1).set i r1)
end
end DL

namespace DL
open PySem PySem.Spec PyProof.Rows L2
/-! ## dicts: cells -/
def valA {α : Type} (kvs : List (Key × α)) (k : Key) : Option α := (kvs.find? fun kv => decide (kv.1 = k)).map (·.2)
def putA {α : Type} (kvs : List (Key × α)) (k : Key) (v : α) : List (Key × α) :=
  if (kvs.any fun kv => decide (kv.1 = k)) = true then kvs.map fun kv => if kv.1 = k then (kv.1, v) else kv else kvs ++ [(k, v)]
def toKey : D → Option Key
  | .int i => some (.inl i)
  | .str x => some (.inr x)
  | _ => none
section
variable {ct : CT} {K : PySem.W.Frag} {m : List Addr} {F : Hp}
abbrev PR (K : PySem.W.Frag) (ct : CT) (m : List Addr) (F : Hp) : List (Key × D) → List (Key × V) → Prop := Paired fun (p : Key × D) (q : Key × V) => p.1 = q.1 ∧ Rep K ct m F p.2 q.2
theorem Rep.key {d : D} {v : V} {k : Key} (r : Rep K ct m F d v) (h : toKey d = some k) : v = kV k := by
  cases d with
  | int i => cases h; exact r
  | str x => cases h; exact r
  | _ => cases h
theorem PR.any {kvs : List (Key × D)} {us : List (Key × V)} (r : PR K ct m F kvs us) (k : Key) : (kvs.any fun kv => decide (kv.1 = k)) = us.any fun kv => decide (kv.1 = k) := by
  induction r with
  | nil => rfl
  | cons h _ ih => simp only [List.any_cons, ih, h.1]
theorem PR.val {kvs : List (Key × D)} {us : List (Key × V)} (r : PR K ct m F kvs us) (k : Key) : (∀ d, valA kvs k = some d → ∃ v, valV us k = some v ∧ Rep K ct m F d v) ∧ (valA kvs k = none → valV us k = none) := by
  induction r with
  | nil => exact ⟨fun d h => (by cases h), fun _ => rfl⟩
  | @cons p q l1 l2 h t ih =>
    by_cases e : p.1 = k
    · have e' : q.1 = k := h.1 ▸ e
      refine ⟨fun d hd => ⟨q.2, valV_pos e', ?_⟩, fun hd => ?_⟩
      · simp [valA, List.find?_cons, e] at hd
        subst hd
        exact h.2
      · simp [valA, List.find?_cons, e] at hd
    · have e' : ¬ q.1 = k := h.1 ▸ e
      have e2 : valA (p :: l1) k = valA l1 k := by simp [valA, List.find?_cons, e]
      rw [e2, valV_neg e']
      exact ih
theorem PR.repl {kvs : List (Key × D)} {us : List (Key × V)} (r : PR K ct m F kvs us) (k : Key) {d : D} {v : V} (rv : Rep K ct m F d v) : PR K ct m F (kvs.map fun kv => if kv.1 = k then (kv.1, d) else kv) (us.map fun kv => if kv.1 = k then (kv.1, v) else kv) := by
  induction r with
  | nil => exact .nil
  | @cons p q l1 l2 h t ih =>
    refine .cons ?_ ih
    by_cases e : p.1 = k
    · have e' : q.1 = k := h.1 ▸ e
      dsimp only
      rw [if_pos e, if_pos e']
      exact ⟨h.1, rv⟩
    · have e' : ¬ q.1 = k := h.1 ▸ e
      dsimp only
      rw [if_neg e, if_neg e']
      exact h
theorem PR.put {kvs : List (Key × D)} {us : List (Key × V)} (r : PR K ct m F kvs us) (k : Key) {d : D} {v : V} (rv : Rep K ct m F d v) : PR K ct m F (putA kvs k d) (putK us k v) := by
  unfold putA putK
  rw [PR.any r k]
  split
  · exact PR.repl r k rv
  · exact Paired.snoc r ⟨rfl, rv⟩
theorem PR.length {kvs : List (Key × D)} {us : List (Key × V)} (r : PR K ct m F kvs us) : kvs.length = us.length := Paired.length r
end
section
variable {ct : CT} {X : Cx} {a b c e o : Expr} {es : List Expr} {fa fb fc f : FE} {fas : FA}
/-- o[k] = v: a list's or a dict's cell -/
def gSetA : D → D → D → Sto → Option Sto
  | .ref k, i, v, S => match S[k]? with
    | some (.lst ds) => match i with
      | .int i => (ixN ds.length i).map fun j => S.set k (.lst (ds.set j v))
      | _ => none
    | some (.dct kvs) => if kvs.length ≤ 1000000 then (toKey i).map fun x => S.set k (.dct (putA kvs x v)) else none
    | _ => none
  | _, _, _, _ => none
def rSetA : TSet := fun o i v H Q => rSetL o i v H Q ∨ ∃ a H', o = .ref a ∧ DPut H a i v H' ∧ Q H'
theorem set_all {k : Nat} (hr : Room k X.A) : PSet X rSetA := by
  intro pins s σ H o i v ov iv u Q I r1 r2 r3 h
  rcases h with h | ⟨a, H', rfl, h, q⟩
  · exact set_list pins s σ H o i v ov iv u Q I r1 r2 r3 h
  · cases (show ov = Value.ref a from r1)
    exact d_setItem (hu_of hr) I h r2 r3 fun s' I' => ⟨H', I', q⟩
theorem sd_all {K : PySem.W.Frag} : SetD ct K rSetA gSetA := by
  intro m F S H o i v d1 d2 d3 S' Q s r1 r2 r3 h q
  cases d1 with
  | ref k =>
    obtain ⟨a, e1, e2⟩ := r1
    obtain ⟨c, hc, cr⟩ := s.at e1
    cases c with
    | lst ds =>
      cases d2 with
      | int j0 =>
        have h : (ixN ds.length j0).map (fun j => S.set k (.lst (ds.set j d3))) = some S' := by simpa only [gSetA, hc] using h
        obtain ⟨j, h1, h2⟩ := map_some h
        subst h2
        obtain ⟨vs, q1, q2⟩ := cr
        obtain ⟨s2, x2⟩ := s.change e1 (o := .lst (vs.set j v)) (c := .lst (ds.set j d3)) ⟨_, rfl, q2.set j r3⟩
        exact .inl ⟨a, vs, _, j, e2, r2, q1, by rw [← q2.length]; exact h1, q _ _ _ x2 s2⟩
      | _ => simp [gSetA, hc] at h
    | dct kvs =>
      have h : (if kvs.length ≤ 1000000 then (toKey d2).map (fun x => S.set k (.dct (putA kvs x d3))) else none) = some S' := by
        simpa only [gSetA, hc] using h
      split at h
      · rename_i hl
        obtain ⟨x, h1, h2⟩ := map_some h
        subst h2
        obtain ⟨us, q1, q2⟩ := cr
        have ek := r2.key h1
        subst ek
        obtain ⟨s2, x2⟩ := s.change e1 (o := .dK (putK us x v)) (c := .dct (putA kvs x d3)) ⟨_, rfl, PR.put q2 x r3⟩
        exact .inr ⟨a, _, e2, DPut.k q1 (by rw [← PR.length q2, line_eq]; omega), q _ _ _ x2 s2⟩
      · cases h
    | ins _ _ _ =>
      simp [gSetA, hc] at h
  | _ => cases h
/-- {} as a value that stays -/
theorem se_dnewF {pos : Pos} : SE ct X (.Dict [] [] pos) (fC (.dct [] [])) := ⟨_, pe_dnewK, fun m F S σ H env d S' Q s en h p => by
  cases h
  intro q hq
  obtain ⟨s2, x2⟩ := s.frozen hq (.dK [])
  exact p m _ (.ref q) _ x2 s2 ⟨q, [], rfl, upd_same, rfl, rfl⟩⟩
def fNewD : FE := fun _ S => some (.ref S.length, S ++ [.dct []])
theorem se_dnewM {pos : Pos} : SE ct X (.Dict [] [] pos) fNewD := ⟨_, pe_dnewK, fun m F S σ H env d S' Q s en h p => by
  cases h
  intro q hq
  obtain ⟨s2, x2⟩ := s.fresh hq (o := .dK []) (c := .dct []) ⟨[], rfl, .nil⟩
  exact p _ _ (.ref q) _ x2 s2 ⟨q, by rw [← s.len]; simp, rfl⟩⟩
/-- {'a': e, ..}: written text keys -/
def SDs (ct : CT) (X : Cx) (pos : Pos) (keys : List (Option Expr)) (values : List Expr) (ks : List Str) (f : FA) : Prop := ∃ trs, PPs X pos keys values trs ∧ ∀ m F S σ H env ds S' Q, Sim X.K ct m F S H → EnvR X.K ct m F env σ → f env S = some (ds, S') →
  (∀ m' F' vs H', Ext m F H m' F' H' → Sim X.K ct m' F' S' H' → Reps X.K ct m' F' ds vs → ds.length = ks.length → Q ((ks.map V.str).zip vs) H') → tPairs trs σ H Q
theorem sds_nil {pos : Pos} : SDs ct X pos [] [] [] fNil := ⟨_, pps_nil, fun m F S σ H env ds S' Q s en h p => by
  cases h
  exact p m F [] H (Ext.refl _ _ _) s rfl rfl⟩
theorem sds_cons {pos kp : Pos} {k : Str} {j : Nat} {keys : List (Option Expr)} {values : List Expr} {ks : List Str} (he : SE ct X e f) (hr : SDs ct X pos keys values ks fas) : SDs ct X pos (some (.Constant (.str k) j kp) :: keys) (e :: values) (k :: ks) (fCons f fas) := by
  obtain ⟨ta, pa, ra⟩ := he
  obtain ⟨tb, pb, rb⟩ := hr
  refine ⟨_, pps_cons pe_str pa pb, fun m F S σ H env d S' Q s en h p => ?_⟩
  obtain ⟨⟨x, S1⟩, h1, h⟩ := bind_some h
  obtain ⟨⟨ys, S2⟩, h2, h⟩ := bind_some h
  cases h
  refine ra m F S σ H env x S1 _ s en h1 fun m1 F1 v1 H1 x1 s1 r1 => ?_
  refine rb m1 F1 S1 σ H1 env ys S2 _ s1 (en.mono x1) h2 fun m2 F2 v2 H2 x2 s2 r2 hl => ?_
  exact p m2 F2 (v1 :: v2) H2 (x1.trans x2) s2 ⟨v1, v2, rfl, r1.mono x2, r2⟩ (by simp [hl])
def fDisp (ks : List Str) (fas : FA) : FE := fun env S => (fas env S).bind fun p => if ks.length ≤ 15 ∧ ks.Nodup then some (.ref p.2.length, p.2 ++ [.dct ((ks.map Sum.inr).zip p.1)]) else none
theorem merge_nodup : ∀ (more kvs : List (Key × V)), (more.map (·.1)).Nodup → (∀ k ∈ more.map (·.1), valV kvs k = none) → mergeK kvs more = kvs ++ more
  | [], kvs, _, _ => by simp [mergeK]
  | p :: more, kvs, h, hn => by
    have e : putK kvs p.1 p.2 = kvs ++ [p] := putK_new p.2 (hn p.1 (by simp))
    show mergeK (putK kvs p.1 p.2) more = _
    rw [e, merge_nodup more (kvs ++ [p]) (List.nodup_cons.mp h).2, List.append_assoc]
    · rfl
    · intro k hk
      have h1 : k ≠ p.1 := fun q => by
        subst q
        exact (List.nodup_cons.mp h).1 hk
      rw [valV_snoc p.1 k p.2 kvs (hn p.1 (by simp)), if_neg h1]
      exact hn k (by simp [List.mem_map] at hk ⊢; exact .inr hk)
theorem zip_PR {K : PySem.W.Frag} {m : List Addr} {F : Hp} : ∀ {ks : List Key} {ds : List D} {vs : List V}, Reps K ct m F ds vs → PR K ct m F (ks.zip ds) (ks.zip vs)
  | [], _, _, _ => .nil
  | k :: ks, [], _, r => by
    have r : _ = _ := r
    subst r
    exact .nil
  | k :: ks, d :: ds, _, r => by
    obtain ⟨v, vr, e1, e2, e3⟩ := r
    subst e1
    exact .cons ⟨rfl, e2⟩ (zip_PR e3)
theorem zip_kV : ∀ (ks : List Str) (vs : List V), (ks.map V.str).zip vs = (((ks.map Sum.inr : List Key)).zip vs).map fun kv => (kV kv.1, kv.2)
  | [], _ => rfl
  | _ :: _, [] => rfl
  | k :: ks, v :: vs => by
    simp only [List.map_cons, List.zip_cons_cons, zip_kV ks vs]
    rfl
theorem nodup_inr : ∀ {ks : List Str}, ks.Nodup → (ks.map Sum.inr : List Key).Nodup
  | [], _ => by simp
  | k :: ks, h => by
    simp only [List.map_cons, List.nodup_cons]
    refine ⟨fun q => ?_, nodup_inr (List.nodup_cons.mp h).2⟩
    obtain ⟨z, z1, z2⟩ := List.mem_map.mp q
    cases z2
    exact (List.nodup_cons.mp h).1 z1
theorem se_disp {pos : Pos} {keys : List (Option Expr)} {values : List Expr} {ks : List Str} (h : SDs ct X pos keys values ks fas) (hall : keys.all (·.isSome) = true) (hl : keys.length = values.length) (h0 : keys ≠ []) (h16 : keys.length ≤ 15 := by decide) : SE ct X (.Dict keys values pos) (fDisp ks fas) := by
  obtain ⟨trs, pp, rp⟩ := h
  refine ⟨_, pe_disp pp hall hl h0 h16, fun m F S σ H env d S' Q s en h p => ?_⟩
  obtain ⟨⟨xs, S1⟩, h1, h⟩ := bind_some h
  split at h
  case isFalse => cases h
  rename_i hk
  cases h
  intro q hq
  have nq : q ∉ m := fun hm => by
    obtain ⟨o, z⟩ := s.there hm
    rw [hq] at z; cases z
  have fq : F q = none := by
    cases z : F q with
    | none => rfl
    | some o => rw [s.same _ _ z] at hq; cases hq
  refine rp m F S σ (upd H q (.dK [])) env xs S1 _ (s.hidden nq fq _) en h1 fun m1 F1 vs H1 x1 s1 r1 hlen => ?_
  obtain ⟨hH, nq1, fq1⟩ := x1.hid upd_same nq fq
  have x0 : Ext m F H m1 F1 H1 := ((Ext.refl m F H).put hq (.dK [])).trans x1
  refine ⟨hH, (ks.map Sum.inr).zip vs, ?_, by simp [← r1.length, hlen, hk.1], ?_⟩
  · exact zip_kV ks vs
  · have hn : (((ks.map Sum.inr : List Key).zip vs).map (·.1)).Nodup := by
      rw [List.map_fst_zip (by simp [← r1.length, hlen])]
      exact nodup_inr hk.2
    rw [merge_nodup _ [] hn (fun _ _ => rfl), List.nil_append]
    have sq : Sim X.K ct m1 F1 S1 H1 := s1
    have s2 : Sim X.K ct (m1 ++ [q]) F1 (S1 ++ [.dct ((ks.map Sum.inr).zip xs)]) (upd H1 q (.dK ((ks.map Sum.inr).zip vs))) := by
      refine ⟨fun b z h => ?_, by simp [s1.len], ?_, fun a h => ?_, fun i a c h1 h2 => ?_⟩
      · have nb : b ≠ q := fun e => by rw [e, fq1] at h; cases h
        rw [upd_ne nb]; exact s1.same _ _ h
      · rw [List.nodup_append]
        exact ⟨s1.nd, by simp, fun a ha b hb e => nq1 (by rw [List.mem_singleton.mp hb] at e; exact e ▸ ha)⟩
      · rcases List.mem_append.mp h with z | z
        · exact s1.off a z
        · rw [List.mem_singleton.mp z]; exact fq1
      · have pre : ∀ (i : Nat) (a : Addr), m1[i]? = some a → (m1 ++ [q])[i]? = some a := fun i a h => by
          rw [List.getElem?_append_left (List.getElem?_eq_some_iff.mp h).1]; exact h
        by_cases hi : i < m1.length
        · rw [List.getElem?_append_left hi] at h1
          rw [List.getElem?_append_left (s1.len ▸ hi)] at h2
          have hm : a ∈ m1 := List.mem_iff_getElem?.mpr ⟨i, h1⟩
          have na : a ≠ q := fun e => nq1 (e ▸ hm)
          rw [upd_ne na]
          exact (s1.cell i a c h1 h2).mono' pre (Same.refl _)
        · rw [List.getElem?_append_right (by omega)] at h1
          rw [List.getElem?_append_right (by have := s1.len; omega)] at h2
          have e0 : i - m1.length = 0 := by
            have := (List.getElem?_eq_some_iff.mp h1).1
            simp at this; omega
          rw [e0] at h1
          rw [← s1.len, e0] at h2
          simp at h1 h2
          subst h1 h2
          rw [upd_same]
          exact ⟨_, rfl, zip_PR (Reps.mono' pre (Same.refl _) _ _ r1)⟩
    refine p (m1 ++ [q]) F1 (.ref q) _ ⟨fun i a h => ?_, x0.same, fun b z h n => ?_, fun a h => ?_, x0.fnew, fun b z h => ?_⟩ s2 ⟨q, by rw [← s1.len]; simp, rfl⟩
    · have := x0.pre i a h
      rw [List.getElem?_append_left (List.getElem?_eq_some_iff.mp this).1]; exact this
    · rw [upd_ne (ne_of_none h hq)]; exact x0.keep b z h n
    · rcases List.mem_append.mp h with z | z
      · exact x0.new a z
      · rw [List.mem_singleton.mp z]; exact .inr hq
    · rw [upd_ne (ne_of_none h hq)]; exact x0.grow b z h
end
end DL

namespace DL
open PySem PySem.Spec PyProof.Rows L2
section
variable {ct : CT} {X : Cx} {a b c e o k x : Expr} {es : List Expr} {fa fb fc f fd fk fx : FE} {fas : FA}
/-! ## d.get(k, x) of a cell or a dict that stays -/
def kvsOf (d : D) (S : Sto) : Option (List (Key × D)) := match d with
  | .ref i => match S[i]? with
    | some (.dct kvs) => some kvs
    | _ => none
  | .dct ks ds => some (ks.zip ds)
  | _ => none
theorem kvs_at {K : PySem.W.Frag} {m : List Addr} {F H : Hp} {S : Sto} {d : D} {v : V} {kvs : List (Key × D)} (s : Sim K ct m F S H) (r : Rep K ct m F d v) (h : kvsOf d S = some kvs) : ∃ a us, v = .ref a ∧ H a = some (.dK us) ∧ PR K ct m F kvs us := by
  cases d with
  | ref i =>
    obtain ⟨a, e1, e2⟩ := r
    obtain ⟨c, hc, cr⟩ := s.at e1
    cases c with
    | dct kvs' =>
      simp only [kvsOf, hc] at h
      cases h
      obtain ⟨us, q1, q2⟩ := cr
      exact ⟨a, us, e2, q1, q2⟩
    | lst _ => simp [kvsOf, hc] at h
    | ins _ _ _ => simp [kvsOf, hc] at h
  | dct ks ds =>
    cases h
    obtain ⟨a, vs, e1, e2, e3, e4⟩ := r
    exact ⟨a, _, e1, s.same _ _ e2, zip_PR e4⟩
  | _ => cases h
def fDGet2 (fd fk fx : FE) : FE := fun env S => (fd env S).bind fun p => (kvsOf p.1 p.2).bind fun _ => (fk env p.2).bind fun q => (fx env q.2).bind fun r => (kvsOf p.1 r.2).bind fun kvs => (toKey q.1).map fun x => ((valA kvs x).getD r.1, r.2)
theorem se_dget2 {apos cpos : Pos} {n : Nat} (hr : Room n X.A) (ho : SE ct X o fd) (hk : SE ct X k fk) (hx : SE ct X x fx) (m : M2 X o "get" apos k x cpos) : SE ct X (.Call (.Attribute o "get" apos) [k, x] [] cpos) (fDGet2 fd fk fx) := by
  obtain ⟨ta, pa, ra⟩ := ho
  obtain ⟨tb, pb, rb⟩ := hk
  obtain ⟨tc, pc, rc⟩ := hx
  refine ⟨_, pe_dget2 (hu_of hr) pa pb pc m, fun m F S σ H env d S' Q s en h p => ?_⟩
  obtain ⟨⟨z, S1⟩, h1, h⟩ := bind_some h
  obtain ⟨kvs0, h0, h⟩ := bind_some h
  obtain ⟨⟨y, S2⟩, h2, h⟩ := bind_some h
  obtain ⟨⟨w, S3⟩, h3, h⟩ := bind_some h
  obtain ⟨kvs, h4, h⟩ := bind_some h
  obtain ⟨key, h5, h6⟩ := map_some h
  cases h6
  refine ra m F S σ H env z S1 _ s en h1 fun m1 F1 v1 H1 x1 s1 r1 => ?_
  obtain ⟨a, us0, e1, e2, _⟩ := kvs_at s1 r1 h0
  refine ⟨a, e1, .inl ⟨us0, .inl e2⟩, ?_⟩
  refine rb m1 F1 S1 σ H1 env y S2 _ s1 (en.mono x1) h2 fun m2 F2 v2 H2 x2 s2 r2 => ?_
  refine rc m2 F2 S2 σ H2 env w S3 _ s2 ((en.mono x1).mono x2) h3 fun m3 F3 v3 H3 x3 s3 r3 => ?_
  obtain ⟨a', us, e1', e2', pr⟩ := kvs_at s3 ((r1.mono x2).mono x3) h4
  subst e1
  cases e1'
  have ek := r2.key h5
  subst ek
  refine ⟨_, DGet.k e2', ?_⟩
  have p3 := ((p.ext x1).ext x2).ext x3
  cases hv : valA kvs key with
  | none =>
    rw [hv] at p3
    rw [(PR.val pr key).2 hv]
    exact p3.now s3 r3
  | some dv =>
    rw [hv] at p3
    obtain ⟨v, q1, q2⟩ := (PR.val pr key).1 dv hv
    rw [q1]
    exact p3.now s3 q2
/-! ## a written dict: text keys, ints -/
structure KD (K : PySem.W.Frag) (w : World) (a : Addr) (tab : List (Str × Int)) : Prop where
  es : ∃ es n, KDict K w a es n
  val : ∀ z, ∃ r, PySem.W.nsIn K a z = some r ∧ RelO ((tab.lookup z).map V.int) r
def fKIn (neg : Bool) (tab : List (Str × Int)) (f : FE) : FE := fun env S => (f env S).bind fun p => match p.1 with
  | .str z => some (.bl (if neg then !(tab.lookup z).isSome else (tab.lookup z).isSome), p.2)
  | _ => none
variable {g : Addr} {tab : List (Str × Int)} {n : Str}
theorem relO_isSome {o : Option V} {u : Option Value} (r : RelO o u) : u.isSome = o.isSome := by
  cases o <;> cases u <;> first | rfl | exact r.elim
theorem se_kin {p pos : Pos} (d : KD X.K X.w g tab) (hg : Gl X n) (hm : X.mg n = some (.ref g)) (he : SE ct X e f) (hd : (n == ("__debug__" : Str)) = false := by decide) : SE ct X (.Compare e [.In] [.Name n p] pos) (fKIn false tab f) := by
  obtain ⟨ta, pa, ra⟩ := he
  obtain ⟨es, k, kd⟩ := d.es
  refine ⟨_, pe_cmpR (op_in_kd kd) pa (pe_glob (v := .ref g) hg hm rfl hd) rfl, fun m F S σ H env d' S' Q s en h p => ?_⟩
  obtain ⟨⟨z, S1⟩, h1, h⟩ := bind_some h
  refine ra m F S σ H env z S1 _ s en h1 fun m1 F1 v1 H1 x1 s1 r1 => ?_
  cases z with
  | str z =>
    cases h
    obtain ⟨r, q1, q2⟩ := d.val z
    refine ⟨z, r, r1, rfl, q1, ?_⟩
    rw [relO_isSome q2, Option.isSome_map]
    exact (p.ext x1).now s1 rfl
  | _ => cases h
theorem se_knotin {p pos : Pos} (d : KD X.K X.w g tab) (hg : Gl X n) (hm : X.mg n = some (.ref g)) (he : SE ct X e f) (hd : (n == ("__debug__" : Str)) = false := by decide) : SE ct X (.Compare e [.NotIn] [.Name n p] pos) (fKIn true tab f) := by
  obtain ⟨ta, pa, ra⟩ := he
  obtain ⟨es, k, kd⟩ := d.es
  refine ⟨_, pe_cmpR (op_notIn_kd kd) pa (pe_glob (v := .ref g) hg hm rfl hd) rfl, fun m F S σ H env d' S' Q s en h p => ?_⟩
  obtain ⟨⟨z, S1⟩, h1, h⟩ := bind_some h
  refine ra m F S σ H env z S1 _ s en h1 fun m1 F1 v1 H1 x1 s1 r1 => ?_
  cases z with
  | str z =>
    cases h
    obtain ⟨r, q1, q2⟩ := d.val z
    refine ⟨z, r, r1, rfl, q1, ?_⟩
    rw [relO_isSome q2, Option.isSome_map]
    exact (p.ext x1).now s1 rfl
  | _ => cases h
theorem st_kin {p pos : Pos} (d : KD X.K X.w g tab) (hg : Gl X n) (hm : X.mg n = some (.ref g)) (he : SE ct X e f) (hd : (n == ("__debug__" : Str)) = false := by decide) : ST ct X (.Compare e [.In] [.Name n p] pos) (fTest (fKIn false tab f)) := by
  obtain ⟨ta, pa, ra⟩ := he
  obtain ⟨es, k, kd⟩ := d.es
  refine ⟨_, pt_cmpR (op_in_kd kd) pa (pe_glob (v := .ref g) hg hm rfl hd) rfl, fun m F S σ H env d' S' Q s en h p => ?_⟩
  obtain ⟨⟨x, S2⟩, h2, h⟩ := bind_some h
  obtain ⟨⟨z, S1⟩, h1, h2⟩ := bind_some h2
  refine ra m F S σ H env z S1 _ s en h1 fun m1 F1 v1 H1 x1 s1 r1 => ?_
  cases z with
  | str z =>
    cases h2
    cases h
    obtain ⟨r, q1, q2⟩ := d.val z
    refine ⟨z, r, r1, rfl, q1, _, rfl, ?_⟩
    rw [relO_isSome q2, Option.isSome_map]
    exact p m1 F1 H1 x1 s1
  | _ => cases h2
theorem st_knotin {p pos : Pos} (d : KD X.K X.w g tab) (hg : Gl X n) (hm : X.mg n = some (.ref g)) (he : SE ct X e f) (hd : (n == ("__debug__" : Str)) = false := by decide) : ST ct X (.Compare e [.NotIn] [.Name n p] pos) (fTest (fKIn true tab f)) := by
  obtain ⟨ta, pa, ra⟩ := he
  obtain ⟨es, k, kd⟩ := d.es
  refine ⟨_, pt_cmpR (op_notIn_kd kd) pa (pe_glob (v := .ref g) hg hm rfl hd) rfl, fun m F S σ H env d' S' Q s en h p => ?_⟩
  obtain ⟨⟨x, S2⟩, h2, h⟩ := bind_some h
  obtain ⟨⟨z, S1⟩, h1, h2⟩ := bind_some h2
  refine ra m F S σ H env z S1 _ s en h1 fun m1 F1 v1 H1 x1 s1 r1 => ?_
  cases z with
  | str z =>
    cases h2
    cases h
    obtain ⟨r, q1, q2⟩ := d.val z
    refine ⟨z, r, r1, rfl, q1, _, rfl, ?_⟩
    rw [relO_isSome q2, Option.isSome_map]
    exact p m1 F1 H1 x1 s1
  | _ => cases h2
def fKIx (tab : List (Str × Int)) (f : FE) : FE := fun env S => (f env S).bind fun p => match p.1 with
  | .str z => (tab.lookup z).map fun i => (.int i, p.2)
  | _ => none
theorem se_kix {p pos : Pos} (d : KD X.K X.w g tab) (hg : Gl X n) (hm : X.mg n = some (.ref g)) (he : SE ct X e f) (hs : PlainIx e) (hd : (n == ("__debug__" : Str)) = false := by decide) : SE ct X (.Subscript (.Name n p) e pos) (fKIx tab f) := by
  obtain ⟨ta, pa, ra⟩ := he
  obtain ⟨es, k, kd⟩ := d.es
  refine ⟨_, pe_ix ix_kdict (pe_glob (v := .ref g) hg hm rfl hd) pa hs, fun m F S σ H env d' S' Q s en h p => ?_⟩
  obtain ⟨⟨z, S1⟩, h1, h⟩ := bind_some h
  refine ra m F S σ H env z S1 _ s en h1 fun m1 F1 v1 H1 x1 s1 r1 => ?_
  cases z with
  | str z =>
    obtain ⟨i, h2, h3⟩ := map_some (show (tab.lookup z).map _ = _ from h)
    cases h3
    obtain ⟨r, q1, q2⟩ := d.val z
    rw [h2] at q2
    obtain ⟨u, q3, q4⟩ := RelO.some_of q2
    subst q3
    exact ⟨g, z, .int i, rfl, r1, ⟨es, k, u, kd.at_, kd.lit, q1, q4⟩, (p.ext x1).now s1 rfl⟩
  | _ => cases h
/-- d.get(e, x) of a written dict -/
def tKGet2 (tab : List (Str × Int)) (ty tx : TE) : TE := fun σ H Q => ty σ H fun y H1 => tx σ H1 fun z H2 => ∃ s, y = .str s ∧ Q (((tab.lookup s).map V.int).getD z) H2
theorem pe_kget2 {ty tx : TE} {p apos cpos : Pos} (d : KD X.K X.w g tab) (hg : Gl X n) (hm : X.mg n = some (.ref g)) (he : PE X k ty) (hf : PE X x tx) (m : M2 X (.Name n p) "get" apos k x cpos) (hd : (n == ("__debug__" : Str)) = false := by decide) :
    PE X (.Call (.Attribute (.Name n p) "get" apos) [k, x] [] cpos) (tKGet2 tab ty tx) := by
  obtain ⟨es, cnt, kd⟩ := d.es
  refine ⟨fun pins s σ H Q I h => ?_⟩
  refine wpAny_Call_method m.base m.few m.line PySem.F.plainAttrs_dict PySem.F.slot_dict_get PySem.F.type_dict_get (ld_glob I hg hm ?_ hd)
  refine ⟨kd_type kd I, fun b q => ?_, ?_⟩
  · cases q
    exact ⟨_, I.kIn _ _ kd.at_, rfl⟩
  rw [m.trees]
  refine Calls.callWith_builtin rfl (Calls.evalArgs_plain (Calls.spliced_cons (thn (he.run pins s σ H _ I h) fun iv s2 ⟨y, H2, I2, ry, q2⟩ =>
    Calls.spliced_cons (thn (hf.run pins s2 σ H2 _ I2 q2) fun fv s3 ⟨z, H3, I3, rz, st, ey, q3⟩ => Calls.spliced_nil ?_))))
  subst ey
  obtain ⟨t, rfl⟩ := ry
  obtain ⟨r, e1, e2⟩ := d.val st
  have hmap := PySem.W.mapOf_K (prog := X.prog) (w := X.w) I3.kIn kd.at_ kd.lit
  refine call_meetsIn PySem.F.slot_dict_get hmap.typeIs PySem.F.entry_dict_get (PySem.F.args_dict_get_3 _ _ _) (meets_dict_get_default (strKind X.prog X.w) g (PySem.strKind_is X.prog X.w st t) kd.low fv) ⟨_, hmap, ?_⟩
  rw [PySem.W.find_K kd.at_ e1]
  exact ⟨_, H3, I3.tok _, e2.getD rz, q3⟩
def fKGet2 (tab : List (Str × Int)) (fk fx : FE) : FE := fun env S => (fk env S).bind fun p => (fx env p.2).bind fun q => match p.1 with
  | .str s => some (((tab.lookup s).map D.int).getD q.1, q.2)
  | _ => none
theorem se_kget2 {p apos cpos : Pos} (d : KD X.K X.w g tab) (hg : Gl X n) (hm : X.mg n = some (.ref g)) (hk : SE ct X k fk) (hx : SE ct X x fx) (m : M2 X (.Name n p) "get" apos k x cpos) (hd : (n == ("__debug__" : Str)) = false := by decide) :
    SE ct X (.Call (.Attribute (.Name n p) "get" apos) [k, x] [] cpos) (fKGet2 tab fk fx) := by
  obtain ⟨tb, pb, rb⟩ := hk
  obtain ⟨tc, pc, rc⟩ := hx
  refine ⟨_, pe_kget2 d hg hm pb pc m hd, fun m F S σ H env d S' Q s en h p => ?_⟩
  obtain ⟨⟨y, S1⟩, h1, h⟩ := bind_some h
  obtain ⟨⟨w, S2⟩, h2, h⟩ := bind_some h
  refine rb m F S σ H env y S1 _ s en h1 fun m1 F1 v1 H1 x1 s1 r1 => ?_
  refine rc m1 F1 S1 σ H1 env w S2 _ s1 (en.mono x1) h2 fun m2 F2 v2 H2 x2 s2 r2 => ?_
  cases y with
  | str st =>
    cases h
    refine ⟨st, r1, ?_⟩
    have p3 := (p.ext x1).ext x2
    cases hv : tab.lookup st with
    | none => simp only [hv] at p3; exact p3.now s2 r2
    | some i => simp only [hv] at p3; exact p3.now s2 rfl
  | _ => cases h
/-! ## methods of texts -/
def fPart (fo fe : FE) : FE := fun env S => (fo env S).bind fun p => match p.1 with
  | .str a => (fe env p.2).bind fun q => match q.1 with
    | .str b => if (b.length == 0) = false ∧ a.length ≤ 16777216 then some (.tup [.str (Txt.partition a b).1, .str (Txt.partition a b).2.1, .str (Txt.partition a b).2.2], q.2) else none
    | _ => none
  | _ => none
theorem se_part {apos pos : Pos} {fo fe : FE} (ho : SE ct X o fo) (he : SE ct X e fe) (hs : starEach [e] X.env = [(false, eval e X.env)] := by rfl) (hbase : attributeBase o "partition" X.env (eval o X.env) = eval o X.env := by rfl) (hline : (apos.endLine == pos.line) = true := by rfl) :
    SE ct X (.Call (.Attribute o "partition" apos) [e] [] pos) (fPart fo fe) := by
  obtain ⟨ta, pa, ra⟩ := ho
  obtain ⟨tb, pb, rb⟩ := he
  refine ⟨_, pe_partition pa pb hs hbase hline, fun m F S σ H env d S' Q s en h p => ?_⟩
  obtain ⟨⟨z, S1⟩, h1, h⟩ := bind_some h
  refine ra m F S σ H env z S1 _ s en h1 fun m1 F1 v1 H1 x1 s1 r1 => ?_
  cases z with
  | str a =>
    obtain ⟨⟨w, S2⟩, h2, h⟩ := bind_some (show (fe env S1).bind _ = _ from h)
    have r1 : v1 = .str a := r1
    refine ⟨⟨a, r1⟩, rb m1 F1 S1 σ H1 env w S2 _ s1 (en.mono x1) h2 fun m2 F2 v2 H2 x2 s2 r2 => ?_⟩
    cases w with
    | str b =>
      have h : (if (b.length == 0) = false ∧ a.length ≤ 16777216 then some (D.tup [.str (Txt.partition a b).1, .str (Txt.partition a b).2.1, .str (Txt.partition a b).2.2], S2) else none) = some (d, S') := h
      split at h
      · rename_i hl
        cases h
        have r2 : v2 = .str b := r2
        refine ⟨a, b, r1, by rw [r2], hl.1, by rw [line_eq]; exact hl.2, fun q hq => ?_⟩
        obtain ⟨s3, x3⟩ := s2.frozen hq (.tup [.str (Txt.partition a b).1, .str (Txt.partition a b).2.1, .str (Txt.partition a b).2.2])
        exact p _ _ (.ref q) _ ((x1.trans x2).trans x3) s3 ⟨q, _, rfl, SqT.of upd_same, ⟨_, _, rfl, rfl, _, _, rfl, rfl, _, _, rfl, rfl, rfl⟩⟩
      · cases h
    | _ => cases h
  | _ => cases h
def fSplit (fo fe : FE) : FE := fun env S => (fo env S).bind fun p => match p.1 with
  | .str a => (fe env p.2).bind fun q => match q.1 with
    | .str b => if (b.length == 0) = false ∧ a.length + 2 ≤ 16777216 then some (.lst ((Txt.split a b).map .str), q.2) else none
    | _ => none
  | _ => none
theorem Reps.strs {K : PySem.W.Frag} {m : List Addr} {F : Hp} (ys : List Str) : Reps K ct m F (ys.map D.str) (ys.map V.str) := by
  induction ys with
  | nil => exact rfl
  | cons n ns ih => exact ⟨_, _, rfl, rfl, ih⟩
theorem se_split {apos pos : Pos} {fo fe : FE} (ho : SE ct X o fo) (he : SE ct X e fe) (hs : starEach [e] X.env = [(false, eval e X.env)] := by rfl) (hbase : attributeBase o "split" X.env (eval o X.env) = eval o X.env := by rfl) (hline : (apos.endLine == pos.line) = true := by rfl) :
    SE ct X (.Call (.Attribute o "split" apos) [e] [] pos) (fSplit fo fe) := by
  obtain ⟨ta, pa, ra⟩ := ho
  obtain ⟨tb, pb, rb⟩ := he
  refine ⟨_, pe_split pa pb hs hbase hline, fun m F S σ H env d S' Q s en h p => ?_⟩
  obtain ⟨⟨z, S1⟩, h1, h⟩ := bind_some h
  refine ra m F S σ H env z S1 _ s en h1 fun m1 F1 v1 H1 x1 s1 r1 => ?_
  cases z with
  | str a =>
    obtain ⟨⟨w, S2⟩, h2, h⟩ := bind_some (show (fe env S1).bind _ = _ from h)
    have r1 : v1 = .str a := r1
    refine ⟨⟨a, r1⟩, rb m1 F1 S1 σ H1 env w S2 _ s1 (en.mono x1) h2 fun m2 F2 v2 H2 x2 s2 r2 => ?_⟩
    cases w with
    | str b =>
      have h : (if (b.length == 0) = false ∧ a.length + 2 ≤ 16777216 then some (D.lst ((Txt.split a b).map .str), S2) else none) = some (d, S') := h
      split at h
      · rename_i hl
        cases h
        have r2 : v2 = .str b := r2
        refine ⟨a, b, r1, by rw [r2], hl.1, by rw [line_eq]; exact hl.2, fun q hq => ?_⟩
        obtain ⟨s3, x3⟩ := s2.frozen hq (.lst ((Txt.split a b).map V.str))
        exact p _ _ (.ref q) _ ((x1.trans x2).trans x3) s3 ⟨q, _, rfl, upd_same, Reps.strs _⟩
      · cases h
    | _ => cases h
  | _ => cases h
/-! ## xs.append(e) of a cell -/
def fAppend (fo fe : FE) : FE := fun env S => (fo env S).bind fun p => match p.1 with
  | .ref k => match p.2[k]? with
    | some (.lst _) => (fe env p.2).bind fun q => match q.2[k]? with
      | some (.lst ds) => if ds.length ≤ 1000000 then some (.non, q.2.set k (.lst (ds ++ [q.1]))) else none
      | _ => none
    | _ => none
  | _ => none
theorem se_append {apos cpos : Pos} {fo fe : FE} (ho : SE ct X o fo) (he : SE ct X e fe) (hbase : attributeBase o "append" X.env (eval o X.env) = eval o X.env := by rfl)
    (hfew : ((backTo cpos (starEach [e] X.env)).all (fun x => !x.1) && (backToKw cpos (keywordEach [] X.env)).all (fun x => x.1.isSome)
      && decide (([e] : List Expr).length + ([] : List Keyword).length + (if ([] : List Keyword).isEmpty then 0 else 1) < 30)) = true := by rfl)
    (hline : (apos.endLine == cpos.line) = true := by rfl) (hs : starEach [e] X.env = (false, eval e X.env) :: starEach [] X.env := by rfl) (hplain : (backTo cpos (starEach [] X.env)).any (·.1) = false := by rfl) :
    SE ct X (.Call (.Attribute o "append" apos) [e] [] cpos) (fAppend fo fe) := by
  obtain ⟨ta, pa, ra⟩ := ho
  obtain ⟨tb, pb, rb⟩ := he
  refine ⟨_, pe_bm PySem.F.plainAttrs_list PySem.F.slot_list_append PySem.F.type_list_append mt_append pa (pa_cons pb pa_nil hs) hbase hfew hline hs hplain, fun m F S σ H env d S' Q s en h p => ?_⟩
  obtain ⟨⟨z, S1⟩, h1, h⟩ := bind_some h
  refine ra m F S σ H env z S1 _ s en h1 fun m1 F1 v1 H1 x1 s1 r1 => ?_
  cases z with
  | ref k =>
    obtain ⟨a, e1, e2⟩ := id r1
    obtain ⟨c1, hc1, cr1⟩ := s1.at e1
    subst e2
    cases c1 with
    | lst ds1 =>
      obtain ⟨vs1, g1, g2⟩ := cr1
      have h : (fe env S1).bind (fun q => match q.2[k]? with
        | some (.lst ds) => if ds.length ≤ 1000000 then some (D.non, q.2.set k (.lst (ds ++ [q.1]))) else none
        | _ => none) = some (d, S') := by simpa only [hc1] using h
      obtain ⟨⟨w, S2⟩, h2, h⟩ := bind_some h
      refine ⟨.inl ⟨rfl, _, SqL.of g1⟩, rb m1 F1 S1 σ H1 env w S2 _ s1 (en.mono x1) h2 fun m2 F2 v2 H2 x2 s2 r2 => ?_⟩
      have e3 := x2.pre _ _ e1
      obtain ⟨c2, hc2, cr2⟩ := s2.at e3
      cases c2 with
      | lst ds2 =>
        have h : (if ds2.length ≤ 1000000 then some (D.non, S2.set k (.lst (ds2 ++ [w]))) else none) = some (d, S') := by simpa only [hc2] using h
        split at h
        · rename_i hl
          cases h
          obtain ⟨vs2, g3, g4⟩ := cr2
          obtain ⟨s3, x3⟩ := s2.change e3 (o := .lst (vs2 ++ [v2])) (c := .lst (ds2 ++ [w])) ⟨_, rfl, g4.snoc r2⟩
          exact ⟨a, vs2, v2, rfl, rfl, g3, by rw [← g4.length, line_eq]; omega, p _ _ .non _ ((x1.trans x2).trans x3) s3 rfl⟩
        · cases h
      | dct _ => simp [hc2] at h
      | ins _ _ _ => simp [hc2] at h
    | dct _ => simp [hc1] at h
    | ins _ _ _ => simp [hc1] at h
  | _ => cases h
end
/-! ## garbage, freezing -/
mutual
def noRef : D → Bool
  | .ref _ => false
  | .tup ds => noRefs ds
  | .lst ds => noRefs ds
  | .dct _ ds => noRefs ds
  | .obj _ _ ds => noRefs ds
  | _ => true
def noRefs : List D → Bool
  | [] => true
  | d :: ds => noRef d && noRefs ds
end
section
variable {K : PySem.W.Frag} {ct : CT}
mutual
theorem Rep.noref {m m' : List Addr} {F : Hp} : ∀ (d : D) (v : V), noRef d = true → Rep K ct m F d v → Rep K ct m' F d v
  | .non, _, _, h => h
  | .bl _, _, _, h => h
  | .int _, _, _, h => h
  | .str _, _, _, h => h
  | .scr _, _, _, h => h
  | .tup ds, _, n, h => by
    obtain ⟨a, vs, e1, e2, e3⟩ := h
    exact ⟨a, vs, e1, e2, Reps.noref ds vs n e3⟩
  | .lst ds, _, n, h => by
    obtain ⟨a, vs, e1, e2, e3⟩ := h
    exact ⟨a, vs, e1, e2, Reps.noref ds vs n e3⟩
  | .dct ks ds, _, n, h => by
    obtain ⟨a, vs, e1, e2, e4, e3⟩ := h
    exact ⟨a, vs, e1, e2, e4, Reps.noref ds vs n e3⟩
  | .ref i, _, n, h => by cases n
  | .obj c fs ds, _, n, h => by
    obtain ⟨a, C, dx, vs, e1, e2, e4, e5, e3⟩ := h
    exact ⟨a, C, dx, vs, e1, e2, e4, e5, Reps.noref ds vs n e3⟩
theorem Reps.noref {m m' : List Addr} {F : Hp} : ∀ (ds : List D) (vs : List V), noRefs ds = true → Reps K ct m F ds vs → Reps K ct m' F ds vs
  | [], _, _, h => h
  | d :: ds, _, n, h => by
    obtain ⟨v, r, e1, e2, e3⟩ := h
    have n : (noRef d && noRefs ds) = true := n
    simp only [Bool.and_eq_true] at n
    exact ⟨v, r, e1, Rep.noref d v n.1 e2, Reps.noref ds r n.2 e3⟩
end
mutual
theorem Rep.back {m m' : List Addr} {F F' : Hp} (hp : ∀ (i : Nat) (a : Addr), m[i]? = some a → m'[i]? = some a) : ∀ (d : D) (v0 v : V), Rep K ct m F d v0 → Rep K ct m' F' d v → Rep K ct m F' d v
  | .non, _, _, _, h => h
  | .bl _, _, _, _, h => h
  | .int _, _, _, _, h => h
  | .str _, _, _, _, h => h
  | .scr _, _, _, _, h => h
  | .tup ds, _, _, h0, h => by
    obtain ⟨a, vs, e1, e2, e3⟩ := h
    obtain ⟨_, vs0, _, _, e0⟩ := h0
    exact ⟨a, vs, e1, e2, Reps.back hp ds vs0 vs e0 e3⟩
  | .lst ds, _, _, h0, h => by
    obtain ⟨a, vs, e1, e2, e3⟩ := h
    obtain ⟨_, vs0, _, _, e0⟩ := h0
    exact ⟨a, vs, e1, e2, Reps.back hp ds vs0 vs e0 e3⟩
  | .dct ks ds, _, _, h0, h => by
    obtain ⟨a, vs, e1, e2, e4, e3⟩ := h
    obtain ⟨_, vs0, _, _, _, e0⟩ := h0
    exact ⟨a, vs, e1, e2, e4, Reps.back hp ds vs0 vs e0 e3⟩
  | .ref i, _, _, h0, h => by
    obtain ⟨a0, q1, q2⟩ := h0
    obtain ⟨a, q3, q4⟩ := h
    rw [hp i a0 q1] at q3
    cases q3
    exact ⟨a0, q1, q4⟩
  | .obj c fs ds, _, _, h0, h => by
    obtain ⟨a, C, dx, vs, e1, e2, e4, e5, e3⟩ := h
    obtain ⟨_, _, _, vs0, _, _, _, _, e0⟩ := h0
    exact ⟨a, C, dx, vs, e1, e2, e4, e5, Reps.back hp ds vs0 vs e0 e3⟩
theorem Reps.back {m m' : List Addr} {F F' : Hp} (hp : ∀ (i : Nat) (a : Addr), m[i]? = some a → m'[i]? = some a) : ∀ (ds : List D) (vs0 vs : List V), Reps K ct m F ds vs0 → Reps K ct m' F' ds vs → Reps K ct m F' ds vs
  | [], _, _, _, h => h
  | d :: ds, _, _, h0, h => by
    obtain ⟨v, r, e1, e2, e3⟩ := h
    obtain ⟨v0, r0, _, g2, g3⟩ := h0
    exact ⟨v, r, e1, Rep.back hp d v0 v g2 e2, Reps.back hp ds r0 r g3 e3⟩
end
def cellFree : Cell → Bool
  | .lst ds => noRefs ds
  | .dct kvs => kvs.all fun kv => noRef kv.2
  | .ins _ _ ds => noRefs ds
theorem CellR.noref {m m' : List Addr} {F : Hp} {o : Option HO} {c : Cell} (n : cellFree c = true) (h : CellR K ct m F o c) : CellR K ct m' F o c := by
  cases c with
  | lst ds => obtain ⟨vs, e1, e2⟩ := h; exact ⟨vs, e1, Reps.noref _ _ n e2⟩
  | dct kvs =>
    obtain ⟨us, e1, e2⟩ := h
    refine ⟨us, e1, ?_⟩
    replace n : (kvs.all fun kv => noRef kv.2) = true := n
    clear e1
    induction e2 with
    | nil => exact .nil
    | cons hh _ ih =>
      simp only [List.all_cons, Bool.and_eq_true] at n
      exact .cons ⟨hh.1, Rep.noref _ _ n.1 hh.2⟩ (ih n.2)
  | ins c fs ds => obtain ⟨C, dx, vs, e1, e4, e3, e2⟩ := h; exact ⟨C, dx, vs, e1, e4, e3, Reps.noref _ _ n e2⟩
theorem CellR.back {m m' : List Addr} {F F' : Hp} (hp : ∀ (i : Nat) (a : Addr), m[i]? = some a → m'[i]? = some a) {o o0 : Option HO} {c : Cell} (h0 : CellR K ct m F o0 c) (h : CellR K ct m' F' o c) : CellR K ct m F' o c := by
  cases c with
  | lst ds =>
    obtain ⟨vs, e1, e2⟩ := h
    obtain ⟨vs0, _, e0⟩ := h0
    exact ⟨vs, e1, Reps.back hp _ _ _ e0 e2⟩
  | dct kvs =>
    obtain ⟨us, e1, e2⟩ := h
    obtain ⟨us0, z0, e0⟩ := h0
    refine ⟨us, e1, ?_⟩
    clear e1 z0
    induction e2 generalizing us0 with
    | nil => exact .nil
    | cons hh _ ih =>
      cases e0 with
      | cons g0 g1 => exact .cons ⟨hh.1, Rep.back hp _ _ _ g0.2 hh.2⟩ (ih _ g1)
  | ins c fs ds =>
    obtain ⟨C, dx, vs, e1, e4, e3, e2⟩ := h
    obtain ⟨_, _, vs0, _, _, _, e0⟩ := h0
    exact ⟨C, dx, vs, e1, e4, e3, Reps.back hp _ _ _ e0 e2⟩
/-- the cells of S, as they stand now: unchanged, or without references -/
def Old (S S1 : Sto) : Prop := S1.length = S.length ∧ ∀ (i : Nat) (c : Cell), S1[i]? = some c → S[i]? = some c ∨ cellFree c = true
theorem Old.refl (S : Sto) : Old S S := ⟨rfl, fun _ _ h => .inl h⟩
/-- what a caller may be told in the place of g's own end: the cells that were made within are dropped; a list's cell among them may be handed back as a list that stays -/
inductive Told (S : Sto) : D × Sto → D × Sto → Prop
  | same (r : D × Sto) : Told S r r
  | drop {d : D} {S1 more : Sto} (h : noRef d = true) (ho : Old S S1) : Told S (d, S1 ++ more) (d, S1)
  | frzL {ds : List D} {S1 more : Sto} {i : Nat} (h : noRefs ds = true) (ho : Old S S1) (hi : more[i]? = some (.lst ds)) : Told S (.ref (S1.length + i), S1 ++ more) (.lst ds, S1)
theorem drop_sim {m m' : List Addr} {F F' H H' : Hp} {S S1 more : Sto} (ho : Old S S1) (s : Sim K ct m F S H) (x : Ext m F H m' F' H') (s' : Sim K ct m' F' (S1 ++ more) H') :
    Sim K ct (m'.take S1.length) F' S1 H' ∧ Ext m F H (m'.take S1.length) F' H' := by
  have hl := s'.len
  rw [List.length_append] at hl
  have sub : ∀ a ∈ m'.take S1.length, a ∈ m' := fun a h => List.mem_of_mem_take h
  have hml : m.length = S1.length := by rw [s.len, ho.1]
  have pre : ∀ (i : Nat) (a : Addr), m[i]? = some a → (m'.take S1.length)[i]? = some a := fun i a h => by
    have hi : i < m.length := (List.getElem?_eq_some_iff.mp h).1
    rw [List.getElem?_take_of_lt (by omega)]
    exact x.pre i a h
  have eqm : m = m'.take S1.length := by
    apply List.ext_getElem?
    intro i
    by_cases hi : i < m.length
    · have h1 : m[i]? = some m[i] := List.getElem?_eq_getElem hi
      rw [h1, pre i _ h1]
    · rw [List.getElem?_eq_none (by omega), List.getElem?_eq_none (by rw [List.length_take]; omega)]
  refine ⟨⟨s'.same, by rw [List.length_take]; omega, s'.nd.sublist (List.take_sublist _ _), fun a h => s'.off a (sub a h), fun i a c h1 h2 => ?_⟩, ⟨pre, x.same, x.keep, fun a h => x.new a (sub a h), x.fnew, x.grow⟩⟩
  have hi : i < S1.length := (List.getElem?_eq_some_iff.mp h2).1
  have h1' : m'[i]? = some a := by rw [List.getElem?_take_of_lt hi] at h1; exact h1
  have cr := s'.cell i a c h1' (by rw [List.getElem?_append_left hi]; exact h2)
  rcases ho.2 i c h2 with q | q
  · rw [← eqm]
    rw [← eqm] at h1
    exact CellR.back x.pre (s.cell i a c h1 q) cr
  · exact cr.noref q
end
section
variable {P : Program} {w : World} {K : PySem.W.Frag} {mg : Str → Option Value} {base : Heap} {ct : CT}
theorem told_ok {k n : Nat} {f : Addr} {fd : FuncData} {ps : List Str} {g g' : FD} (G : FnOk P w K mg base CX0 k f fd ps (spD K ct n g)) (h : ∀ ds S r', g' ds S = some r' → ∃ r, g ds S = some r ∧ Told S r r') : FnOk P w K mg base CX0 k f fd ps (spD K ct n g') := by
  refine G.imp fun vs H Q E hs => ?_
  obtain ⟨hl, m, F, S, ds, d', S1, sim, reps, hg, post⟩ := hs
  obtain ⟨⟨d, S'⟩, h1, h2⟩ := h ds S (d', S1) hg
  refine ⟨hl, m, F, S, ds, d, S', sim, reps, h1, ?_⟩
  cases h2 with
  | same => exact post
  | drop hn ho =>
    intro m' F' v H' x s' r
    obtain ⟨s2, x2⟩ := drop_sim ho sim x s'
    exact post _ F' v H' x2 s2 (Rep.noref _ _ hn r)
  | @frzL ds' _ more i hn ho hi =>
    intro m' F' v H' x s' r
    obtain ⟨s2, x2⟩ := drop_sim ho sim x s'
    obtain ⟨L, q1, q2⟩ := r
    subst q2
    have hL : (S1 ++ more)[S1.length + i]? = some (.lst ds') := by
      rw [List.getElem?_append_right (by omega), Nat.add_sub_cancel_left]
      exact hi
    obtain ⟨vs', c1, c2⟩ := s'.cell _ L _ q1 hL
    have mL : L ∈ m' := List.mem_iff_getElem?.mpr ⟨_, q1⟩
    have fL : F' L = none := s'.off L mL
    have nL : L ∉ m'.take S1.length := fun hm => by
      obtain ⟨j, hj⟩ := List.mem_iff_getElem?.mp hm
      have hjl : j < S1.length := by
        have := (List.getElem?_eq_some_iff.mp hj).1
        rw [List.length_take] at this
        omega
      rw [List.getElem?_take_of_lt hjl] at hj
      have := nodup_inj s'.nd hj q1
      omega
    have hH : H L = none := by
      rcases x.new L mL with z | z
      · obtain ⟨j, hj⟩ := List.mem_iff_getElem?.mp z
        exact absurd (List.mem_iff_getElem?.mpr ⟨j, x2.pre j L hj⟩) nL
      · exact z
    exact post _ (upd F' L (.lst vs')) (.ref L) H' (x2.freeze hH fL _) (s2.freeze nL fL c1) ⟨L, vs', rfl, upd_same, Reps.mono' (fun _ _ q => q) (same_upd fL _) _ _ (Reps.noref _ _ hn c2)⟩
end
end DL

namespace DL
open PySem PySem.Spec PyProof.Rows L2
section
variable {ct : CT} {X : Cx} {a b e : Expr} {es : List Expr} {fa fb f : FE} {fas : FA}
/-! ## list(range(n)), list(range(a, b)) -/
def fListR1 (fa : FE) : FE := fun env S => (fa env S).bind fun p => match p.1 with
  | .int n => if okR n = true ∧ n ≤ 16777216 then some (.lst (rangeD 0 n), p.2) else none
  | _ => none
def fListR2 (fa fb : FE) : FE := fun env S => (fa env S).bind fun p => (fb env p.2).bind fun q => match p.1, q.1 with
  | .int i, .int j => if okR i = true ∧ okR j = true ∧ j - i ≤ 16777216 then some (.lst (rangeD i j), q.2) else none
  | _, _ => none
theorem range_reps {K : PySem.W.Frag} {m : List Addr} {F : Hp} (a b : Int) : Reps K ct m F (rangeD a b) (rgV a b) := by
  unfold rangeD rgV
  induction List.range (b - a).toNat with
  | nil => exact rfl
  | cons n ns ih => exact ⟨_, _, rfl, rfl, ih⟩
theorem se_listR1 {p q pos pos' : Pos} (hc : X.calm = true) (hg : Gl X "list") (hm : X.mg "list" = none) (hg2 : Gl X "range") (hm2 : X.mg "range" = none) (ha : SE ct X a fa) (na : starEach [a] X.env = (false, eval a X.env) :: starEach [] X.env := by rfl)
    (nb : starEach [.Call (.Name "range" q) [a] [] pos'] X.env = (false, eval (.Call (.Name "range" q) [a] [] pos') X.env) :: starEach [] X.env := by rfl) : SE ct X (.Call (.Name "list" p) [.Call (.Name "range" q) [a] [] pos'] [] pos) (fListR1 fa) := by
  obtain ⟨ta, pa, ra⟩ := ha
  refine ⟨_, pe_listRg hc hg hm (prg_1 hg2 hm2 pa na) nb, fun m F S σ H env d S' Q s en h p => ?_⟩
  obtain ⟨⟨z, S1⟩, h1, h⟩ := bind_some h
  refine ra m F S σ H env z S1 _ s en h1 fun m1 F1 v1 H1 x1 s1 r1 => ?_
  cases z with
  | int n =>
    have h : (if okR n = true ∧ n ≤ 16777216 then some (D.lst (rangeD 0 n), S1) else none) = some (d, S') := h
    split at h
    · rename_i hn
      cases h
      refine ⟨n, r1, ⟨by decide, by decide, (okR_ok hn.1).1, (okR_ok hn.1).2, ?_⟩, fun q hq => ?_⟩
      · show (n - 0).toNat ≤ 2 ^ 24
        omega
      · obtain ⟨s2, x2⟩ := s1.frozen hq (.lst (rgV 0 n))
        exact p _ _ (.ref q) _ (x1.trans x2) s2 ⟨q, _, rfl, upd_same, range_reps 0 n⟩
    · cases h
  | _ => cases h
theorem se_listR2 {p q pos pos' : Pos} (hc : X.calm = true) (hg : Gl X "list") (hm : X.mg "list" = none) (hg2 : Gl X "range") (hm2 : X.mg "range" = none) (ha : SE ct X a fa) (hb : SE ct X b fb) (na : starEach [a, b] X.env = (false, eval a X.env) :: starEach [b] X.env := by rfl)
    (na2 : starEach [b] X.env = (false, eval b X.env) :: starEach [] X.env := by rfl) (hpp : ((backTo pos' (starEach [b] X.env)).any fun x => x.1) = false := by rfl)
    (nb : starEach [.Call (.Name "range" q) [a, b] [] pos'] X.env = (false, eval (.Call (.Name "range" q) [a, b] [] pos') X.env) :: starEach [] X.env := by rfl) : SE ct X (.Call (.Name "list" p) [.Call (.Name "range" q) [a, b] [] pos'] [] pos) (fListR2 fa fb) := by
  obtain ⟨ta, pa, ra⟩ := ha
  obtain ⟨tb, pb, rb⟩ := hb
  refine ⟨_, pe_listRg hc hg hm (prg_2 hg2 hm2 pa pb na na2 hpp) nb, fun m F S σ H env d S' Q s en h p => ?_⟩
  obtain ⟨⟨z, S1⟩, h1, h⟩ := bind_some h
  obtain ⟨⟨w, S2⟩, h2, h⟩ := bind_some h
  refine ra m F S σ H env z S1 _ s en h1 fun m1 F1 v1 H1 x1 s1 r1 => ?_
  refine rb m1 F1 S1 σ H1 env w S2 _ s1 (en.mono x1) h2 fun m2 F2 v2 H2 x2 s2 r2 => ?_
  cases z with
  | int i =>
    cases w with
    | int j =>
      have h : (if okR i = true ∧ okR j = true ∧ j - i ≤ 16777216 then some (D.lst (rangeD i j), S2) else none) = some (d, S') := h
      split at h
      · rename_i hn
        cases h
        refine ⟨i, j, r1, r2, ⟨(okR_ok hn.1).1, (okR_ok hn.1).2, (okR_ok hn.2.1).1, (okR_ok hn.2.1).2, ?_⟩, fun q hq => ?_⟩
        · show (j - i).toNat ≤ 2 ^ 24
          omega
        · obtain ⟨s3, x3⟩ := s2.frozen hq (.lst (rgV i j))
          exact p _ _ (.ref q) _ ((x1.trans x2).trans x3) s3 ⟨q, _, rfl, upd_same, range_reps i j⟩
      · cases h
    | _ => cases h
  | _ => cases h
end
/-! ## written things by name -/
def KG (w : World) (K : PySem.W.Frag) (mg : Str → Option Value) (n : Str) (tab : List (Str × Int)) : Prop := ∃ g, mg n = some (.ref g) ∧ KD K w g tab
def CG (mg : Str → Option Value) (n : Str) (v : V) : Prop := ∃ u, mg n = some u ∧ RelV v u
section
variable {ct : CT} {X : Cx} {e k x : Expr} {f fk fx : FE} {tab : List (Str × Int)} {n : Str}
theorem se_globC {v : V} {d : D} {pos : Pos} (hg : Gl X n) (c : CG X.mg n v) (hr : ∀ m F, Rep X.K ct m F d v) (hd : (n == ("__debug__" : Str)) = false := by decide) : SE ct X (.Name n pos) (fC d) := by
  obtain ⟨u, h1, h2⟩ := c
  exact se_glob hg h1 h2 hr hd
theorem se_kinG {p pos : Pos} (d : KG X.w X.K X.mg n tab) (hg : Gl X n) (he : SE ct X e f) (hd : (n == ("__debug__" : Str)) = false := by decide) : SE ct X (.Compare e [.In] [.Name n p] pos) (fKIn false tab f) := by
  obtain ⟨g, h1, h2⟩ := d
  exact se_kin h2 hg h1 he hd
theorem se_knotinG {p pos : Pos} (d : KG X.w X.K X.mg n tab) (hg : Gl X n) (he : SE ct X e f) (hd : (n == ("__debug__" : Str)) = false := by decide) : SE ct X (.Compare e [.NotIn] [.Name n p] pos) (fKIn true tab f) := by
  obtain ⟨g, h1, h2⟩ := d
  exact se_knotin h2 hg h1 he hd
theorem st_kinG {p pos : Pos} (d : KG X.w X.K X.mg n tab) (hg : Gl X n) (he : SE ct X e f) (hd : (n == ("__debug__" : Str)) = false := by decide) : ST ct X (.Compare e [.In] [.Name n p] pos) (fTest (fKIn false tab f)) := by
  obtain ⟨g, h1, h2⟩ := d
  exact st_kin h2 hg h1 he hd
theorem st_knotinG {p pos : Pos} (d : KG X.w X.K X.mg n tab) (hg : Gl X n) (he : SE ct X e f) (hd : (n == ("__debug__" : Str)) = false := by decide) : ST ct X (.Compare e [.NotIn] [.Name n p] pos) (fTest (fKIn true tab f)) := by
  obtain ⟨g, h1, h2⟩ := d
  exact st_knotin h2 hg h1 he hd
theorem se_kixG {p pos : Pos} (d : KG X.w X.K X.mg n tab) (hg : Gl X n) (he : SE ct X e f) (hs : PlainIx e) (hd : (n == ("__debug__" : Str)) = false := by decide) : SE ct X (.Subscript (.Name n p) e pos) (fKIx tab f) := by
  obtain ⟨g, h1, h2⟩ := d
  exact se_kix h2 hg h1 he hs hd
theorem se_kget2G {p apos cpos : Pos} (d : KG X.w X.K X.mg n tab) (hg : Gl X n) (hk : SE ct X k fk) (hx : SE ct X x fx) (m : M2 X (.Name n p) "get" apos k x cpos) (hd : (n == ("__debug__" : Str)) = false := by decide) :
    SE ct X (.Call (.Attribute (.Name n p) "get" apos) [k, x] [] cpos) (fKGet2 tab fk fx) := by
  obtain ⟨g, h1, h2⟩ := d
  exact se_kget2 h2 hg h1 hk hx m hd
end
/-! ## defs by name -/
def Callee (P : Program) (w : World) (K : PySem.W.Frag) (mg : Str → Option Value) (base : Heap) (ct : CT) (k : Nat) (x : Str) (n : Nat) (g : FD) : Prop :=
  ∃ (f : Addr) (fd : FuncData) (ps : List Str), mg x = some (.ref f) ∧ PySem.W.keepIn K (.ref f) = true ∧ Binds K fd ps [] ∧ FnOk P w K mg base CX0 k f fd ps (spD K ct n g)
def DefAt (K : PySem.W.Frag) (mg : Str → Option Value) (x : Str) (st : Stmt) (ps : List Str) : Prop := ∃ (f : Addr) (fd : FuncData), Fun K x x st f fd ∧ mg x = some (.ref f) ∧ Binds K fd ps []
section
variable {P : Program} {w : World} {K : PySem.W.Frag} {mg : Str → Option Value} {base : Heap} {ct : CT}
theorem Callee.mono {j k n : Nat} {x : Str} {g : FD} (c : Callee P w K mg base ct j x n g) (h : j ≤ k) : Callee P w K mg base ct k x n g := by
  obtain ⟨f, fd, ps, h1, h2, h3, h4⟩ := c
  exact ⟨f, fd, ps, h1, h2, h3, h4.mono h⟩
theorem Callee.told {k n : Nat} {x : Str} {g g' : FD} (c : Callee P w K mg base ct k x n g) (h : ∀ ds S r', g' ds S = some r' → ∃ r, g ds S = some r ∧ Told S r r') : Callee P w K mg base ct k x n g' := by
  obtain ⟨f, fd, ps, h1, h2, h3, h4⟩ := c
  exact ⟨f, fd, ps, h1, h2, h3, told_ok h4 h⟩
theorem callee_of {x : Str} {st : Stmt} {N ps : List Str} {k : Nat} {g : FS} (d : DefAt K mg x st ps) (S : FnScope N ps (defScope st))
    (hbody : ∀ (f : Addr) (cdv : Value) (A : Around) (outer : List Env) (s : Shared) (H : Hp) (E : XK), Room k (A.deeper (envOfC x (defScope st) s.heap.objs.size f cdv)) →
      SSs ct (cxOf CX0 P w K mg base N x (defScope st) f cdv A outer s H E).nox (defBody st) g) : Callee P w K mg base ct (k + 1) x ps.length (runD N.length g) := by
  obtain ⟨f, fd, F, h1, h3⟩ := d
  exact ⟨f, fd, ps, h1, F.kp, h3, def_ok F S (hbody f)⟩
end
section
variable {ct : CT} {X : Cx} {e : Expr} {es : List Expr} {fas : FA} {x : Str} {p pos : Pos}
theorem se_fn {k n : Nat} {g : FD} (C : Callee X.prog X.w X.K X.mg X.base ct k x n g) (hr : Room k X.A) (hg : Gl X x) (ha : SA ct X (e :: es) fas) (hn : ∀ env S ds S', fas env S = some (ds, S') → ds.length = n) (hdb : (x == ("__debug__" : Str)) = false := by decide)
    (he : starEach (e :: es) X.env = (false, eval e X.env) :: starEach es X.env := by rfl) (hpl : (backTo pos (starEach es X.env)).any (·.1) = false := by rfl) : SE ct X (.Call (.Name x p) (e :: es) [] pos) (fCall g fas) := by
  obtain ⟨f, fd, ps, h1, h2, h3, h4⟩ := C
  exact se_call h4 hr hg h1 h2 h3 ha hn hdb he hpl
end
end DL

namespace DL
open PySem PySem.Spec PyProof.Rows L2
/-! ## a written dict by its entries -/
def TabOk (P : Params) : List (Str × Int) → List DictEntry → Prop
  | [], [] => True
  | p :: tab, e :: l => (∃ t t', e.key = .str p.1 t ∧ e.hash = PyData.keyHash P p.1 ∧ e.val = .int p.2 t') ∧ TabOk P tab l
  | _, _ => False
theorem TabOk.lit {P : Params} : ∀ {tab : List (Str × Int)} {l : List DictEntry}, TabOk P tab l → PySem.W.KeysLit P l
  | [], [], _ => trivial
  | p :: tab, e :: l, h => ⟨let ⟨t, _, h1, h2, _⟩ := h.1; ⟨p.1, t, h1, h2⟩, TabOk.lit h.2⟩
  | [], _ :: _, h => h.elim
  | _ :: _, [], h => h.elim
theorem TabOk.find {P : Params} (z : Str) : ∀ {tab : List (Str × Int)} {l : List DictEntry}, TabOk P tab l → RelO ((tab.lookup z).map V.int) ((l.find? fun e => e.key.isStr z).map (·.val)) ∧ (l.any fun e => e.refKey) = false
  | [], [], _ => ⟨trivial, rfl⟩
  | p :: tab, e :: l, h => by
    obtain ⟨⟨t, t', h1, h2, h3⟩, h4⟩ := h
    obtain ⟨i1, i2⟩ := TabOk.find z h4
    obtain ⟨k, i⟩ := p
    have hk : e.key.isStr z = (z == k) := by
      rw [h1, PySem.W.isStr_of]
      simp [Value.isStrOf, BEq.comm]
    refine ⟨?_, ?_⟩
    · rw [List.find?_cons, hk, List.lookup_cons]
      cases hz : z == k with
      | true => exact ⟨t', h3⟩
      | false => exact i1
    · rw [List.any_cons, i2]
      have : e.refKey = false := by
        unfold DictEntry.refKey
        rw [h1]
      rw [this]; rfl
  | [], _ :: _, h => h.elim
  | _ :: _, [], h => h.elim
theorem kg_of {w : World} {K : PySem.W.Frag} {mg : Str → Option Value} {n : Str} {tab : List (Str × Int)} {g : Addr} {es : Array DictEntry} {c : Nat} (hm : mg n = some (.ref g)) (hl : K.lookup g = some ⟨.type "dict", none, .dict es c, #[]⟩) (ht : TabOk w.params tab es.toList) (lo : (g == sysModules) = false) : KG w K mg n tab := by
  refine ⟨g, hm, ⟨es, c, hl, ht.lit, lo⟩, fun z => ?_⟩
  obtain ⟨h1, h2⟩ := ht.find z
  unfold PySem.W.nsIn
  rw [hl]
  dsimp only
  cases hf : es.toList.find? (fun e => e.key.isStr z) with
  | some e =>
    rw [hf] at h1
    exact ⟨some e.val, rfl, h1⟩
  | none =>
    rw [hf] at h1
    refine ⟨none, ?_, h1⟩
    simp only [h2]
    rfl
/-- the law's end: the script alone is tracked -/
theorem sp_law {K : PySem.W.Frag} {ct : CT} {g : FD} {H : Hp} {a : Addr} {ns : List Int} {E : XK} (hS : SqL K H a (ns.map V.int)) (h : ∃ S', g [.scr ns] [] = some (.bl true, S')) : spD K ct 1 g [.ref a] H (fun v _ => v = .bl true) E := by
  obtain ⟨S', h⟩ := h
  exact ⟨rfl, [], H, [], [.scr ns], .bl true, S', ⟨Same.refl _, rfl, List.nodup_nil, fun a h => (by cases h), fun i a c h1 h2 => (by simp at h1)⟩, ⟨_, _, rfl, ⟨a, rfl, hS⟩, rfl⟩, h, fun m' F' v H' _ _ r => r⟩
end DL

namespace DL
open PySem PySem.Spec PyProof.Rows L2
/-! ## steps of a run -/
section
variable {env env' : DEnv} {S S1 S2 : Sto} {f1 f2 : FS} {t : FT} {f : FE} {d : D}
theorem seq_nx (h : f1 env S = some (.nx env', S1)) : sSeq f1 f2 env S = f2 env' S1 := by unfold sSeq; rw [h]; rfl
theorem seq_rt (h : f1 env S = some (.rt d, S1)) : sSeq f1 f2 env S = some (.rt d, S1) := by unfold sSeq; rw [h]; rfl
theorem if_t (h : t env S = some (true, S1)) : sIf t f1 f2 env S = f1 env S1 := by unfold sIf; rw [h]; rfl
theorem if_f (h : t env S = some (false, S1)) : sIf t f1 f2 env S = f2 env S1 := by unfold sIf; rw [h]; rfl
theorem ret_of (h : f env S = some (d, S1)) : sRet f env S = some (.rt d, S1) := by unfold sRet; rw [h]; rfl
theorem asg_of {g : FG} (h : f env S = some (d, S1)) (hg : g d env S1 = some (env', S2)) : sAsg f g env S = some (.nx env', S2) := by unfold sAsg; rw [h]; show (g d env S1).map _ = _; rw [hg]; rfl
theorem set_of {i : Nat} (h : f env S = some (d, S1)) : sAsg f (gN i) env S = some (.nx (env.set i (some d)), S1) := by unfold sAsg; rw [h]; rfl
theorem expr_of (h : f env S = some (d, S1)) : sExpr f env S = some (.nx env, S1) := by unfold sExpr; rw [h]; rfl
theorem call_of {g : FD} {fas : FA} {ds : List D} {r : D × Sto} (h : fas env S = some (ds, S1)) (hg : g ds S1 = some r) : fCall g fas env S = some r := by unfold fCall; rw [h]; exact hg
theorem test_of {b : Bool} (h : f env S = some (.bl b, S1)) : fTest f env S = some (b, S1) := by unfold fTest; rw [h]; rfl
theorem run_of {n : Nat} {g : FS} {ds : List D} (h : g (ds.map some ++ List.replicate (n - ds.length) none) S = some (.rt d, S1)) : runD n g ds S = some (d, S1) := by unfold runD; rw [h]; rfl
theorem run_of0 {n : Nat} {g : FS} {ds : List D} (h : g (ds.map some ++ List.replicate (n - ds.length) none) S = some (.nx env', S1)) : runD n g ds S = some (.non, S1) := by unfold runD; rw [h]; rfl
theorem tnot_of {b : Bool} (h : t env S = some (b, S1)) : tNotD t env S = some (!b, S1) := by unfold tNotD; rw [h]; rfl
theorem for_of {fi : FA} {g : FG} {items : List D} {r : Fl × Sto} (h : fi env S = some (items, S1)) (hf : forD g f1 items env S1 = some r) : sFor fi g f1 env S = some r := by unfold sFor; rw [h]; exact hf
theorem if_of {fa fb : FE} {b : Bool} {r : D × Sto} (h : t env S = some (b, S1)) (h2 : (if b = true then fa env S1 else fb env S1) = some r) : fIf t fa fb env S = some r := by unfold fIf; rw [h]; exact h2
theorem bin_of {g : D → D → Sto → Option (D × Sto)} {fa fb : FE} {x y : D} {r : D × Sto} (h1 : fa env S = some (x, S1)) (h2 : fb env S1 = some (y, S2)) (h3 : g x y S2 = some r) : fBin g fa fb env S = some r := by unfold fBin; rw [h1]; show (fb env S1).bind _ = _; rw [h2]; exact h3
theorem chain_of {g g' : D → D → Sto → Option (D × Sto)} {fa fb fc : FE} {x y : D} {b : Bool} {S3 : Sto} (h1 : fa env S = some (x, S1)) (h2 : fb env S1 = some (y, S2)) (h3 : g x y S2 = some (.bl b, S3)) :
    fChain g g' fa fb fc env S = if b = true then (fc env S3).bind (fun w => g' y w.1 w.2) else some (.bl false, S3) := by
  unfold fChain; rw [h1]; show (fb env S1).bind _ = _; rw [h2]; show (g x y S2).bind _ = _; rw [h3]; cases b <;> rfl
theorem or_of {u : FT} {b : Bool} (h : t env S = some (b, S1)) : tOrD t u env S = if b = true then some (true, S1) else u env S1 := by unfold tOrD; rw [h]; rfl
theorem and_of {u : FT} {b : Bool} (h : t env S = some (b, S1)) : tAndD t u env S = if b = true then u env S1 else some (false, S1) := by unfold tAndD; rw [h]; rfl
theorem vor_of {fa fb : FE} {b : Bool} (h : fa env S = some (.bl b, S1)) : fOr fa fb env S = if b = true then some (.bl true, S1) else fb env S1 := by unfold fOr; rw [h]; cases b <;> rfl
theorem vand_of {fa fb : FE} {b : Bool} (h : fa env S = some (.bl b, S1)) : fAnd fa fb env S = if b = true then fb env S1 else some (.bl false, S1) := by unfold fAnd; rw [h]; cases b <;> rfl
theorem cons_of {fs : FA} {x : D} {ys : List D} (h1 : f env S = some (x, S1)) (h2 : fs env S1 = some (ys, S2)) : fCons f fs env S = some (x :: ys, S2) := by unfold fCons; rw [h1]; show (fs env S1).bind _ = _; rw [h2]; rfl
theorem dget2_of {fd fk fx : FE} {z y w : D} {S3 : Sto} {kvs0 kvs : List (Key × D)} {key : Key} (h1 : fd env S = some (z, S1)) (h2 : kvsOf z S1 = some kvs0) (h3 : fk env S1 = some (y, S2)) (h4 : fx env S2 = some (w, S3)) (h5 : kvsOf z S3 = some kvs) (h6 : toKey y = some key) :
    fDGet2 fd fk fx env S = some ((valA kvs key).getD w, S3) := by
  unfold fDGet2
  rw [h1]
  show (kvsOf z S1).bind _ = _
  rw [h2]
  show (fk env S1).bind _ = _
  rw [h3]
  show (fx env S2).bind _ = _
  rw [h4]
  show (kvsOf z S3).bind _ = _
  rw [h5]
  show (toKey y).map _ = _
  rw [h6]
  rfl
/-! ## loops by an invariant -/
theorem for_inv {g : FG} {body : FS} {items : List D} (I : Nat → DEnv → Sto → Prop) (h0 : I 0 env S)
    (hs : ∀ i d env S, items[i]? = some d → I i env S → ∃ env1 S1 env2 S2, g d env S = some (env1, S1) ∧ body env1 S1 = some (.nx env2, S2) ∧ I (i + 1) env2 S2) : ∃ env' S', forD g body items env S = some (.nx env', S') ∧ I items.length env' S' := by
  suffices h : ∀ (r : List D) (i : Nat) (env : DEnv) (S : Sto), items.drop i = r → I i env S → ∃ env' S', forD g body r env S = some (.nx env', S') ∧ I (i + r.length) env' S' by
    obtain ⟨e1, S1, h1, h2⟩ := h items 0 env S rfl h0
    exact ⟨e1, S1, h1, by simpa using h2⟩
  intro r
  induction r with
  | nil => intro i env S _ hi; exact ⟨env, S, rfl, hi⟩
  | cons d r ih =>
    intro i env S hd hi
    obtain ⟨q1, q2⟩ := drop_cons hd
    obtain ⟨env1, S1, env2, S2, a1, a2, a3⟩ := hs i d env S q1 hi
    obtain ⟨env', S', b1, b2⟩ := ih (i + 1) env2 S2 q2 a3
    refine ⟨env', S', ?_, by rw [List.length_cons, ← Nat.add_assoc, Nat.add_right_comm]; exact b2⟩
    unfold forD
    rw [a1]
    show (body env1 S1).bind _ = _
    rw [a2]
    exact b1
/-- a loop over the items of a list, by membership -/
theorem for_mem {g : FG} {body : FS} {items : List D} (I : DEnv → Sto → Prop) (h0 : I env S)
    (hs : ∀ d ∈ items, ∀ env S, I env S → ∃ env1 S1 env2 S2, g d env S = some (env1, S1) ∧ body env1 S1 = some (.nx env2, S2) ∧ I env2 S2) : ∃ env' S', forD g body items env S = some (.nx env', S') ∧ I env' S' :=
  for_inv (fun _ => I) h0 fun i d env S hi h => hs d (List.mem_of_getElem? hi) env S h
end
/-! ## the last cell of a store -/
theorem get_last (S : Sto) (c : Cell) : (S ++ [c])[S.length]? = some c := by simp
theorem set_last (S : Sto) (c d : Cell) : (S ++ [c]).set S.length d = S ++ [d] := by simp
theorem gset_at (S : Sto) (kvs : List (Key × D)) (x : Str) (v : D) (h : kvs.length ≤ 1000000) : gSetA (.ref S.length) (.str x) v (S ++ [.dct kvs]) = some (S ++ [.dct (putA kvs (.inr x) v)]) := by
  unfold gSetA
  simp only [get_last, set_last, toKey]
  rw [if_pos h]
  rfl
theorem kvs_last (S : Sto) (kvs : List (Key × D)) : kvsOf (.ref S.length) (S ++ [.dct kvs]) = some kvs := by
  unfold kvsOf
  simp only [get_last]
theorem putA_len {α : Type} (kvs : List (Key × α)) (k : Key) (v : α) : (putA kvs k v).length ≤ kvs.length + 1 := by
  unfold putA
  split <;> simp
section
variable {env : DEnv} {S : Sto} {kvs : List (Key × D)} {i : Nat} {e e1 e2 e3 : FE} {v v1 v2 v3 : D} {fk fk1 fk2 fk3 : FE} {a b c : Str}
theorem asg1_at (hi : env[i]? = some (some (.ref S.length))) (hl : kvs.length ≤ 100) (h1 : e env (S ++ [.dct kvs]) = some (v, S ++ [.dct kvs])) (k1 : ∀ S, fk env S = some (.str a, S)) :
    sAsg e (gSub gSetA (fVar i) fk) env (S ++ [.dct kvs]) = some (.nx env, S ++ [.dct (putA kvs (.inr a) v)]) := by
  refine asg_of h1 ?_
  unfold gSub fVar
  simp only [hi, Option.bind_some, k1, gset_at _ _ _ _ (Nat.le_trans hl (by decide)), Option.map_some]
theorem asg2_at (hi : env[i]? = some (some (.ref S.length))) (hl : kvs.length ≤ 100) (h1 : e1 env (S ++ [.dct kvs]) = some (v1, S ++ [.dct kvs])) (h2 : e2 env (S ++ [.dct kvs]) = some (v2, S ++ [.dct kvs]))
    (k1 : ∀ S, fk1 env S = some (.str a, S)) (k2 : ∀ S, fk2 env S = some (.str b, S)) :
    sAsg (fTup (fCons e1 (fCons e2 fNil))) (gTup 2 (gCons (gSub gSetA (fVar i) fk1) (gCons (gSub gSetA (fVar i) fk2) gNil))) env (S ++ [.dct kvs]) = some (.nx env, S ++ [.dct (putA (putA kvs (.inr a) v1) (.inr b) v2)]) := by
  have l1 := putA_len kvs (.inr a) v1
  refine asg_of (d := .tup [v1, v2]) (S1 := S ++ [.dct kvs]) ?_ ?_
  · unfold fTup fCons fNil
    simp only [h1, h2, Option.bind_some, List.length_cons, List.length_nil]
    rfl
  · show (gCons (gSub gSetA (fVar i) fk1) (gCons (gSub gSetA (fVar i) fk2) gNil)) [v1, v2] env (S ++ [.dct kvs]) = _
    unfold gCons gNil gSub fVar
    simp only [hi, Option.bind_some, k1, k2, gset_at _ _ _ _ (show kvs.length ≤ 1000000 by omega), gset_at _ _ _ _ (show (putA kvs (.inr a) v1).length ≤ 1000000 by omega), Option.map_some]
theorem asg3_at (hi : env[i]? = some (some (.ref S.length))) (hl : kvs.length ≤ 100) (h1 : e1 env (S ++ [.dct kvs]) = some (v1, S ++ [.dct kvs])) (h2 : e2 env (S ++ [.dct kvs]) = some (v2, S ++ [.dct kvs])) (h3 : e3 env (S ++ [.dct kvs]) = some (v3, S ++ [.dct kvs]))
    (k1 : ∀ S, fk1 env S = some (.str a, S)) (k2 : ∀ S, fk2 env S = some (.str b, S)) (k3 : ∀ S, fk3 env S = some (.str c, S)) :
    sAsg (fTup (fCons e1 (fCons e2 (fCons e3 fNil)))) (gTup 3 (gCons (gSub gSetA (fVar i) fk1) (gCons (gSub gSetA (fVar i) fk2) (gCons (gSub gSetA (fVar i) fk3) gNil)))) env (S ++ [.dct kvs]) = some (.nx env, S ++ [.dct (putA (putA (putA kvs (.inr a) v1) (.inr b) v2) (.inr c) v3)]) := by
  have l1 := putA_len kvs (.inr a) v1
  have l2 := putA_len (putA kvs (.inr a) v1) (.inr b) v2
  refine asg_of (d := .tup [v1, v2, v3]) (S1 := S ++ [.dct kvs]) ?_ ?_
  · unfold fTup fCons fNil
    simp only [h1, h2, h3, Option.bind_some, List.length_cons, List.length_nil]
    rfl
  · show (gCons (gSub gSetA (fVar i) fk1) (gCons (gSub gSetA (fVar i) fk2) (gCons (gSub gSetA (fVar i) fk3) gNil))) [v1, v2, v3] env (S ++ [.dct kvs]) = _
    unfold gCons gNil gSub fVar
    simp only [hi, Option.bind_some, k1, k2, k3, gset_at _ _ _ _ (show kvs.length ≤ 1000000 by omega), gset_at _ _ _ _ (show (putA kvs (.inr a) v1).length ≤ 1000000 by omega), gset_at _ _ _ _ (show (putA (putA kvs (.inr a) v1) (.inr b) v2).length ≤ 1000000 by omega), Option.map_some]
end
end DL

namespace DL
open PySem PySem.Spec PyProof.Rows L2 TL
/-! ## numbers as texts -/
def numT (n : Nat) : Str := Str.ofString (toString ((n : Nat) : Int))
theorem numT_tl (n : Nat) : (numT n).cps.toList = numL n := tl_num n
theorem numT_len (n : Nat) : (numT n).length = (numL n).length := by
  have := numT_tl n
  unfold Str.length
  rw [← this]
  simp
def DIG : Str := "0123456789"
theorem dig_list : DIG.cps.toList = [48, 49, 50, 51, 52, 53, 54, 55, 56, 57] := by decide +kernel
theorem dig_iff (c : Nat) : decide (c ∈ DIG.cps.toList) = (decide (48 ≤ c) && decide (c ≤ 57)) := by
  rw [dig_list]
  by_cases h : 48 ≤ c ∧ c ≤ 57
  · have : c = 48 ∨ c = 49 ∨ c = 50 ∨ c = 51 ∨ c = 52 ∨ c = 53 ∨ c = 54 ∨ c = 55 ∨ c = 56 ∨ c = 57 := by omega
    rcases this with rfl | rfl | rfl | rfl | rfl | rfl | rfl | rfl | rfl | rfl <;> decide
  · rw [decide_eq_false (by simp; omega)]
    by_cases h1 : 48 ≤ c
    · have h2 : ¬ c ≤ 57 := fun q => h ⟨h1, q⟩
      rw [decide_eq_false h2, Bool.and_false]
    · rw [decide_eq_false h1, Bool.false_and]
theorem notIn_dig (c : Nat) (S : Sto) : gNotIn (.str ⟨#[c]⟩) (.str DIG) S = some (.bl (!(decide (48 ≤ c) && decide (c ≤ 57))), S) := by
  show some (D.bl (!(!(Builtin.Str.occurrences DIG ⟨#[c]⟩ 0 DIG.length 1).isEmpty)), S) = _
  rw [PySem.StrLaws.found_one, dig_iff]
theorem in_dig (c : Nat) (S : Sto) : gIn (.str ⟨#[c]⟩) (.str DIG) S = some (.bl (decide (48 ≤ c) && decide (c ≤ 57)), S) := by
  show some (D.bl (!(Builtin.Str.occurrences DIG ⟨#[c]⟩ 0 DIG.length 1).isEmpty), S) = _
  rw [PySem.StrLaws.found_one, dig_iff]
/-- [sign not in DIGITS for sign in text] -/
theorem lc_notdig {env : DEnv} {i : Nat} (hi : i < env.length) (S : Sto) : ∀ l : List Nat, lcD (gN i) tYesD (fBin gNotIn (fVar i) (fC (.str DIG))) env (l.map fun c => D.str ⟨#[c]⟩) S = some (l.map fun c => D.bl (!(decide (48 ≤ c) && decide (c ≤ 57))), S)
  | [] => rfl
  | c :: l => by
    have e : (env.set i (some (D.str ⟨#[c]⟩)))[i]? = some (some (D.str ⟨#[c]⟩)) := by rw [List.getElem?_set_self hi]
    have ih := lc_notdig hi S l
    simp only [List.map_cons, lcD, gN, tYesD, Option.bind_some, if_true, fBin, fVar, fC, e, notIn_dig, ih]
theorem asBools_map (p : Nat → Bool) : ∀ l : List Nat, asBools (l.map fun c => D.bl (p c)) = some (l.map p)
  | [] => rfl
  | c :: l => by
    show (asBools (l.map fun c => D.bl (p c))).map _ = _
    rw [asBools_map p l]
    rfl
theorem numL_head : ∀ n : Nat, 0 < n → ∃ c r, numL n = c :: r ∧ c ≠ 48 := by
  intro n
  induction n using Nat.strongRecOn with
  | _ n ih =>
    intro hn
    by_cases h : n < 10
    · exact ⟨48 + n, [], numL_lt h, by omega⟩
    · obtain ⟨c, r, e, hc⟩ := ih (n / 10) (by omega) (by omega)
      rw [numL_step (by omega), e]
      exact ⟨c, r ++ [48 + n % 10], rfl, hc⟩
theorem lc_nat (env : DEnv) (f : FE) (x : Str) (S : Sto) (i : Nat) (hf : f env S = some (.str x, S)) (hi : i < env.length) (hx : x.length ≤ 1000000) :
    fLc (iStrD f) (gN i) tYesD (fBin gNotIn (fVar i) (fC (.str DIG))) [i] env S = some (.lst (x.cps.toList.map fun c => D.bl (!(decide (48 ≤ c) && decide (c ≤ 57)))), S) := by
  unfold fLc iStrD
  rw [hf]
  show (if (x.cps.toList.map fun c => D.str ⟨#[c]⟩).length ≤ 1000000 then (lcD _ _ _ (wipeD env [i]) (x.cps.toList.map fun c => D.str ⟨#[c]⟩) S).bind _ else none) = _
  have hl : (x.cps.toList.map fun c => D.str ⟨#[c]⟩).length ≤ 1000000 := by
    rw [List.length_map]
    simpa [Str.length] using hx
  rw [if_pos hl, lc_notdig (by show i < (env.set i none).length; simpa using hi)]
  rfl
end DL

namespace DL
open PySem PySem.Spec PyProof.Rows L2
/-! ## runs, by what holds behind them -/
def R {α : Type} (o : Option (α × Sto)) (P : α → Sto → Prop) : Prop := ∃ a S', o = some (a, S') ∧ P a S'
section
variable {α β : Type} {env : DEnv} {S S1 : Sto} {f1 f2 : FS} {t u : FT} {f fa fb fc : FE} {fas : FA}
theorem R.of {o : Option (α × Sto)} {P : α → Sto → Prop} {a : α} (h : o = some (a, S1)) (p : P a S1) : R o P := ⟨a, S1, h, p⟩
theorem R.imp {o : Option (α × Sto)} {P P' : α → Sto → Prop} (h : R o P) (hp : ∀ a S, P a S → P' a S) : R o P' := by
  obtain ⟨a, S', e, p⟩ := h
  exact ⟨a, S', e, hp _ _ p⟩
theorem R.bind {o : Option (α × Sto)} {k : α × Sto → Option (β × Sto)} {P : β → Sto → Prop} (h : R o fun a S => R (k (a, S)) P) : R (o.bind k) P := by
  obtain ⟨a, S', e, p⟩ := h
  rw [e]
  exact p
theorem R.eq {o : Option (α × Sto)} {a : α} (h : R o fun x S' => x = a ∧ S' = S) : o = some (a, S) := by
  obtain ⟨x, S', e, h1, h2⟩ := h
  rw [e, h1, h2]
def PFl (P : Fl → Sto → Prop) (f2 : FS) : Fl → Sto → Prop
  | .nx env', S1 => R (f2 env' S1) P
  | fl, S1 => P fl S1
theorem r_seq {P : Fl → Sto → Prop} (h : R (f1 env S) (PFl P f2)) : R (sSeq f1 f2 env S) P := by
  obtain ⟨fl, S', e, p⟩ := h
  unfold sSeq
  rw [e]
  cases fl with
  | nx env' => exact p
  | rt d => exact ⟨_, _, rfl, p⟩
  | bk e => exact ⟨_, _, rfl, p⟩
  | ct e => exact ⟨_, _, rfl, p⟩
theorem r_nx {P : Fl → Sto → Prop} {env' : DEnv} (h : f1 env S = some (.nx env', S1)) (k : R (f2 env' S1) P) : R (sSeq f1 f2 env S) P := r_seq (R.of h k)
theorem r_if {P : Fl → Sto → Prop} (h : R (t env S) fun b S1 => if b = true then R (f1 env S1) P else R (f2 env S1) P) : R (sIf t f1 f2 env S) P := by
  obtain ⟨b, S', e, p⟩ := h
  unfold sIf
  rw [e]
  show R (if b = true then f1 env S' else f2 env S') P
  cases b <;> exact p
theorem r_ifT {P : Fl → Sto → Prop} (h : t env S = some (true, S1)) (k : R (f1 env S1) P) : R (sIf t f1 f2 env S) P := r_if (R.of h k)
theorem r_ifF {P : Fl → Sto → Prop} (h : t env S = some (false, S1)) (k : R (f2 env S1) P) : R (sIf t f1 f2 env S) P := r_if (R.of h k)
theorem r_set {P : Fl → Sto → Prop} {i : Nat} (h : R (f env S) fun d S1 => P (.nx (env.set i (some d))) S1) : R (sAsg f (gN i) env S) P := by
  obtain ⟨d, S', e, p⟩ := h
  exact ⟨_, _, set_of e, p⟩
theorem r_ret {P : Fl → Sto → Prop} (h : R (f env S) fun d S1 => P (.rt d) S1) : R (sRet f env S) P := by
  obtain ⟨d, S', e, p⟩ := h
  exact ⟨_, _, ret_of e, p⟩
theorem r_skip {P : Fl → Sto → Prop} (h : P (.nx env) S) : R (sSkip env S) P := ⟨_, _, rfl, h⟩
theorem r_call {P : D → Sto → Prop} {g : FD} {ds : List D} (h : fas env S = some (ds, S1)) (hg : R (g ds S1) P) : R (fCall g fas env S) P := by
  obtain ⟨d, S', e, p⟩ := hg
  exact ⟨_, _, call_of h e, p⟩
theorem r_callA {P : D → Sto → Prop} {g : FD} (h : R (fas env S) fun ds S1 => R (g ds S1) P) : R (fCall g fas env S) P := by
  obtain ⟨ds, S', e, d, S2, e2, p⟩ := h
  exact ⟨_, _, call_of e e2, p⟩
theorem r_nil {P : List D → Sto → Prop} (h : P [] S) : R (fNil env S) P := ⟨_, _, rfl, h⟩
theorem r_cons {P : List D → Sto → Prop} (h : R (f env S) fun d S1 => R (fas env S1) fun ds S2 => P (d :: ds) S2) : R (fCons f fas env S) P := by
  obtain ⟨d, S', e, ds, S2, e2, p⟩ := h
  exact ⟨_, _, cons_of e e2, p⟩
theorem r_bin {P : D → Sto → Prop} {g : D → D → Sto → Option (D × Sto)} (h : R (fa env S) fun x S1 => R (fb env S1) fun y S2 => R (g x y S2) P) : R (fBin g fa fb env S) P := by
  obtain ⟨d, S', e, ds, S2, e2, z, S3, e3, p⟩ := h
  exact ⟨_, _, bin_of e e2 e3, p⟩
theorem r_test {P : Bool → Sto → Prop} (h : R (f env S) fun d S1 => ∃ b, d = .bl b ∧ P b S1) : R (fTest f env S) P := by
  obtain ⟨d, S', e, b, rfl, p⟩ := h
  exact ⟨_, _, test_of e, p⟩
theorem r_not {P : Bool → Sto → Prop} (h : R (t env S) fun b S1 => P (!b) S1) : R (tNotD t env S) P := by
  obtain ⟨d, S', e, p⟩ := h
  exact ⟨_, _, tnot_of e, p⟩
theorem r_and {P : Bool → Sto → Prop} (h : R (t env S) fun b S1 => if b = true then R (u env S1) P else P false S1) : R (tAndD t u env S) P := by
  obtain ⟨b, S', e, p⟩ := h
  rw [R, and_of e]
  cases b with
  | true => exact p
  | false => exact ⟨_, _, rfl, p⟩
theorem r_or {P : Bool → Sto → Prop} (h : R (t env S) fun b S1 => if b = true then P true S1 else R (u env S1) P) : R (tOrD t u env S) P := by
  obtain ⟨b, S', e, p⟩ := h
  rw [R, or_of e]
  cases b with
  | false => exact p
  | true => exact ⟨_, _, rfl, p⟩
theorem r_fif {P : D → Sto → Prop} (h : R (t env S) fun b S1 => if b = true then R (fa env S1) P else R (fb env S1) P) : R (fIf t fa fb env S) P := by
  obtain ⟨b, S', e, p⟩ := h
  unfold fIf
  rw [e]
  show R (if b = true then fa env S' else fb env S') P
  cases b <;> exact p
def PBk (I : DEnv → Sto → Prop) (P : Fl → Sto → Prop) : Fl → Sto → Prop
  | .nx e, S => I e S
  | .ct e, S => I e S
  | .bk e, S => P (.nx e) S
  | .rt d, S => P (.rt d) S
theorem r_forD {P : Fl → Sto → Prop} {g : FG} {body : FS} {items : List D} (I : Nat → DEnv → Sto → Prop) (h0 : I 0 env S)
    (hs : ∀ i d env S, items[i]? = some d → I i env S → R (g d env S) fun env1 S1 => R (body env1 S1) (PBk (I (i + 1)) P)) (hd : ∀ env S, I items.length env S → P (.nx env) S) : R (forD g body items env S) P := by
  suffices h : ∀ (r : List D) (i : Nat) (env : DEnv) (S : Sto), items.drop i = r → i + r.length = items.length → I i env S → R (forD g body r env S) P from h items 0 env S rfl (by simp) h0
  intro r
  induction r with
  | nil =>
    intro i env S hd' hl hi
    have hl : i = items.length := by simpa using hl
    subst hl
    exact ⟨_, _, rfl, hd _ _ hi⟩
  | cons d r ih =>
    intro i env S hd' hl hi
    obtain ⟨q1, q2⟩ := drop_cons hd'
    obtain ⟨env1, S1, e1, fl, S2, e2, p⟩ := hs i d env S q1 hi
    have hl' : i + 1 + r.length = items.length := by
      rw [List.length_cons] at hl
      omega
    unfold forD
    rw [e1]
    show R ((body env1 S1).bind _) P
    rw [e2]
    cases fl with
    | nx e => exact ih (i + 1) e S2 q2 hl' p
    | ct e => exact ih (i + 1) e S2 q2 hl' p
    | bk e => exact ⟨_, _, rfl, p⟩
    | rt d => exact ⟨_, _, rfl, p⟩
theorem r_for {P : Fl → Sto → Prop} {fi : FA} {g : FG} {body : FS} {items : List D} (h : fi env S = some (items, S1)) (I : Nat → DEnv → Sto → Prop) (h0 : I 0 env S1)
    (hs : ∀ i d env S, items[i]? = some d → I i env S → R (g d env S) fun env1 S1 => R (body env1 S1) (PBk (I (i + 1)) P)) (hd : ∀ env S, I items.length env S → P (.nx env) S) : R (sFor fi g body env S) P := by
  obtain ⟨a, S', e, p⟩ := r_forD (P := P) I h0 hs hd
  exact ⟨_, _, for_of h e, p⟩
/-- a loop whose turns keep one word -/
theorem r_forM {P : Fl → Sto → Prop} {fi : FA} {g : FG} {body : FS} {items : List D} (h : fi env S = some (items, S1)) (I : DEnv → Sto → Prop) (h0 : I env S1)
    (hs : ∀ d ∈ items, ∀ env S, I env S → R (g d env S) fun env1 S1 => R (body env1 S1) (PBk I P)) (hd : ∀ env S, I env S → P (.nx env) S) : R (sFor fi g body env S) P :=
  r_for h (fun _ => I) h0 (fun i d env S hi h => hs d (List.mem_of_getElem? hi) env S h) hd
def PRun (P : D → Sto → Prop) : Fl → Sto → Prop
  | .rt d, S => P d S
  | .nx _, S => P .non S
  | _, _ => False
theorem r_run {P : D → Sto → Prop} {n : Nat} {g : FS} {ds : List D} (h : R (g (ds.map some ++ List.replicate (n - ds.length) none) S) (PRun P)) : R (runD n g ds S) P := by
  obtain ⟨fl, S', e, p⟩ := h
  cases fl with
  | rt d => exact ⟨_, _, run_of e, p⟩
  | nx e' => exact ⟨_, _, run_of0 e, p⟩
  | bk _ => exact p.elim
  | ct _ => exact p.elim
theorem r_par {P : Fl → Sto → Prop} {i j : Nat} (h : R (fas env S) fun ds S1 => ∃ v w, ds = [v, w] ∧ P (.nx ((env.set i (some v)).set j (some w))) S1) : R (sPar i j fas env S) P := by
  obtain ⟨ds, S', e, v, w, rfl, p⟩ := h
  refine ⟨_, _, ?_, p⟩
  unfold sPar
  rw [e]
  rfl
theorem r_tup {P : D → Sto → Prop} (h : R (fas env S) fun ds S1 => ds.length ≤ 1000 ∧ P (.tup ds) S1) : R (fTup fas env S) P := by
  obtain ⟨ds, S', e, hl, p⟩ := h
  refine ⟨_, _, ?_, p⟩
  unfold fTup
  rw [e]
  show (if ds.length ≤ 1000 then _ else _) = _
  rw [if_pos hl]
end
end DL

namespace DL
open PySem PySem.Spec PyProof.Rows L2
variable {ct : CT} {X : Cx}
/-! ## a value that is never asked for -/
def fNever : FE := fun _ _ => none
theorem pe_never {e : Expr} : PE X e (fun _ _ _ => False) := ⟨fun _ _ _ _ _ _ h => h.elim⟩
theorem se_never {e : Expr} : SE ct X e fNever := ⟨_, pe_never, fun m F S σ H env d S' Q s en h p => by cases h⟩
/-! ## divmod -/
def cDivmod : FD
  | [.int i, .int j], S => if 0 < j ∧ j.natAbs.log2 < 9000 then some (.tup [.int (i / j), .int (i % j)], S) else none
  | _, _ => none
theorem cd_divmod {K : PySem.W.Frag} : CallD ct K (fun xs H Q => ∃ i j, xs = [.int i, .int j] ∧ CDivP i j ∧ ∀ p, H p = none → Q (.ref p) (upd H p (.tup [.int (i / j), .int (i % j)]))) cDivmod := by
  intro m F S H xs ds d S' Q s r h p
  unfold cDivmod at h
  split at h
  · rename_i i j
    split at h
    · rename_i hc
      cases h
      obtain ⟨v, u, e1, e2, e3⟩ := reps2 r
      have e2 : v = .int i := e2
      have e3 : u = .int j := e3
      subst e2 e3
      refine ⟨i, j, e1, ⟨hc.1, PyProof.noPylong_of_log2 hc.2⟩, fun q hq => ?_⟩
      obtain ⟨s2, x2⟩ := s.frozen hq (.tup [.int (i / j), .int (i % j)])
      exact p m _ (.ref q) _ x2 s2 ⟨q, _, rfl, SqT.of upd_same, ⟨_, _, rfl, rfl, _, _, rfl, rfl, rfl⟩⟩
    · cases h
  · cases h
end DL

namespace LW
open PySem PySem.Spec PyProof.Rows L2 DL
def topS (i : Nat) : Stmt := PySem.Challenge.pw_forcedties_k51_most_ties_judged.main.body.getD i (.Pass ⟨0, 0, 0, 0⟩)
def tab_LEAST : List (Str × Int) := [("crowd", 2), ("star", 1), ("pairs", 1), ("row", 2), ("ring", 3), ("core", 1), ("linked", 1)]
def tab_LENGTHS : List (Str × Int) := [("most", 4), ("least", 4), ("follows", 3), ("parted", 4), ("alike", 3), ("shape", 3), ("holds", 3), ("free", 3), ("forcing", 4), ("out", 4)]
structure Txt (w : World) (K : PySem.W.Frag) (mg : Str → Option Value) : Prop where
  n_abs : mg "abs" = none
  n_any : mg "any" = none
  n_bool : mg "bool" = none
  n_divmod : mg "divmod" = none
  n_int : mg "int" = none
  n_isinstance : mg "isinstance" = none
  n_len : mg "len" = none
  n_max : mg "max" = none
  n_min : mg "min" = none
  n_range : mg "range" = none
  n_str : mg "str" = none
  n_tuple : mg "tuple" = none
  c_DIGITS : CG mg "DIGITS" (.str "0123456789")
  c_MOST_ASKED : CG mg "MOST_ASKED" (.int 10000000000000000000000000000000000000000)
  k_LEAST : KG w K mg "LEAST" tab_LEAST
  k_LENGTHS : KG w K mg "LENGTHS" tab_LENGTHS
  d_is_integer : DefAt K mg "is_integer" (topS 25) ["value"]
  d_is_between : DefAt K mg "is_between" (topS 26) ["value", "least", "most"]
  d_natural : DefAt K mg "natural" (topS 32) ["text", "most"]
  d_thing_of : DefAt K mg "thing_of" (topS 33) ["text"]
  d_pairs_of : DefAt K mg "pairs_of" (topS 35) ["many"]
  d_most_without_rings : DefAt K mg "most_without_rings" (topS 37) ["kind", "size", "people"]
  d_most_ties : DefAt K mg "most_ties" (topS 36) ["kind", "size", "people"]
  d_is_number : DefAt K mg "is_number" (topS 28) ["word", "thing", "people", "told"]
  d_accepts : DefAt K mg "accepts" (topS 27) ["claim", "certificate"]
  d__law_stock : DefAt K mg "_law_stock" (topS 54) ["_law_script", "_law_k"]
  d__law_take : DefAt K mg "_law_take" (topS 55) ["_law_stock_here", "_law_many"]
  d__law_agrees : DefAt K mg "_law_agrees" (topS 56) ["_law_claim", "_law_paper", "_law_due_here"]
  d__law_is : DefAt K mg "_law_is" (topS 57) ["_law_value", "_law_least_here", "_law_most_here"]
  d__law_word : DefAt K mg "_law_word" (topS 58) ["_law_kind", "_law_size"]
  d__law_some_kind : DefAt K mg "_law_some_kind" (topS 59) ["_law_stock_here"]
  d__law_least : DefAt K mg "_law_least" (topS 60) ["_law_kind"]
  d__law_most : DefAt K mg "_law_most" (topS 61) ["_law_kind", "_law_size", "_law_many"]
  d__law_some_number : DefAt K mg "_law_some_number" (topS 62) ["_law_stock_here"]
  d__law_some_many : DefAt K mg "_law_some_many" (topS 63) ["_law_stock_here", "_law_size"]
  d__law_due : DefAt K mg "_law_due" (topS 64) ["_law_kind", "_law_size", "_law_many", "_law_told", "_law_paper"]
  d__law_judged : DefAt K mg "_law_judged" (topS 65) ["_law_kind", "_law_size", "_law_many", "_law_told", "_law_paper"]
  d__law_right : DefAt K mg "_law_right" (topS 66) ["_law_stock_here"]
  d_law : DefAt K mg "law" (topS 67) ["_law_script"]
variable {P : Program} {w : World} {K : PySem.W.Frag} {mg : Str → Option Value} {base : Heap} {ct : CT}
abbrev s_is_integer : Stmt := topS 25
theorem sc_is_integer : FnScope ["value"] ["value"] (defScope s_is_integer) := ⟨rfl, rfl, rfl, by decide +kernel, rfl, by decide +kernel, by decide +kernel⟩
def b_is_integer : FS :=
  (sRet (fAnd (fIsi "int" (fVar 0)) (fNot (fIsi "bool" (fVar 0)))))
def d_is_integer : FD := runD 1 (b_is_integer)
theorem ok_is_integer {k : Nat} (T : Txt w K mg) : Callee P w K mg base ct (k + 1) "is_integer" 1 (d_is_integer) :=
  callee_of T.d_is_integer sc_is_integer fun f cdv A outer s H E hr =>
    (sss_one (ss_ret (se_and (se_isi (by rfl) T.n_isinstance (se_var 0) (by rfl) T.n_int (by decide +kernel)) (se_one (se_not (se_isi (by rfl) T.n_isinstance (se_var 0) (by rfl) T.n_bool (by decide +kernel)))))))
abbrev s_is_between : Stmt := topS 26
theorem sc_is_between : FnScope ["value", "least", "most"] ["value", "least", "most"] (defScope s_is_between) := ⟨rfl, rfl, rfl, by decide +kernel, rfl, by decide +kernel, by decide +kernel⟩
def b_is_between (c_is_integer : FD) : FS :=
  (sRet (fAnd (fCall c_is_integer (fCons (fVar 0) fNil)) (fChain gLe gLe (fVar 1) (fVar 0) (fVar 2))))
def d_is_between (c_is_integer : FD) : FD := runD 3 (b_is_between c_is_integer)
theorem ok_is_between {c_is_integer : FD} {k : Nat} (T : Txt w K mg) (C_is_integer : Callee P w K mg base ct k "is_integer" 1 c_is_integer) : Callee P w K mg base ct (k + 1) "is_between" 3 (d_is_between c_is_integer) :=
  callee_of T.d_is_between sc_is_between fun f cdv A outer s H E hr =>
    (sss_one (ss_ret (se_and (se_fn C_is_integer hr (by rfl) (sa_cons (se_var 0) sa_nil) (fCons_len (fun _ _ _ _ h => fNil_len h))) (se_one (se_chain op_le od_le op_le od_le (se_var 1) (se_var 0) (se_var 2))))))
abbrev s_natural : Stmt := topS 32
theorem sc_natural : FnScope ["text", "most", "sign"] ["text", "most"] (defScope s_natural) := ⟨rfl, rfl, rfl, by decide +kernel, rfl, by decide +kernel, by decide +kernel⟩
def b_natural : FS :=
  (sSeq (sIf (tOrD (tNotD (fTest (fChain gLe gLe (fC (.int 1)) (fCall cLen (fCons (fVar 0) fNil)) (fVar 1)))) (fTest (fCall cAny (fCons (fLc (iStrD (fVar 0)) (gN 2) tYesD (fBin gNotIn (fVar 2) (fC (.str "0123456789"))) [2]) fNil)))) (sRet (fC .non)) sSkip)
    (sRet (fIf (tOrD (fTest (fBin gEq (fVar 0) (fC (.str "0")))) (fTest (fBin gNe (fBin gIx (fVar 0) (fC (.int 0))) (fC (.str "0"))))) (fCall cInt (fCons (fVar 0) fNil)) (fC .non))))
def d_natural : FD := runD 3 (b_natural)
theorem ok_natural {k : Nat} (T : Txt w K mg) : Callee P w K mg base ct (k + 1) "natural" 2 (d_natural) :=
  callee_of T.d_natural sc_natural fun f cdv A outer s H E hr =>
    (sss_cons (ss_if (SW.st (sw_or (st_not (st_chain op_le od_le op_le od_le se_int (se_callB call_lenAll cd_len (by rfl) T.n_len (by decide +kernel) (sa_cons (se_var 0) sa_nil)) (se_var 1))) (sw_or1 (st_val (se_callB (cr_any rfl) cd_any (by rfl) T.n_any (by decide +kernel) (sa_cons (se_lc (own := [("sign", 2)]) rfl sc_natural.nd (si_str (se_var 0)) (blkOk_by (own := [("sign", 2)]) (N := ["text", "most", "sign"]) (sc := defScope s_natural) (by decide +kernel)) (fun _ _ _ _ _ => (sgw_name (i := 2) sc_natural.nd rfl (Or.inl rfl) (by decide))) (fun _ _ _ _ _ => sts_nil) (fun _ _ _ _ _ => (se_cmp op_notInAll od_notIn (se_var 2) (se_globC (d := (.str "0123456789")) (by rfl) T.c_DIGITS (fun _ _ => rfl)) (by rfl)))) sa_nil)))))) (sss_one (ss_ret se_non)) sss_nil)
      (sss_one (ss_ret (se_if (SW.st (sw_or (st_cmp (op_eqAll hr) od_eq (se_var 0) se_str (nomark _)) (sw_or1 (st_cmp (op_neAll hr) od_ne (se_ix ix_seq od_ix (se_var 0) se_int (fun _ _ => rfl)) se_str (nomark _))))) (se_callTy call_intAll cd_int (by rfl) T.n_int (by decide +kernel) (sa_cons (se_var 0) sa_nil)) se_non))))
abbrev s_thing_of : Stmt := topS 33
theorem sc_thing_of : FnScope ["text", "kind", "gap", "rest", "size"] ["text"] (defScope s_thing_of) := ⟨rfl, rfl, rfl, by decide +kernel, rfl, by decide +kernel, by decide +kernel⟩
def b_thing_of (c_natural : FD) : FS :=
  (sSeq (sIf (tNotD (fTest (fIsi "str" (fVar 0)))) (sRet (fC .non)) sSkip)
    (sSeq (sIf (fTest (fBin gIn (fVar 0) (fTup (fCons (fC (.str "odd ring")) (fCons (fC (.str "even ring")) fNil))))) (sRet (fTup (fCons (fVar 0) (fCons (fC .non) fNil)))) sSkip)
    (sSeq (sAsg (fPart (fVar 0) (fC (.str " "))) (gTup 3 (gCons (gN 1) (gCons (gN 2) (gCons (gN 3) gNil)))))
    (sSeq (sAsg (fCall c_natural (fCons (fVar 3) (fCons (fC (.int 41)) fNil))) (gN 4))
    (sSeq (sIf (tOrD (fTest (fKIn true tab_LEAST (fVar 1))) (tOrD (fTest (fBin gIsN (fVar 4) (fC .non))) (tNotD (fTest (fChain gLe gLe (fKIx tab_LEAST (fVar 1)) (fVar 4) (fC (.int 10000000000000000000000000000000000000000))))))) (sRet (fC .non)) sSkip)
    (sRet (fTup (fCons (fVar 1) (fCons (fVar 4) fNil)))))))))
def d_thing_of (c_natural : FD) : FD := runD 5 (b_thing_of c_natural)
theorem ok_thing_of {c_natural : FD} {k : Nat} (T : Txt w K mg) (C_natural : Callee P w K mg base ct k "natural" 2 c_natural) : Callee P w K mg base ct (k + 1) "thing_of" 1 (d_thing_of c_natural) :=
  callee_of T.d_thing_of sc_thing_of fun f cdv A outer s H E hr =>
    (sss_cons (ss_if (st_not (st_val (se_isi (by rfl) T.n_isinstance (se_var 0) (by rfl) T.n_str (by decide +kernel)))) (sss_one (ss_ret se_non)) sss_nil)
      (sss_cons (ss_if (st_cmp op_inAll od_in (se_var 0) (se_tup (sa_cons se_str (sa_cons se_str sa_nil))) (by rfl)) (sss_one (ss_ret (se_tup (sa_cons (se_var 0) (sa_cons se_non sa_nil))))) sss_nil)
      (sss_cons (ss_asg (se_part (se_var 0) se_str) (sg_tup rfl (sgs_cons (sg_name (i := 1) sc_thing_of.nd rfl (Or.inl rfl)) (sgs_cons (sg_name (i := 2) sc_thing_of.nd rfl (Or.inl rfl)) (sgs_cons (sg_name (i := 3) sc_thing_of.nd rfl (Or.inl rfl)) sgs_nil)))))
      (sss_cons (ss_set (i := 4) sc_thing_of.nd rfl (Or.inl rfl) (se_fn C_natural hr (by rfl) (sa_cons (se_var 3) (sa_cons se_int sa_nil)) (fCons_len (fCons_len (fun _ _ _ _ h => fNil_len h)))))
      (sss_cons (ss_if (SW.st (sw_or (st_knotinG T.k_LEAST (by rfl) (se_var 1)) (sw_or (st_cmp op_isN od_isN (se_var 4) se_non (nomark _)) (sw_or1 (st_not (st_chain op_le od_le op_le od_le (se_kixG T.k_LEAST (by rfl) (se_var 1) (fun _ _ => rfl)) (se_var 4) (se_globC (d := (.int 10000000000000000000000000000000000000000)) (by rfl) T.c_MOST_ASKED (fun _ _ => rfl)))))))) (sss_one (ss_ret se_non)) sss_nil)
      (sss_one (ss_ret (se_tup (sa_cons (se_var 1) (sa_cons (se_var 4) sa_nil))))))))))
abbrev s_pairs_of : Stmt := topS 35
theorem sc_pairs_of : FnScope ["many"] ["many"] (defScope s_pairs_of) := ⟨rfl, rfl, rfl, by decide +kernel, rfl, by decide +kernel, by decide +kernel⟩
def b_pairs_of : FS :=
  (sRet (fBin gFdiv (fBin gMul (fVar 0) (fBin gSubI (fVar 0) (fC (.int 1)))) (fC (.int 2))))
def d_pairs_of : FD := runD 1 (b_pairs_of)
theorem ok_pairs_of {k : Nat} (T : Txt w K mg) : Callee P w K mg base ct (k + 1) "pairs_of" 1 (d_pairs_of) :=
  callee_of T.d_pairs_of sc_pairs_of fun f cdv A outer s H E hr =>
    (sss_one (ss_ret (se_op op_fdivW od_fdiv (se_op op_mulW od_mul (se_var 0) (se_op op_sub od_sub (se_var 0) se_int)) se_int)))
abbrev s_most_without_rings : Stmt := topS 37
theorem sc_most_without_rings : FnScope ["kind", "size", "people", "blocks", "rest"] ["kind", "size", "people"] (defScope s_most_without_rings) := ⟨rfl, rfl, rfl, by decide +kernel, rfl, by decide +kernel, by decide +kernel⟩
def b_most_without_rings (c_pairs_of : FD) : FS :=
  (sSeq (sIf (fTest (fBin gEq (fVar 2) (fC (.int 0)))) (sRet (fC (.int 0))) sSkip)
    (sSeq (sIf (fTest (fBin gEq (fVar 0) (fC (.str "odd ring")))) (sRet (fBin gFdiv (fBin gMul (fVar 2) (fVar 2)) (fC (.int 4)))) sSkip)
    (sSeq (sIf (fTest (fBin gEq (fVar 0) (fC (.str "even ring")))) (sRet (fBin gFdiv (fBin gMul (fC (.int 3)) (fBin gSubI (fVar 2) (fC (.int 1)))) (fC (.int 2)))) sSkip)
    (sSeq (sPar 3 4 (fCons (fBin gFdiv (fBin gSubI (fVar 2) (fC (.int 1))) (fBin gSubI (fVar 1) (fC (.int 2)))) (fCons (fBin gMod (fBin gSubI (fVar 2) (fC (.int 1))) (fBin gSubI (fVar 1) (fC (.int 2)))) fNil)))
    (sRet (fBin gAdd (fBin gMul (fVar 3) (fCall c_pairs_of (fCons (fBin gSubI (fVar 1) (fC (.int 1))) fNil))) (fCall c_pairs_of (fCons (fBin gAdd (fVar 4) (fC (.int 1))) fNil))))))))
def d_most_without_rings (c_pairs_of : FD) : FD := runD 5 (b_most_without_rings c_pairs_of)
theorem ok_most_without_rings {c_pairs_of : FD} {k : Nat} (T : Txt w K mg) (C_pairs_of : Callee P w K mg base ct k "pairs_of" 1 c_pairs_of) : Callee P w K mg base ct (k + 1) "most_without_rings" 3 (d_most_without_rings c_pairs_of) :=
  callee_of T.d_most_without_rings sc_most_without_rings fun f cdv A outer s H E hr =>
    (sss_cons (ss_if (st_cmp (op_eqAll hr) od_eq (se_var 2) se_int (nomark _)) (sss_one (ss_ret se_int)) sss_nil)
      (sss_cons (ss_if (st_cmp (op_eqAll hr) od_eq (se_var 0) se_str (nomark _)) (sss_one (ss_ret (se_op op_fdivW od_fdiv (se_op op_mulW od_mul (se_var 2) (se_var 2)) se_int))) sss_nil)
      (sss_cons (ss_if (st_cmp (op_eqAll hr) od_eq (se_var 0) se_str (nomark _)) (sss_one (ss_ret (se_op op_fdivW od_fdiv (se_op op_mulW od_mul se_int (se_op op_sub od_sub (se_var 2) se_int)) se_int))) sss_nil)
      (sss_cons (ss_par (i := 3) (j := 4) (fun ta h => ps_par rfl sc_most_without_rings.nd rfl rfl (by decide) rfl rfl h (by rfl)) (sa_cons (se_op op_fdivW od_fdiv (se_op op_sub od_sub (se_var 2) se_int) (se_op op_sub od_sub (se_var 1) se_int)) (sa_cons (se_op op_mod od_mod (se_op op_sub od_sub (se_var 2) se_int) (se_op op_sub od_sub (se_var 1) se_int)) sa_nil)))
      (sss_one (ss_ret (se_op op_addAll od_add (se_op op_mulW od_mul (se_var 3) (se_fn C_pairs_of hr (by rfl) (sa_cons (se_op op_sub od_sub (se_var 1) se_int) sa_nil) (fCons_len (fun _ _ _ _ h => fNil_len h)))) (se_fn C_pairs_of hr (by rfl) (sa_cons (se_op op_addAll od_add (se_var 4) se_int) sa_nil) (fCons_len (fun _ _ _ _ h => fNil_len h))))))))))
abbrev s_most_ties : Stmt := topS 36
theorem sc_most_ties : FnScope ["kind", "size", "people", "every", "part", "rest", "joined"] ["kind", "size", "people"] (defScope s_most_ties) := ⟨rfl, rfl, rfl, by decide +kernel, rfl, by decide +kernel, by decide +kernel⟩
def b_most_ties (c_most_without_rings : FD) (c_pairs_of : FD) : FS :=
  (sSeq (sAsg (fCall c_pairs_of (fCons (fVar 2) fNil)) (gN 3))
    (sSeq (sIf (fTest (fBin gEq (fVar 0) (fC (.str "crowd")))) (sSeq (sPar 4 5 (fCons (fBin gFdiv (fVar 2) (fBin gSubI (fVar 1) (fC (.int 1)))) (fCons (fBin gMod (fVar 2) (fBin gSubI (fVar 1) (fC (.int 1)))) fNil)))
    (sRet (fBin gSubI (fBin gSubI (fVar 3) (fBin gMul (fVar 5) (fCall c_pairs_of (fCons (fBin gAdd (fVar 4) (fC (.int 1))) fNil)))) (fBin gMul (fBin gSubI (fBin gSubI (fVar 1) (fC (.int 1))) (fVar 5)) (fCall c_pairs_of (fCons (fVar 4) fNil)))))) sSkip)
    (sSeq (sIf (fTest (fBin gEq (fVar 0) (fC (.str "star")))) (sRet (fCall cMin2 (fCons (fVar 3) (fCons (fBin gFdiv (fBin gMul (fVar 2) (fBin gSubI (fVar 1) (fC (.int 1)))) (fC (.int 2))) fNil)))) sSkip)
    (sSeq (sIf (fTest (fBin gEq (fVar 0) (fC (.str "row")))) (sRet (fBin gAdd (fBin gMul (fBin gFdiv (fVar 2) (fBin gSubI (fVar 1) (fC (.int 1)))) (fCall c_pairs_of (fCons (fBin gSubI (fVar 1) (fC (.int 1))) fNil))) (fCall c_pairs_of (fCons (fBin gMod (fVar 2) (fBin gSubI (fVar 1) (fC (.int 1)))) fNil)))) sSkip)
    (sSeq (sIf (fTest (fBin gEq (fVar 0) (fC (.str "core")))) (sRet (fIf (fTest (fBin gLt (fVar 2) (fVar 1))) (fVar 3) (fBin gSubI (fBin gMul (fBin gSubI (fVar 1) (fC (.int 1))) (fVar 2)) (fCall c_pairs_of (fCons (fVar 1) fNil))))) sSkip)
    (sSeq (sIf (fTest (fBin gEq (fVar 0) (fC (.str "linked")))) (sRet (fIf (fTest (fBin gLe (fVar 2) (fVar 1))) (fVar 3) (fBin gSubI (fBin gAdd (fCall c_pairs_of (fCons (fBin gSubI (fVar 2) (fC (.int 1))) fNil)) (fVar 1)) (fC (.int 1))))) sSkip)
    (sSeq (sIf (fTest (fBin gEq (fVar 0) (fC (.str "pairs")))) (sSeq (sAsg (fBin gAdd (fCall c_pairs_of (fCons (fBin gSubI (fVar 1) (fC (.int 1))) fNil)) (fBin gMul (fBin gSubI (fVar 1) (fC (.int 1))) (fBin gAdd (fBin gSubI (fVar 2) (fVar 1)) (fC (.int 1))))) (gN 6))
    (sRet (fIf (fTest (fBin gLt (fVar 2) (fBin gMul (fC (.int 2)) (fVar 1)))) (fVar 3) (fCall cMax2 (fCons (fCall c_pairs_of (fCons (fBin gSubI (fBin gMul (fC (.int 2)) (fVar 1)) (fC (.int 1))) fNil)) (fCons (fVar 6) fNil)))))) sSkip)
    (sRet (fCall c_most_without_rings (fCons (fVar 0) (fCons (fVar 1) (fCons (fVar 2) fNil))))))))))))
def d_most_ties (c_most_without_rings : FD) (c_pairs_of : FD) : FD := runD 7 (b_most_ties c_most_without_rings c_pairs_of)
theorem ok_most_ties {c_most_without_rings : FD} {c_pairs_of : FD} {k : Nat} (T : Txt w K mg) (C_most_without_rings : Callee P w K mg base ct k "most_without_rings" 3 c_most_without_rings) (C_pairs_of : Callee P w K mg base ct k "pairs_of" 1 c_pairs_of) : Callee P w K mg base ct (k + 1) "most_ties" 3 (d_most_ties c_most_without_rings c_pairs_of) :=
  callee_of T.d_most_ties sc_most_ties fun f cdv A outer s H E hr =>
    (sss_cons (ss_set (i := 3) sc_most_ties.nd rfl (Or.inl rfl) (se_fn C_pairs_of hr (by rfl) (sa_cons (se_var 2) sa_nil) (fCons_len (fun _ _ _ _ h => fNil_len h))))
      (sss_cons (ss_if (st_cmp (op_eqAll hr) od_eq (se_var 0) se_str (nomark _)) (sss_cons (ss_par (i := 4) (j := 5) (fun ta h => ps_par rfl sc_most_ties.nd rfl rfl (by decide) rfl rfl h (by rfl)) (sa_cons (se_op op_fdivW od_fdiv (se_var 2) (se_op op_sub od_sub (se_var 1) se_int)) (sa_cons (se_op op_mod od_mod (se_var 2) (se_op op_sub od_sub (se_var 1) se_int)) sa_nil)))
      (sss_one (ss_ret (se_op op_sub od_sub (se_op op_sub od_sub (se_var 3) (se_op op_mulW od_mul (se_var 5) (se_fn C_pairs_of hr (by rfl) (sa_cons (se_op op_addAll od_add (se_var 4) se_int) sa_nil) (fCons_len (fun _ _ _ _ h => fNil_len h))))) (se_op op_mulW od_mul (se_op op_sub od_sub (se_op op_sub od_sub (se_var 1) se_int) (se_var 5)) (se_fn C_pairs_of hr (by rfl) (sa_cons (se_var 4) sa_nil) (fCons_len (fun _ _ _ _ h => fNil_len h)))))))) sss_nil)
      (sss_cons (ss_if (st_cmp (op_eqAll hr) od_eq (se_var 0) se_str (nomark _)) (sss_one (ss_ret (se_callB (call_min2 rfl) cd_min2 (by rfl) T.n_min (by decide +kernel) (sa_cons (se_var 3) (sa_cons (se_op op_fdivW od_fdiv (se_op op_mulW od_mul (se_var 2) (se_op op_sub od_sub (se_var 1) se_int)) se_int) sa_nil))))) sss_nil)
      (sss_cons (ss_if (st_cmp (op_eqAll hr) od_eq (se_var 0) se_str (nomark _)) (sss_one (ss_ret (se_op op_addAll od_add (se_op op_mulW od_mul (se_op op_fdivW od_fdiv (se_var 2) (se_op op_sub od_sub (se_var 1) se_int)) (se_fn C_pairs_of hr (by rfl) (sa_cons (se_op op_sub od_sub (se_var 1) se_int) sa_nil) (fCons_len (fun _ _ _ _ h => fNil_len h)))) (se_fn C_pairs_of hr (by rfl) (sa_cons (se_op op_mod od_mod (se_var 2) (se_op op_sub od_sub (se_var 1) se_int)) sa_nil) (fCons_len (fun _ _ _ _ h => fNil_len h)))))) sss_nil)
      (sss_cons (ss_if (st_cmp (op_eqAll hr) od_eq (se_var 0) se_str (nomark _)) (sss_one (ss_ret (se_if (st_cmp op_lt od_lt (se_var 2) (se_var 1) (nomark _)) (se_var 3) (se_op op_sub od_sub (se_op op_mulW od_mul (se_op op_sub od_sub (se_var 1) se_int) (se_var 2)) (se_fn C_pairs_of hr (by rfl) (sa_cons (se_var 1) sa_nil) (fCons_len (fun _ _ _ _ h => fNil_len h))))))) sss_nil)
      (sss_cons (ss_if (st_cmp (op_eqAll hr) od_eq (se_var 0) se_str (nomark _)) (sss_one (ss_ret (se_if (st_cmp op_le od_le (se_var 2) (se_var 1) (nomark _)) (se_var 3) (se_op op_sub od_sub (se_op op_addAll od_add (se_fn C_pairs_of hr (by rfl) (sa_cons (se_op op_sub od_sub (se_var 2) se_int) sa_nil) (fCons_len (fun _ _ _ _ h => fNil_len h))) (se_var 1)) se_int)))) sss_nil)
      (sss_cons (ss_if (st_cmp (op_eqAll hr) od_eq (se_var 0) se_str (nomark _)) (sss_cons (ss_set (i := 6) sc_most_ties.nd rfl (Or.inl rfl) (se_op op_addAll od_add (se_fn C_pairs_of hr (by rfl) (sa_cons (se_op op_sub od_sub (se_var 1) se_int) sa_nil) (fCons_len (fun _ _ _ _ h => fNil_len h))) (se_op op_mulW od_mul (se_op op_sub od_sub (se_var 1) se_int) (se_op op_addAll od_add (se_op op_sub od_sub (se_var 2) (se_var 1)) se_int))))
      (sss_one (ss_ret (se_if (st_cmp op_lt od_lt (se_var 2) (se_op op_mulW od_mul se_int (se_var 1)) (nomark _)) (se_var 3) (se_callB (call_max2 rfl) cd_max2 (by rfl) T.n_max (by decide +kernel) (sa_cons (se_fn C_pairs_of hr (by rfl) (sa_cons (se_op op_sub od_sub (se_op op_mulW od_mul se_int (se_var 1)) se_int) sa_nil) (fCons_len (fun _ _ _ _ h => fNil_len h))) (sa_cons (se_var 6) sa_nil))))))) sss_nil)
      (sss_one (ss_ret (se_fn C_most_without_rings hr (by rfl) (sa_cons (se_var 0) (sa_cons (se_var 1) (sa_cons (se_var 2) sa_nil))) (fCons_len (fCons_len (fCons_len (fun _ _ _ _ h => fNil_len h))))))))))))))
abbrev s_is_number : Stmt := topS 28
theorem sc_is_number : FnScope ["word", "thing", "people", "told", "kind", "size"] ["word", "thing", "people", "told"] (defScope s_is_number) := ⟨rfl, rfl, rfl, by decide +kernel, rfl, by decide +kernel, by decide +kernel⟩
def b_is_number (c_most_ties : FD) (c_is_between : FD) (c_is_integer : FD) : FS :=
  (sSeq (sIf (tOrD (tNotD (fTest (fCall c_is_between (fCons (fVar 2) (fCons (fC (.int 0)) (fCons (fC (.int 10000000000000000000000000000000000000000)) fNil)))))) (tAndD (fTest (fBin gNotN (fVar 3) (fC .non))) (tNotD (fTest (fCall c_is_integer (fCons (fVar 3) fNil)))))) (sRet (fC (.bl false))) sSkip)
    (sSeq (sAsg (fVar 1) (gTup 2 (gCons (gN 4) (gCons (gN 5) gNil))))
    (sRet (fBin gEq (fVar 3) (fIf (fTest (fBin gEq (fVar 0) (fC (.str "most")))) (fCall c_most_ties (fCons (fVar 4) (fCons (fVar 5) (fCons (fVar 2) fNil)))) fNever)))))
def d_is_number (c_most_ties : FD) (c_is_between : FD) (c_is_integer : FD) : FD := runD 6 (b_is_number c_most_ties c_is_between c_is_integer)
theorem ok_is_number {c_most_ties : FD} {c_is_between : FD} {c_is_integer : FD} {k : Nat} (T : Txt w K mg) (C_most_ties : Callee P w K mg base ct k "most_ties" 3 c_most_ties) (C_is_between : Callee P w K mg base ct k "is_between" 3 c_is_between) (C_is_integer : Callee P w K mg base ct k "is_integer" 1 c_is_integer) : Callee P w K mg base ct (k + 1) "is_number" 4 (d_is_number c_most_ties c_is_between c_is_integer) :=
  callee_of T.d_is_number sc_is_number fun f cdv A outer s H E hr =>
    (sss_cons (ss_if (SW.st (sw_or (st_not (st_val (se_fn C_is_between hr (by rfl) (sa_cons (se_var 2) (sa_cons se_int (sa_cons (se_globC (d := (.int 10000000000000000000000000000000000000000)) (by rfl) T.c_MOST_ASKED (fun _ _ => rfl)) sa_nil))) (fCons_len (fCons_len (fCons_len (fun _ _ _ _ h => fNil_len h))))))) (sw_or1 (SW.st (sw_and (st_cmp op_notN od_notN (se_var 3) se_non (nomark _)) (sw_and1 (st_not (st_val (se_fn C_is_integer hr (by rfl) (sa_cons (se_var 3) sa_nil) (fCons_len (fun _ _ _ _ h => fNil_len h))))))))))) (sss_one (ss_ret se_bl)) sss_nil)
      (sss_cons (ss_asg (se_var 1) (sg_tup rfl (sgs_cons (sg_name (i := 4) sc_is_number.nd rfl (Or.inl rfl)) (sgs_cons (sg_name (i := 5) sc_is_number.nd rfl (Or.inl rfl)) sgs_nil))))
      (sss_one (ss_ret (se_cmp (op_eqAll hr) od_eq (se_var 3) (se_if (st_cmp (op_eqAll hr) od_eq (se_var 0) se_str (nomark _)) (se_fn C_most_ties hr (by rfl) (sa_cons (se_var 4) (sa_cons (se_var 5) (sa_cons (se_var 2) sa_nil))) (fCons_len (fCons_len (fCons_len (fun _ _ _ _ h => fNil_len h))))) se_never) (nomark _))))))
abbrev s_accepts : Stmt := topS 27
theorem sc_accepts : FnScope ["claim", "certificate", "word", "more", "thing", "party"] ["claim", "certificate"] (defScope s_accepts) := ⟨rfl, rfl, rfl, by decide +kernel, rfl, by decide +kernel, by decide +kernel⟩
def b_accepts (c_is_number : FD) (c_thing_of : FD) : FS :=
  (sSeq (sIf (tOrD (tNotD (fTest (fIsi "tuple" (fVar 0)))) (tOrD (fTest (fBin gLt (fCall cLen (fCons (fVar 0) fNil)) (fC (.int 3)))) (tNotD (fTest (fIsi "str" (fBin gIx (fVar 0) (fC (.int 0)))))))) (sRet (fC (.bl false))) sSkip)
    (sSeq (sPar 2 3 (fCons (fBin gIx (fVar 0) (fC (.int 0))) (fCons (fSl (fVar 0) (oSome (fC (.int 3))) oNone) fNil)))
    (sSeq (sIf (fTest (fBin gNe (fKGet2 tab_LENGTHS (fVar 2) (fC (.int 0))) (fCall cLen (fCons (fVar 0) fNil)))) (sRet (fC (.bl false))) sSkip)
    (sSeq (sIf (fTest (fBin gIn (fVar 2) (fTup (fCons (fC (.str "alike")) (fCons (fC (.str "shape")) fNil))))) (sRet fNever) sSkip)
    (sSeq (sAsg (fCall c_thing_of (fCons (fBin gIx (fVar 0) (fC (.int 1))) fNil)) (gN 4))
    (sSeq (sIf (fTest (fBin gIsN (fVar 4) (fC .non))) (sRet (fC (.bl false))) sSkip)
    (sSeq (sIf (fTest (fBin gIn (fVar 2) (fTup (fCons (fC (.str "most")) (fCons (fC (.str "least")) fNil))))) (sRet (fAnd (fBin gIsN (fVar 1) (fC .non)) (fCall c_is_number (fCons (fVar 2) (fCons (fVar 4) (fCons (fBin gIx (fVar 0) (fC (.int 2))) (fCons (fBin gIx (fVar 3) (fC (.int 0))) fNil))))))) sSkip)
    (sSeq (sIf (fTest (fBin gIn (fVar 2) (fTup (fCons (fC (.str "follows")) (fCons (fC (.str "parted")) fNil))))) (sRet fNever) sSkip)
    (sSeq (sAsg fNever (gN 5))
    (sRet (fAnd (fBin gNotN (fVar 5) (fC .non)) fNever)))))))))))
def d_accepts (c_is_number : FD) (c_thing_of : FD) : FD := runD 6 (b_accepts c_is_number c_thing_of)
theorem ok_accepts {c_is_number : FD} {c_thing_of : FD} {k : Nat} (T : Txt w K mg) (C_is_number : Callee P w K mg base ct k "is_number" 4 c_is_number) (C_thing_of : Callee P w K mg base ct k "thing_of" 1 c_thing_of) : Callee P w K mg base ct (k + 1) "accepts" 2 (d_accepts c_is_number c_thing_of) :=
  callee_of T.d_accepts sc_accepts fun f cdv A outer s H E hr =>
    (sss_cons (ss_if (SW.st (sw_or (st_not (st_val (se_isi (by rfl) T.n_isinstance (se_var 0) (by rfl) T.n_tuple (by decide +kernel)))) (sw_or (st_cmp op_lt od_lt (se_callB call_lenAll cd_len (by rfl) T.n_len (by decide +kernel) (sa_cons (se_var 0) sa_nil)) se_int (nomark _)) (sw_or1 (st_not (st_val (se_isi (by rfl) T.n_isinstance (se_ix ix_seq od_ix (se_var 0) se_int (fun _ _ => rfl)) (by rfl) T.n_str (by decide +kernel)))))))) (sss_one (ss_ret se_bl)) sss_nil)
      (sss_cons (ss_par (i := 2) (j := 3) (fun ta h => ps_par rfl sc_accepts.nd rfl rfl (by decide) rfl rfl h (by rfl)) (sa_cons (se_ix ix_seq od_ix (se_var 0) se_int (fun _ _ => rfl)) (sa_cons (se_slice (se_var 0) (so_some se_int) so_none) sa_nil)))
      (sss_cons (ss_if (st_cmp (op_neAll hr) od_ne (se_kget2G T.k_LENGTHS (by rfl) (se_var 2) se_int ⟨rfl, rfl, rfl, rfl⟩) (se_callB call_lenAll cd_len (by rfl) T.n_len (by decide +kernel) (sa_cons (se_var 0) sa_nil)) (nomark _)) (sss_one (ss_ret se_bl)) sss_nil)
      (sss_cons (ss_if (st_cmp op_inAll od_in (se_var 2) (se_tup (sa_cons se_str (sa_cons se_str sa_nil))) (by rfl)) (sss_one (ss_ret se_never)) sss_nil)
      (sss_cons (ss_set (i := 4) sc_accepts.nd rfl (Or.inl rfl) (se_fn C_thing_of hr (by rfl) (sa_cons (se_ix ix_seq od_ix (se_var 0) se_int (fun _ _ => rfl)) sa_nil) (fCons_len (fun _ _ _ _ h => fNil_len h))))
      (sss_cons (ss_if (st_cmp op_isN od_isN (se_var 4) se_non (nomark _)) (sss_one (ss_ret se_bl)) sss_nil)
      (sss_cons (ss_if (st_cmp op_inAll od_in (se_var 2) (se_tup (sa_cons se_str (sa_cons se_str sa_nil))) (by rfl)) (sss_one (ss_ret (se_and (se_cmp op_isN od_isN (se_var 1) se_non (nomark _)) (se_one (se_fn C_is_number hr (by rfl) (sa_cons (se_var 2) (sa_cons (se_var 4) (sa_cons (se_ix ix_seq od_ix (se_var 0) se_int (fun _ _ => rfl)) (sa_cons (se_ix ix_seq od_ix (se_var 3) se_int (fun _ _ => rfl)) sa_nil)))) (fCons_len (fCons_len (fCons_len (fCons_len (fun _ _ _ _ h => fNil_len h)))))))))) sss_nil)
      (sss_cons (ss_if (st_cmp op_inAll od_in (se_var 2) (se_tup (sa_cons se_str (sa_cons se_str sa_nil))) (by rfl)) (sss_one (ss_ret se_never)) sss_nil)
      (sss_cons (ss_set (i := 5) sc_accepts.nd rfl (Or.inl rfl) se_never)
      (sss_one (ss_ret (se_and (se_cmp op_notN od_notN (se_var 5) se_non (nomark _)) (se_one se_never)))))))))))))
abbrev s__law_stock : Stmt := topS 54
theorem sc__law_stock : FnScope ["_law_script", "_law_k", "_law_cell", "_law_state", "_law_each", "_law_part"] ["_law_script", "_law_k"] (defScope s__law_stock) := ⟨rfl, rfl, rfl, by decide +kernel, rfl, by decide +kernel, by decide +kernel⟩
def b__law_stock : FS :=
  (sSeq (sAsg (fIf (fTest (fBin gLt (fVar 1) (fCall cLen (fCons (fVar 0) fNil)))) (fCall cInt (fCons (fBin gIx (fVar 0) (fVar 1)) fNil)) (fBin gMul (fC (.int 611953)) (fBin gAdd (fVar 1) (fC (.int 1))))) (gN 2))
    (sSeq (sAsg (fBin gAdd (fC (.int 2750159)) (fBin gMul (fC (.int 15485863)) (fVar 1))) (gN 3))
    (sSeq (sFor (iLst (fBin gAdd (fSl (fVar 0) oNone (oSome (fC (.int 8)))) (fLst (fCons (fVar 2) fNil)))) (gN 4) (sSeq (sAsg (fBin gAdd (fBin gMul (fBin gMod (fCall cInt (fCons (fCall cAbs (fCons (fVar 4) fNil)) fNil)) (fC (.int 999999999989))) (fC (.int 2))) (fCall cInt (fCons (fBin gLt (fVar 4) (fC (.int 0))) fNil))) (gN 5))
    (sAsg (fBin gMod (fCall cInt (fCons (fBin gAdd (fBin gAdd (fBin gMul (fVar 3) (fC (.int 7664345821815920749))) (fVar 5)) (fC (.int 1))) fNil)) (fC (.int 9223372036854775783))) (gN 3))))
    (sRet (fLstM (fCons (fIf (fTest (fBin gGe (fCall cAbs (fCons (fVar 2) fNil)) (fBin gPow (fC (.int 10)) (fC (.int 18))))) (fCall cAbs (fCons (fVar 2) fNil)) (fC (.int 0))) (fCons (fVar 3) (fCons (fC (.int 0)) fNil))))))))
def d__law_stock : FD := runD 6 (b__law_stock)
theorem ok__law_stock {k : Nat} (T : Txt w K mg) : Callee P w K mg base ct (k + 1) "_law_stock" 2 (d__law_stock) :=
  callee_of T.d__law_stock sc__law_stock fun f cdv A outer s H E hr =>
    (sss_cons (ss_set (i := 2) sc__law_stock.nd rfl (Or.inl rfl) (se_if (st_cmp op_lt od_lt (se_var 1) (se_callB call_lenAll cd_len (by rfl) T.n_len (by decide +kernel) (sa_cons (se_var 0) sa_nil)) (nomark _)) (se_callTy call_intAll cd_int (by rfl) T.n_int (by decide +kernel) (sa_cons (se_ix ix_seq od_ix (se_var 0) (se_var 1) (fun _ _ => rfl)) sa_nil)) (se_op op_mulW od_mul se_int (se_op op_addAll od_add (se_var 1) se_int))))
      (sss_cons (ss_set (i := 3) sc__law_stock.nd rfl (Or.inl rfl) (se_op op_addAll od_add se_int (se_op op_mulW od_mul se_int (se_var 1))))
      (sss_cons (ss_for PassesOwn.never rfl (si_list (se_op op_addAll od_add (se_slice (se_var 0) so_none (so_some se_int)) (se_lst (sa_cons (se_var 2) sa_nil)))) (sg_name (i := 4) sc__law_stock.nd rfl (Or.inl rfl)) (sss_cons (ss_set (i := 5) sc__law_stock.nd rfl (Or.inl rfl) (se_op op_addAll od_add (se_op op_mulW od_mul (se_op op_mod od_mod (se_callTy call_intAll cd_int (by rfl) T.n_int (by decide +kernel) (sa_cons (se_callB call_abs cd_abs (by rfl) T.n_abs (by decide +kernel) (sa_cons (se_var 4) sa_nil)) sa_nil)) se_int) se_int) (se_callTy call_intAll cd_int (by rfl) T.n_int (by decide +kernel) (sa_cons (se_cmp op_lt od_lt (se_var 4) se_int (nomark _)) sa_nil))))
      (sss_one (ss_set (i := 3) sc__law_stock.nd rfl (Or.inl rfl) (se_op op_mod od_mod (se_callTy call_intAll cd_int (by rfl) T.n_int (by decide +kernel) (sa_cons (se_op op_addAll od_add (se_op op_addAll od_add (se_op op_mulW od_mul (se_var 3) se_int) (se_var 5)) se_int) sa_nil)) se_int)))))
      (sss_one (ss_ret (se_lstM (sa_cons (se_if (st_cmp op_ge od_ge (se_callB call_abs cd_abs (by rfl) T.n_abs (by decide +kernel) (sa_cons (se_var 2) sa_nil)) (se_op op_pow od_pow se_int se_int) (nomark _)) (se_callB call_abs cd_abs (by rfl) T.n_abs (by decide +kernel) (sa_cons (se_var 2) sa_nil)) se_int) (sa_cons (se_var 3) (sa_cons se_int sa_nil)))))))))
abbrev s__law_take : Stmt := topS 55
theorem sc__law_take : FnScope ["_law_stock_here", "_law_many", "_law_digit", "_law_more"] ["_law_stock_here", "_law_many"] (defScope s__law_take) := ⟨rfl, rfl, rfl, by decide +kernel, rfl, by decide +kernel, by decide +kernel⟩
def b__law_take : FS :=
  (sSeq (sIf (fTest (fBin gGt (fBin gIx (fVar 0) (fC (.int 0))) (fC (.int 0)))) (sSeq (sAsg (fBin gMod (fCall cInt (fCons (fBin gIx (fVar 0) (fC (.int 0))) fNil)) (fVar 1)) (gN 2))
    (sSeq (sAsg (fBin gFdiv (fBin gIx (fVar 0) (fC (.int 0))) (fVar 1)) (gSub gSetA (fVar 0) (fC (.int 0))))
    (sRet (fVar 2)))) sSkip)
    (sSeq (sAsg (fBin gAdd (fBin gIx (fVar 0) (fC (.int 2))) (fC (.int 1))) (gSub gSetA (fVar 0) (fC (.int 2))))
    (sSeq (sAsg (fBin gAdd (fBin gMul (fBin gIx (fVar 0) (fC (.int 2))) (fC (.int 32452843))) (fC (.int 49979687))) (gN 3))
    (sSeq (sAsg (fBin gMod (fCall cInt (fCons (fBin gAdd (fBin gMul (fBin gIx (fVar 0) (fC (.int 1))) (fC (.int 1181783497276652981))) (fVar 3)) fNil)) (fC (.int 9223372036854775783))) (gSub gSetA (fVar 0) (fC (.int 1))))
    (sRet (fBin gMod (fCall cInt (fCons (fBin gFdiv (fBin gIx (fVar 0) (fC (.int 1))) (fC (.int 131072))) fNil)) (fVar 1)))))))
def d__law_take : FD := runD 4 (b__law_take)
theorem ok__law_take {k : Nat} (T : Txt w K mg) : Callee P w K mg base ct (k + 1) "_law_take" 2 (d__law_take) :=
  callee_of T.d__law_take sc__law_take fun f cdv A outer s H E hr =>
    (sss_cons (ss_if (st_cmp op_gt od_gt (se_ix ix_seq od_ix (se_var 0) se_int (fun _ _ => rfl)) se_int (nomark _)) (sss_cons (ss_set (i := 2) sc__law_take.nd rfl (Or.inl rfl) (se_op op_mod od_mod (se_callTy call_intAll cd_int (by rfl) T.n_int (by decide +kernel) (sa_cons (se_ix ix_seq od_ix (se_var 0) se_int (fun _ _ => rfl)) sa_nil)) (se_var 1)))
      (sss_cons (ss_asg (se_op op_fdivW od_fdiv (se_ix ix_seq od_ix (se_var 0) se_int (fun _ _ => rfl)) (se_var 1)) (sg_sub (se_var 0) se_int (set_all hr) sd_all))
      (sss_one (ss_ret (se_var 2))))) sss_nil)
      (sss_cons (ss_asg (se_op op_addAll od_add (se_ix ix_seq od_ix (se_var 0) se_int (fun _ _ => rfl)) se_int) (sg_sub (se_var 0) se_int (set_all hr) sd_all))
      (sss_cons (ss_set (i := 3) sc__law_take.nd rfl (Or.inl rfl) (se_op op_addAll od_add (se_op op_mulW od_mul (se_ix ix_seq od_ix (se_var 0) se_int (fun _ _ => rfl)) se_int) se_int))
      (sss_cons (ss_asg (se_op op_mod od_mod (se_callTy call_intAll cd_int (by rfl) T.n_int (by decide +kernel) (sa_cons (se_op op_addAll od_add (se_op op_mulW od_mul (se_ix ix_seq od_ix (se_var 0) se_int (fun _ _ => rfl)) se_int) (se_var 3)) sa_nil)) se_int) (sg_sub (se_var 0) se_int (set_all hr) sd_all))
      (sss_one (ss_ret (se_op op_mod od_mod (se_callTy call_intAll cd_int (by rfl) T.n_int (by decide +kernel) (sa_cons (se_op op_fdivW od_fdiv (se_ix ix_seq od_ix (se_var 0) se_int (fun _ _ => rfl)) se_int) sa_nil)) (se_var 1))))))))
abbrev s__law_agrees : Stmt := topS 56
theorem sc__law_agrees : FnScope ["_law_claim", "_law_paper", "_law_due_here", "_law_told"] ["_law_claim", "_law_paper", "_law_due_here"] (defScope s__law_agrees) := ⟨rfl, rfl, rfl, by decide +kernel, rfl, by decide +kernel, by decide +kernel⟩
def b__law_agrees (c_accepts : FD) : FS :=
  (sSeq (sAsg (fCall c_accepts (fCons (fVar 0) (fCons (fVar 1) fNil))) (gN 3))
    (sRet (fAnd (fIsi "bool" (fVar 3)) (fBin gEq (fVar 3) (fVar 2)))))
def d__law_agrees (c_accepts : FD) : FD := runD 4 (b__law_agrees c_accepts)
theorem ok__law_agrees {c_accepts : FD} {k : Nat} (T : Txt w K mg) (C_accepts : Callee P w K mg base ct k "accepts" 2 c_accepts) : Callee P w K mg base ct (k + 1) "_law_agrees" 3 (d__law_agrees c_accepts) :=
  callee_of T.d__law_agrees sc__law_agrees fun f cdv A outer s H E hr =>
    (sss_cons (ss_set (i := 3) sc__law_agrees.nd rfl (Or.inl rfl) (se_fn C_accepts hr (by rfl) (sa_cons (se_var 0) (sa_cons (se_var 1) sa_nil)) (fCons_len (fCons_len (fun _ _ _ _ h => fNil_len h)))))
      (sss_one (ss_ret (se_and (se_isi (by rfl) T.n_isinstance (se_var 3) (by rfl) T.n_bool (by decide +kernel)) (se_one (se_cmp (op_eqAll hr) od_eq (se_var 3) (se_var 2) (nomark _)))))))
abbrev s__law_is : Stmt := topS 57
theorem sc__law_is : FnScope ["_law_value", "_law_least_here", "_law_most_here"] ["_law_value", "_law_least_here", "_law_most_here"] (defScope s__law_is) := ⟨rfl, rfl, rfl, by decide +kernel, rfl, by decide +kernel, by decide +kernel⟩
def b__law_is : FS :=
  (sRet (fAnd (fIsi "int" (fVar 0)) (fAnd (fNot (fIsi "bool" (fVar 0))) (fAnd (fBin gLe (fVar 1) (fVar 0)) (fBin gLe (fVar 0) (fVar 2))))))
def d__law_is : FD := runD 3 (b__law_is)
theorem ok__law_is {k : Nat} (T : Txt w K mg) : Callee P w K mg base ct (k + 1) "_law_is" 3 (d__law_is) :=
  callee_of T.d__law_is sc__law_is fun f cdv A outer s H E hr =>
    (sss_one (ss_ret (se_and (se_isi (by rfl) T.n_isinstance (se_var 0) (by rfl) T.n_int (by decide +kernel)) (se_and (se_not (se_isi (by rfl) T.n_isinstance (se_var 0) (by rfl) T.n_bool (by decide +kernel))) (se_and (se_cmp op_le od_le (se_var 1) (se_var 0) (nomark _)) (se_one (se_cmp op_le od_le (se_var 0) (se_var 2) (nomark _))))))))
abbrev s__law_word : Stmt := topS 58
theorem sc__law_word : FnScope ["_law_kind", "_law_size"] ["_law_kind", "_law_size"] (defScope s__law_word) := ⟨rfl, rfl, rfl, by decide +kernel, rfl, by decide +kernel, by decide +kernel⟩
def b__law_word : FS :=
  (sRet (fIf (fTest (fBin gIsN (fVar 1) (fC .non))) (fVar 0) (fBin gAdd (fBin gAdd (fVar 0) (fC (.str " "))) (fCall cStr (fCons (fVar 1) fNil)))))
def d__law_word : FD := runD 2 (b__law_word)
theorem ok__law_word {k : Nat} (T : Txt w K mg) : Callee P w K mg base ct (k + 1) "_law_word" 2 (d__law_word) :=
  callee_of T.d__law_word sc__law_word fun f cdv A outer s H E hr =>
    (sss_one (ss_ret (se_if (st_cmp op_isN od_isN (se_var 1) se_non (nomark _)) (se_var 0) (se_op op_addAll od_add (se_op op_addAll od_add (se_var 0) se_str) (se_callTy call_str_int cd_str (by rfl) T.n_str (by decide +kernel) (sa_cons (se_var 1) sa_nil))))))
abbrev s__law_some_kind : Stmt := topS 59
theorem sc__law_some_kind : FnScope ["_law_stock_here", "_law_most_here"] ["_law_stock_here"] (defScope s__law_some_kind) := ⟨rfl, rfl, rfl, by decide +kernel, rfl, by decide +kernel, by decide +kernel⟩
def b__law_some_kind (c__law_take : FD) : FS :=
  (sSeq (sAsg (fLst (fCons (fC (.str "crowd")) (fCons (fC (.str "star")) (fCons (fC (.str "pairs")) (fCons (fC (.str "row")) (fCons (fC (.str "ring")) (fCons (fC (.str "core")) (fCons (fC (.str "linked")) (fCons (fC (.str "odd ring")) (fCons (fC (.str "even ring")) fNil)))))))))) (gN 1))
    (sRet (fBin gIx (fVar 1) (fCall c__law_take (fCons (fVar 0) (fCons (fC (.int 9)) fNil))))))
def d__law_some_kind (c__law_take : FD) : FD := runD 2 (b__law_some_kind c__law_take)
theorem ok__law_some_kind {c__law_take : FD} {k : Nat} (T : Txt w K mg) (C__law_take : Callee P w K mg base ct k "_law_take" 2 c__law_take) : Callee P w K mg base ct (k + 1) "_law_some_kind" 1 (d__law_some_kind c__law_take) :=
  callee_of T.d__law_some_kind sc__law_some_kind fun f cdv A outer s H E hr =>
    (sss_cons (ss_set (i := 1) sc__law_some_kind.nd rfl (Or.inl rfl) (se_lst (sa_cons se_str (sa_cons se_str (sa_cons se_str (sa_cons se_str (sa_cons se_str (sa_cons se_str (sa_cons se_str (sa_cons se_str (sa_cons se_str sa_nil)))))))))))
      (sss_one (ss_ret (se_ix ix_seq od_ix (se_var 1) (se_fn C__law_take hr (by rfl) (sa_cons (se_var 0) (sa_cons se_int sa_nil)) (fCons_len (fCons_len (fun _ _ _ _ h => fNil_len h)))) (fun _ _ => rfl)))))
abbrev s__law_least : Stmt := topS 60
theorem sc__law_least : FnScope ["_law_kind"] ["_law_kind"] (defScope s__law_least) := ⟨rfl, rfl, rfl, by decide +kernel, rfl, by decide +kernel, by decide +kernel⟩
def b__law_least : FS :=
  (sSeq (sIf (fTest (fBin gEq (fVar 0) (fC (.str "ring")))) (sRet (fC (.int 3))) sSkip)
    (sRet (fBin gAdd (fCall cInt (fCons (fBin gIn (fVar 0) (fLst (fCons (fC (.str "crowd")) (fCons (fC (.str "row")) fNil)))) fNil)) (fCall cInt (fCons (fBin gNotIn (fVar 0) (fLst (fCons (fC (.str "odd ring")) (fCons (fC (.str "even ring")) fNil)))) fNil)))))
def d__law_least : FD := runD 1 (b__law_least)
theorem ok__law_least {k : Nat} (T : Txt w K mg) : Callee P w K mg base ct (k + 1) "_law_least" 1 (d__law_least) :=
  callee_of T.d__law_least sc__law_least fun f cdv A outer s H E hr =>
    (sss_cons (ss_if (st_cmp (op_eqAll hr) od_eq (se_var 0) se_str (nomark _)) (sss_one (ss_ret se_int)) sss_nil)
      (sss_one (ss_ret (se_op op_addAll od_add (se_callTy call_intAll cd_int (by rfl) T.n_int (by decide +kernel) (sa_cons (se_cmp op_inAll od_in (se_var 0) (se_lst (sa_cons se_str (sa_cons se_str sa_nil))) (by rfl)) sa_nil)) (se_callTy call_intAll cd_int (by rfl) T.n_int (by decide +kernel) (sa_cons (se_cmp op_notInAll od_notIn (se_var 0) (se_lst (sa_cons se_str (sa_cons se_str sa_nil))) (by rfl)) sa_nil))))))
abbrev s__law_most : Stmt := topS 61
theorem sc__law_most : FnScope ["_law_kind", "_law_size", "_law_many", "_law_every", "_law_few", "_law_part", "_law_rest", "_law_squares", "_law_joined", "_law_blocks"] ["_law_kind", "_law_size", "_law_many"] (defScope s__law_most) := ⟨rfl, rfl, rfl, by decide +kernel, rfl, by decide +kernel, by decide +kernel⟩
def b__law_most : FS :=
  (sSeq (sAsg (fBin gFdiv (fBin gMul (fVar 2) (fBin gSubI (fVar 2) (fC (.int 1)))) (fC (.int 2))) (gN 3))
    (sSeq (sAsg (fIf (fTest (fBin gIsN (fVar 1) (fC .non))) (fC (.int 0)) (fBin gSubI (fVar 1) (fC (.int 1)))) (gN 4))
    (sSeq (sIf (fTest (fBin gEq (fVar 0) (fC (.str "crowd")))) (sSeq (sAsg (fCall cDivmod (fCons (fVar 2) (fCons (fVar 4) fNil))) (gTup 2 (gCons (gN 5) (gCons (gN 6) gNil))))
    (sSeq (sAsg (fBin gMul (fBin gMul (fVar 6) (fBin gAdd (fVar 5) (fC (.int 1)))) (fBin gAdd (fVar 5) (fC (.int 1)))) (gN 7))
    (sSeq (sAsg (fBin gAdd (fVar 7) (fBin gMul (fBin gMul (fBin gSubI (fVar 4) (fVar 6)) (fVar 5)) (fVar 5))) (gN 7))
    (sRet (fBin gFdiv (fBin gSubI (fBin gMul (fVar 2) (fVar 2)) (fVar 7)) (fC (.int 2))))))) sSkip)
    (sSeq (sIf (fTest (fBin gEq (fVar 0) (fC (.str "row")))) (sSeq (sAsg (fCall cDivmod (fCons (fVar 2) (fCons (fVar 4) fNil))) (gTup 2 (gCons (gN 5) (gCons (gN 6) gNil))))
    (sRet (fBin gAdd (fBin gMul (fVar 5) (fBin gFdiv (fBin gMul (fVar 4) (fBin gSubI (fVar 4) (fC (.int 1)))) (fC (.int 2)))) (fBin gFdiv (fBin gMul (fVar 6) (fBin gSubI (fVar 6) (fC (.int 1)))) (fC (.int 2)))))) sSkip)
    (sSeq (sIf (fTest (fBin gEq (fVar 0) (fC (.str "star")))) (sRet (fIf (fTest (fBin gLe (fVar 2) (fVar 1))) (fVar 3) (fBin gFdiv (fBin gMul (fVar 2) (fVar 4)) (fC (.int 2))))) sSkip)
    (sSeq (sIf (fTest (fBin gEq (fVar 0) (fC (.str "pairs")))) (sSeq (sAsg (fBin gSubI (fBin gMul (fVar 4) (fVar 2)) (fBin gFdiv (fBin gMul (fVar 4) (fVar 1)) (fC (.int 2)))) (gN 8))
    (sRet (fIf (fTest (fBin gLt (fVar 2) (fBin gMul (fC (.int 2)) (fVar 1)))) (fVar 3) (fCall cMax2 (fCons (fBin gMul (fVar 4) (fBin gAdd (fBin gMul (fC (.int 2)) (fVar 4)) (fC (.int 1)))) (fCons (fVar 8) fNil)))))) sSkip)
    (sSeq (sIf (fTest (fBin gEq (fVar 0) (fC (.str "core")))) (sRet (fIf (fTest (fBin gLt (fVar 2) (fVar 1))) (fVar 3) (fBin gSubI (fBin gMul (fVar 4) (fVar 2)) (fBin gFdiv (fBin gMul (fVar 4) (fVar 1)) (fC (.int 2)))))) sSkip)
    (sSeq (sIf (fTest (fBin gEq (fVar 0) (fC (.str "linked")))) (sRet (fIf (fTest (fBin gLe (fVar 2) (fVar 1))) (fVar 3) (fBin gSubI (fVar 3) (fBin gSubI (fVar 2) (fVar 1))))) sSkip)
    (sSeq (sIf (fTest (fBin gEq (fVar 0) (fC (.str "odd ring")))) (sRet (fBin gMul (fBin gFdiv (fVar 2) (fC (.int 2))) (fBin gSubI (fVar 2) (fBin gFdiv (fVar 2) (fC (.int 2)))))) sSkip)
    (sSeq (sIf (tOrD (fTest (fBin gEq (fVar 2) (fC (.int 0)))) (fTest (fBin gEq (fVar 0) (fC (.str "even ring"))))) (sRet (fBin gAdd (fCall cMax2 (fCons (fBin gSubI (fVar 2) (fC (.int 1))) (fCons (fC (.int 0)) fNil))) (fBin gFdiv (fCall cMax2 (fCons (fBin gSubI (fVar 2) (fC (.int 1))) (fCons (fC (.int 0)) fNil))) (fC (.int 2))))) sSkip)
    (sSeq (sAsg (fCall cDivmod (fCons (fBin gSubI (fVar 2) (fC (.int 1))) (fCons (fBin gSubI (fVar 4) (fC (.int 1))) fNil))) (gTup 2 (gCons (gN 5) (gCons (gN 6) gNil))))
    (sSeq (sAsg (fBin gMul (fVar 5) (fBin gFdiv (fBin gMul (fVar 4) (fBin gSubI (fVar 4) (fC (.int 1)))) (fC (.int 2)))) (gN 9))
    (sRet (fBin gAdd (fVar 9) (fBin gFdiv (fBin gMul (fVar 6) (fBin gAdd (fVar 6) (fC (.int 1)))) (fC (.int 2)))))))))))))))))
def d__law_most : FD := runD 10 (b__law_most)
theorem ok__law_most {k : Nat} (T : Txt w K mg) : Callee P w K mg base ct (k + 1) "_law_most" 3 (d__law_most) :=
  callee_of T.d__law_most sc__law_most fun f cdv A outer s H E hr =>
    (sss_cons (ss_set (i := 3) sc__law_most.nd rfl (Or.inl rfl) (se_op op_fdivW od_fdiv (se_op op_mulW od_mul (se_var 2) (se_op op_sub od_sub (se_var 2) se_int)) se_int))
      (sss_cons (ss_set (i := 4) sc__law_most.nd rfl (Or.inl rfl) (se_if (st_cmp op_isN od_isN (se_var 1) se_non (nomark _)) se_int (se_op op_sub od_sub (se_var 1) se_int)))
      (sss_cons (ss_if (st_cmp (op_eqAll hr) od_eq (se_var 0) se_str (nomark _)) (sss_cons (ss_asg (se_callB call_divmodW cd_divmod (by rfl) T.n_divmod (by decide +kernel) (sa_cons (se_var 2) (sa_cons (se_var 4) sa_nil))) (sg_tup rfl (sgs_cons (sg_name (i := 5) sc__law_most.nd rfl (Or.inl rfl)) (sgs_cons (sg_name (i := 6) sc__law_most.nd rfl (Or.inl rfl)) sgs_nil))))
      (sss_cons (ss_set (i := 7) sc__law_most.nd rfl (Or.inl rfl) (se_op op_mulW od_mul (se_op op_mulW od_mul (se_var 6) (se_op op_addAll od_add (se_var 5) se_int)) (se_op op_addAll od_add (se_var 5) se_int)))
      (sss_cons (ss_set (i := 7) sc__law_most.nd rfl (Or.inl rfl) (se_op op_addAll od_add (se_var 7) (se_op op_mulW od_mul (se_op op_mulW od_mul (se_op op_sub od_sub (se_var 4) (se_var 6)) (se_var 5)) (se_var 5))))
      (sss_one (ss_ret (se_op op_fdivW od_fdiv (se_op op_sub od_sub (se_op op_mulW od_mul (se_var 2) (se_var 2)) (se_var 7)) se_int)))))) sss_nil)
      (sss_cons (ss_if (st_cmp (op_eqAll hr) od_eq (se_var 0) se_str (nomark _)) (sss_cons (ss_asg (se_callB call_divmodW cd_divmod (by rfl) T.n_divmod (by decide +kernel) (sa_cons (se_var 2) (sa_cons (se_var 4) sa_nil))) (sg_tup rfl (sgs_cons (sg_name (i := 5) sc__law_most.nd rfl (Or.inl rfl)) (sgs_cons (sg_name (i := 6) sc__law_most.nd rfl (Or.inl rfl)) sgs_nil))))
      (sss_one (ss_ret (se_op op_addAll od_add (se_op op_mulW od_mul (se_var 5) (se_op op_fdivW od_fdiv (se_op op_mulW od_mul (se_var 4) (se_op op_sub od_sub (se_var 4) se_int)) se_int)) (se_op op_fdivW od_fdiv (se_op op_mulW od_mul (se_var 6) (se_op op_sub od_sub (se_var 6) se_int)) se_int))))) sss_nil)
      (sss_cons (ss_if (st_cmp (op_eqAll hr) od_eq (se_var 0) se_str (nomark _)) (sss_one (ss_ret (se_if (st_cmp op_le od_le (se_var 2) (se_var 1) (nomark _)) (se_var 3) (se_op op_fdivW od_fdiv (se_op op_mulW od_mul (se_var 2) (se_var 4)) se_int)))) sss_nil)
      (sss_cons (ss_if (st_cmp (op_eqAll hr) od_eq (se_var 0) se_str (nomark _)) (sss_cons (ss_set (i := 8) sc__law_most.nd rfl (Or.inl rfl) (se_op op_sub od_sub (se_op op_mulW od_mul (se_var 4) (se_var 2)) (se_op op_fdivW od_fdiv (se_op op_mulW od_mul (se_var 4) (se_var 1)) se_int)))
      (sss_one (ss_ret (se_if (st_cmp op_lt od_lt (se_var 2) (se_op op_mulW od_mul se_int (se_var 1)) (nomark _)) (se_var 3) (se_callB (call_max2 rfl) cd_max2 (by rfl) T.n_max (by decide +kernel) (sa_cons (se_op op_mulW od_mul (se_var 4) (se_op op_addAll od_add (se_op op_mulW od_mul se_int (se_var 4)) se_int)) (sa_cons (se_var 8) sa_nil))))))) sss_nil)
      (sss_cons (ss_if (st_cmp (op_eqAll hr) od_eq (se_var 0) se_str (nomark _)) (sss_one (ss_ret (se_if (st_cmp op_lt od_lt (se_var 2) (se_var 1) (nomark _)) (se_var 3) (se_op op_sub od_sub (se_op op_mulW od_mul (se_var 4) (se_var 2)) (se_op op_fdivW od_fdiv (se_op op_mulW od_mul (se_var 4) (se_var 1)) se_int))))) sss_nil)
      (sss_cons (ss_if (st_cmp (op_eqAll hr) od_eq (se_var 0) se_str (nomark _)) (sss_one (ss_ret (se_if (st_cmp op_le od_le (se_var 2) (se_var 1) (nomark _)) (se_var 3) (se_op op_sub od_sub (se_var 3) (se_op op_sub od_sub (se_var 2) (se_var 1)))))) sss_nil)
      (sss_cons (ss_if (st_cmp (op_eqAll hr) od_eq (se_var 0) se_str (nomark _)) (sss_one (ss_ret (se_op op_mulW od_mul (se_op op_fdivW od_fdiv (se_var 2) se_int) (se_op op_sub od_sub (se_var 2) (se_op op_fdivW od_fdiv (se_var 2) se_int))))) sss_nil)
      (sss_cons (ss_if (SW.st (sw_or (st_cmp (op_eqAll hr) od_eq (se_var 2) se_int (nomark _)) (sw_or1 (st_cmp (op_eqAll hr) od_eq (se_var 0) se_str (nomark _))))) (sss_one (ss_ret (se_op op_addAll od_add (se_callB (call_max2 rfl) cd_max2 (by rfl) T.n_max (by decide +kernel) (sa_cons (se_op op_sub od_sub (se_var 2) se_int) (sa_cons se_int sa_nil))) (se_op op_fdivW od_fdiv (se_callB (call_max2 rfl) cd_max2 (by rfl) T.n_max (by decide +kernel) (sa_cons (se_op op_sub od_sub (se_var 2) se_int) (sa_cons se_int sa_nil))) se_int)))) sss_nil)
      (sss_cons (ss_asg (se_callB call_divmodW cd_divmod (by rfl) T.n_divmod (by decide +kernel) (sa_cons (se_op op_sub od_sub (se_var 2) se_int) (sa_cons (se_op op_sub od_sub (se_var 4) se_int) sa_nil))) (sg_tup rfl (sgs_cons (sg_name (i := 5) sc__law_most.nd rfl (Or.inl rfl)) (sgs_cons (sg_name (i := 6) sc__law_most.nd rfl (Or.inl rfl)) sgs_nil))))
      (sss_cons (ss_set (i := 9) sc__law_most.nd rfl (Or.inl rfl) (se_op op_mulW od_mul (se_var 5) (se_op op_fdivW od_fdiv (se_op op_mulW od_mul (se_var 4) (se_op op_sub od_sub (se_var 4) se_int)) se_int)))
      (sss_one (ss_ret (se_op op_addAll od_add (se_var 9) (se_op op_fdivW od_fdiv (se_op op_mulW od_mul (se_var 6) (se_op op_addAll od_add (se_var 6) se_int)) se_int))))))))))))))))
abbrev s__law_some_number : Stmt := topS 62
theorem sc__law_some_number : FnScope ["_law_stock_here", "_law_form", "_law_top", "_law_high", "_law_low"] ["_law_stock_here"] (defScope s__law_some_number) := ⟨rfl, rfl, rfl, by decide +kernel, rfl, by decide +kernel, by decide +kernel⟩
def b__law_some_number (c__law_take : FD) : FS :=
  (sSeq (sAsg (fCall c__law_take (fCons (fVar 0) (fCons (fC (.int 4)) fNil))) (gN 1))
    (sSeq (sIf (fTest (fBin gLt (fVar 1) (fC (.int 2)))) (sRet (fCall c__law_take (fCons (fVar 0) (fCons (fC (.int 13)) fNil)))) sSkip)
    (sSeq (sIf (fTest (fBin gEq (fVar 1) (fC (.int 3)))) (sRet (fBin gSubI (fBin gAdd (fBin gPow (fC (.int 10)) (fC (.int 40))) (fC (.int 2))) (fCall c__law_take (fCons (fVar 0) (fCons (fC (.int 5)) fNil))))) sSkip)
    (sSeq (sAsg (fBin gIx (fLst (fCons (fBin gPow (fC (.int 10)) (fC (.int 2))) (fCons (fBin gPow (fC (.int 10)) (fC (.int 4))) (fCons (fBin gPow (fC (.int 10)) (fC (.int 9))) (fCons (fBin gPow (fC (.int 10)) (fC (.int 20))) (fCons (fBin gPow (fC (.int 10)) (fC (.int 30))) (fCons (fBin gPow (fC (.int 10)) (fC (.int 40))) fNil))))))) (fCall c__law_take (fCons (fVar 0) (fCons (fC (.int 6)) fNil)))) (gN 2))
    (sSeq (sPar 3 4 (fCons (fCall c__law_take (fCons (fVar 0) (fCons (fBin gPow (fC (.int 10)) (fC (.int 14))) fNil))) (fCons (fCall c__law_take (fCons (fVar 0) (fCons (fBin gPow (fC (.int 10)) (fC (.int 14))) fNil))) fNil)))
    (sRet (fBin gMod (fCall cInt (fCons (fBin gAdd (fBin gAdd (fBin gMul (fVar 3) (fBin gPow (fC (.int 10)) (fC (.int 26)))) (fBin gMul (fVar 4) (fBin gPow (fC (.int 10)) (fC (.int 12))))) (fCall c__law_take (fCons (fVar 0) (fCons (fBin gPow (fC (.int 10)) (fC (.int 12))) fNil)))) fNil)) (fVar 2))))))))
def d__law_some_number (c__law_take : FD) : FD := runD 5 (b__law_some_number c__law_take)
theorem ok__law_some_number {c__law_take : FD} {k : Nat} (T : Txt w K mg) (C__law_take : Callee P w K mg base ct k "_law_take" 2 c__law_take) : Callee P w K mg base ct (k + 1) "_law_some_number" 1 (d__law_some_number c__law_take) :=
  callee_of T.d__law_some_number sc__law_some_number fun f cdv A outer s H E hr =>
    (sss_cons (ss_set (i := 1) sc__law_some_number.nd rfl (Or.inl rfl) (se_fn C__law_take hr (by rfl) (sa_cons (se_var 0) (sa_cons se_int sa_nil)) (fCons_len (fCons_len (fun _ _ _ _ h => fNil_len h)))))
      (sss_cons (ss_if (st_cmp op_lt od_lt (se_var 1) se_int (nomark _)) (sss_one (ss_ret (se_fn C__law_take hr (by rfl) (sa_cons (se_var 0) (sa_cons se_int sa_nil)) (fCons_len (fCons_len (fun _ _ _ _ h => fNil_len h)))))) sss_nil)
      (sss_cons (ss_if (st_cmp (op_eqAll hr) od_eq (se_var 1) se_int (nomark _)) (sss_one (ss_ret (se_op op_sub od_sub (se_op op_addAll od_add (se_op op_pow od_pow se_int se_int) se_int) (se_fn C__law_take hr (by rfl) (sa_cons (se_var 0) (sa_cons se_int sa_nil)) (fCons_len (fCons_len (fun _ _ _ _ h => fNil_len h))))))) sss_nil)
      (sss_cons (ss_set (i := 2) sc__law_some_number.nd rfl (Or.inl rfl) (se_ix ix_seq od_ix (se_lst (sa_cons (se_op op_pow od_pow se_int se_int) (sa_cons (se_op op_pow od_pow se_int se_int) (sa_cons (se_op op_pow od_pow se_int se_int) (sa_cons (se_op op_pow od_pow se_int se_int) (sa_cons (se_op op_pow od_pow se_int se_int) (sa_cons (se_op op_pow od_pow se_int se_int) sa_nil))))))) (se_fn C__law_take hr (by rfl) (sa_cons (se_var 0) (sa_cons se_int sa_nil)) (fCons_len (fCons_len (fun _ _ _ _ h => fNil_len h)))) (fun _ _ => rfl)))
      (sss_cons (ss_par (i := 3) (j := 4) (fun ta h => ps_par rfl sc__law_some_number.nd rfl rfl (by decide) rfl rfl h (by rfl)) (sa_cons (se_fn C__law_take hr (by rfl) (sa_cons (se_var 0) (sa_cons (se_op op_pow od_pow se_int se_int) sa_nil)) (fCons_len (fCons_len (fun _ _ _ _ h => fNil_len h)))) (sa_cons (se_fn C__law_take hr (by rfl) (sa_cons (se_var 0) (sa_cons (se_op op_pow od_pow se_int se_int) sa_nil)) (fCons_len (fCons_len (fun _ _ _ _ h => fNil_len h)))) sa_nil)))
      (sss_one (ss_ret (se_op op_mod od_mod (se_callTy call_intAll cd_int (by rfl) T.n_int (by decide +kernel) (sa_cons (se_op op_addAll od_add (se_op op_addAll od_add (se_op op_mulW od_mul (se_var 3) (se_op op_pow od_pow se_int se_int)) (se_op op_mulW od_mul (se_var 4) (se_op op_pow od_pow se_int se_int))) (se_fn C__law_take hr (by rfl) (sa_cons (se_var 0) (sa_cons (se_op op_pow od_pow se_int se_int) sa_nil)) (fCons_len (fCons_len (fun _ _ _ _ h => fNil_len h))))) sa_nil)) (se_var 2)))))))))
abbrev s__law_some_many : Stmt := topS 63
theorem sc__law_some_many : FnScope ["_law_stock_here", "_law_size", "_law_times"] ["_law_stock_here", "_law_size"] (defScope s__law_some_many) := ⟨rfl, rfl, rfl, by decide +kernel, rfl, by decide +kernel, by decide +kernel⟩
def b__law_some_many (c__law_take : FD) (c__law_some_number : FD) : FS :=
  (sSeq (sIf (tOrD (fTest (fBin gIsN (fVar 1) (fC .non))) (fTest (fBin gEq (fCall c__law_take (fCons (fVar 0) (fCons (fC (.int 3)) fNil))) (fC (.int 0))))) (sRet (fCall c__law_some_number (fCons (fVar 0) fNil))) sSkip)
    (sSeq (sAsg (fBin gIx (fLst (fCons (fC (.int 0)) (fCons (fC (.int 1)) (fCons (fC (.int 1)) (fCons (fC (.int 2)) (fCons (fC (.int 2)) (fCons (fC (.int 3)) (fCons (fC (.int 5)) (fCons (fC (.int 10)) fNil))))))))) (fCall c__law_take (fCons (fVar 0) (fCons (fC (.int 8)) fNil)))) (gN 2))
    (sRet (fBin gSubI (fBin gAdd (fBin gMul (fVar 2) (fVar 1)) (fC (.int 2))) (fCall c__law_take (fCons (fVar 0) (fCons (fC (.int 5)) fNil)))))))
def d__law_some_many (c__law_take : FD) (c__law_some_number : FD) : FD := runD 3 (b__law_some_many c__law_take c__law_some_number)
theorem ok__law_some_many {c__law_take : FD} {c__law_some_number : FD} {k : Nat} (T : Txt w K mg) (C__law_take : Callee P w K mg base ct k "_law_take" 2 c__law_take) (C__law_some_number : Callee P w K mg base ct k "_law_some_number" 1 c__law_some_number) : Callee P w K mg base ct (k + 1) "_law_some_many" 2 (d__law_some_many c__law_take c__law_some_number) :=
  callee_of T.d__law_some_many sc__law_some_many fun f cdv A outer s H E hr =>
    (sss_cons (ss_if (SW.st (sw_or (st_cmp op_isN od_isN (se_var 1) se_non (nomark _)) (sw_or1 (st_cmp (op_eqAll hr) od_eq (se_fn C__law_take hr (by rfl) (sa_cons (se_var 0) (sa_cons se_int sa_nil)) (fCons_len (fCons_len (fun _ _ _ _ h => fNil_len h)))) se_int (nomark _))))) (sss_one (ss_ret (se_fn C__law_some_number hr (by rfl) (sa_cons (se_var 0) sa_nil) (fCons_len (fun _ _ _ _ h => fNil_len h))))) sss_nil)
      (sss_cons (ss_set (i := 2) sc__law_some_many.nd rfl (Or.inl rfl) (se_ix ix_seq od_ix (se_lst (sa_cons se_int (sa_cons se_int (sa_cons se_int (sa_cons se_int (sa_cons se_int (sa_cons se_int (sa_cons se_int (sa_cons se_int sa_nil))))))))) (se_fn C__law_take hr (by rfl) (sa_cons (se_var 0) (sa_cons se_int sa_nil)) (fCons_len (fCons_len (fun _ _ _ _ h => fNil_len h)))) (fun _ _ => rfl)))
      (sss_one (ss_ret (se_op op_sub od_sub (se_op op_addAll od_add (se_op op_mulW od_mul (se_var 2) (se_var 1)) se_int) (se_fn C__law_take hr (by rfl) (sa_cons (se_var 0) (sa_cons se_int sa_nil)) (fCons_len (fCons_len (fun _ _ _ _ h => fNil_len h)))))))))
abbrev s__law_due : Stmt := topS 64
theorem sc__law_due : FnScope ["_law_kind", "_law_size", "_law_many", "_law_told", "_law_paper"] ["_law_kind", "_law_size", "_law_many", "_law_told", "_law_paper"] (defScope s__law_due) := ⟨rfl, rfl, rfl, by decide +kernel, rfl, by decide +kernel, by decide +kernel⟩
def b__law_due (c__law_most : FD) (c__law_is : FD) (c__law_least : FD) : FS :=
  (sSeq (sIf (tAndD (fTest (fBin gNotN (fVar 1) (fC .non))) (tNotD (fTest (fCall c__law_is (fCons (fVar 1) (fCons (fCall c__law_least (fCons (fVar 0) fNil)) (fCons (fBin gPow (fC (.int 10)) (fC (.int 40))) fNil))))))) (sRet (fC (.bl false))) sSkip)
    (sSeq (sIf (tOrD (fTest (fBin gNotN (fVar 4) (fC .non))) (tOrD (tNotD (fTest (fCall c__law_is (fCons (fVar 2) (fCons (fC (.int 0)) (fCons (fBin gPow (fC (.int 10)) (fC (.int 40))) fNil)))))) (tNotD (fTest (fCall c__law_is (fCons (fVar 3) (fCons (fC (.int 0)) (fCons (fBin gMul (fBin gPow (fC (.int 10)) (fC (.int 50))) (fBin gPow (fC (.int 10)) (fC (.int 40)))) fNil)))))))) (sRet (fC (.bl false))) sSkip)
    (sRet (fBin gEq (fVar 3) (fCall c__law_most (fCons (fVar 0) (fCons (fVar 1) (fCons (fVar 2) fNil))))))))
def d__law_due (c__law_most : FD) (c__law_is : FD) (c__law_least : FD) : FD := runD 5 (b__law_due c__law_most c__law_is c__law_least)
theorem ok__law_due {c__law_most : FD} {c__law_is : FD} {c__law_least : FD} {k : Nat} (T : Txt w K mg) (C__law_most : Callee P w K mg base ct k "_law_most" 3 c__law_most) (C__law_is : Callee P w K mg base ct k "_law_is" 3 c__law_is) (C__law_least : Callee P w K mg base ct k "_law_least" 1 c__law_least) : Callee P w K mg base ct (k + 1) "_law_due" 5 (d__law_due c__law_most c__law_is c__law_least) :=
  callee_of T.d__law_due sc__law_due fun f cdv A outer s H E hr =>
    (sss_cons (ss_if (SW.st (sw_and (st_cmp op_notN od_notN (se_var 1) se_non (nomark _)) (sw_and1 (st_not (st_val (se_fn C__law_is hr (by rfl) (sa_cons (se_var 1) (sa_cons (se_fn C__law_least hr (by rfl) (sa_cons (se_var 0) sa_nil) (fCons_len (fun _ _ _ _ h => fNil_len h))) (sa_cons (se_op op_pow od_pow se_int se_int) sa_nil))) (fCons_len (fCons_len (fCons_len (fun _ _ _ _ h => fNil_len h)))))))))) (sss_one (ss_ret se_bl)) sss_nil)
      (sss_cons (ss_if (SW.st (sw_or (st_cmp op_notN od_notN (se_var 4) se_non (nomark _)) (sw_or (st_not (st_val (se_fn C__law_is hr (by rfl) (sa_cons (se_var 2) (sa_cons se_int (sa_cons (se_op op_pow od_pow se_int se_int) sa_nil))) (fCons_len (fCons_len (fCons_len (fun _ _ _ _ h => fNil_len h))))))) (sw_or1 (st_not (st_val (se_fn C__law_is hr (by rfl) (sa_cons (se_var 3) (sa_cons se_int (sa_cons (se_op op_mulW od_mul (se_op op_pow od_pow se_int se_int) (se_op op_pow od_pow se_int se_int)) sa_nil))) (fCons_len (fCons_len (fCons_len (fun _ _ _ _ h => fNil_len h))))))))))) (sss_one (ss_ret se_bl)) sss_nil)
      (sss_one (ss_ret (se_cmp (op_eqAll hr) od_eq (se_var 3) (se_fn C__law_most hr (by rfl) (sa_cons (se_var 0) (sa_cons (se_var 1) (sa_cons (se_var 2) sa_nil))) (fCons_len (fCons_len (fCons_len (fun _ _ _ _ h => fNil_len h))))) (nomark _))))))
abbrev s__law_judged : Stmt := topS 65
theorem sc__law_judged : FnScope ["_law_kind", "_law_size", "_law_many", "_law_told", "_law_paper", "_law_claim"] ["_law_kind", "_law_size", "_law_many", "_law_told", "_law_paper"] (defScope s__law_judged) := ⟨rfl, rfl, rfl, by decide +kernel, rfl, by decide +kernel, by decide +kernel⟩
def b__law_judged (c__law_agrees : FD) (c__law_due : FD) (c__law_word : FD) : FS :=
  (sSeq (sAsg (fTup (fCons (fC (.str "most")) (fCons (fCall c__law_word (fCons (fVar 0) (fCons (fVar 1) fNil))) (fCons (fVar 2) (fCons (fVar 3) fNil))))) (gN 5))
    (sRet (fCall c__law_agrees (fCons (fVar 5) (fCons (fVar 4) (fCons (fCall c__law_due (fCons (fVar 0) (fCons (fVar 1) (fCons (fVar 2) (fCons (fVar 3) (fCons (fVar 4) fNil)))))) fNil))))))
def d__law_judged (c__law_agrees : FD) (c__law_due : FD) (c__law_word : FD) : FD := runD 6 (b__law_judged c__law_agrees c__law_due c__law_word)
theorem ok__law_judged {c__law_agrees : FD} {c__law_due : FD} {c__law_word : FD} {k : Nat} (T : Txt w K mg) (C__law_agrees : Callee P w K mg base ct k "_law_agrees" 3 c__law_agrees) (C__law_due : Callee P w K mg base ct k "_law_due" 5 c__law_due) (C__law_word : Callee P w K mg base ct k "_law_word" 2 c__law_word) : Callee P w K mg base ct (k + 1) "_law_judged" 5 (d__law_judged c__law_agrees c__law_due c__law_word) :=
  callee_of T.d__law_judged sc__law_judged fun f cdv A outer s H E hr =>
    (sss_cons (ss_set (i := 5) sc__law_judged.nd rfl (Or.inl rfl) (se_tup (sa_cons se_str (sa_cons (se_fn C__law_word hr (by rfl) (sa_cons (se_var 0) (sa_cons (se_var 1) sa_nil)) (fCons_len (fCons_len (fun _ _ _ _ h => fNil_len h)))) (sa_cons (se_var 2) (sa_cons (se_var 3) sa_nil))))))
      (sss_one (ss_ret (se_fn C__law_agrees hr (by rfl) (sa_cons (se_var 5) (sa_cons (se_var 4) (sa_cons (se_fn C__law_due hr (by rfl) (sa_cons (se_var 0) (sa_cons (se_var 1) (sa_cons (se_var 2) (sa_cons (se_var 3) (sa_cons (se_var 4) sa_nil))))) (fCons_len (fCons_len (fCons_len (fCons_len (fCons_len (fun _ _ _ _ h => fNil_len h))))))) sa_nil))) (fCons_len (fCons_len (fCons_len (fun _ _ _ _ h => fNil_len h))))))))
abbrev s__law_right : Stmt := topS 66
theorem sc__law_right : FnScope ["_law_stock_here", "_law_kind", "_law_size", "_law_many", "_law_base", "_law_every", "_law_told", "_law_paper", "_law_other"] ["_law_stock_here"] (defScope s__law_right) := ⟨rfl, rfl, rfl, by decide +kernel, rfl, by decide +kernel, by decide +kernel⟩
def b__law_right (c__law_judged : FD) (c__law_least : FD) (c__law_most : FD) (c__law_some_many : FD) (c__law_some_number : FD) (c__law_some_kind : FD) : FS :=
  (sSeq (sAsg (fCall c__law_some_kind (fCons (fVar 0) fNil)) (gN 1))
    (sSeq (sAsg (fIf (fTest (fBin gEq (fCall c__law_least (fCons (fVar 1) fNil)) (fC (.int 0)))) (fC .non) (fCall c__law_some_number (fCons (fVar 0) fNil))) (gN 2))
    (sSeq (sPar 3 4 (fCons (fCall c__law_some_many (fCons (fVar 0) (fCons (fVar 2) fNil))) (fCons (fC (.int 0)) fNil)))
    (sSeq (sIf (tOrD (fTest (fBin gIsN (fVar 2) (fC .non))) (fTest (fBin gGe (fVar 2) (fCall c__law_least (fCons (fVar 1) fNil))))) (sAsg (fCall c__law_most (fCons (fVar 1) (fCons (fVar 2) (fCons (fCall cMax2 (fCons (fVar 3) (fCons (fC (.int 0)) fNil))) fNil)))) (gN 4)) sSkip)
    (sSeq (sAsg (fBin gFdiv (fBin gMul (fVar 3) (fBin gSubI (fVar 3) (fC (.int 1)))) (fC (.int 2))) (gN 5))
    (sSeq (sFor (iLst (fLst (fCons (fVar 4) (fCons (fBin gAdd (fVar 4) (fC (.int 1))) (fCons (fBin gSubI (fVar 4) (fC (.int 1))) (fCons (fC (.int 0)) (fCons (fVar 5) (fCons (fUn gNeg (fVar 4)) (fCons (fVar 3) (fCons (fC (.bl true)) (fCons (fC (.bl false)) (fCons (fC .non) (fCons (fCall cStr (fCons (fVar 4) fNil)) (fCons (fTup (fCons (fVar 4) fNil)) (fCons (fLst (fCons (fVar 4) fNil)) (fCons (fC (.dct [] [])) fNil)))))))))))))))) (gN 6) (sIf (tNotD (fTest (fCall c__law_judged (fCons (fVar 1) (fCons (fVar 2) (fCons (fVar 3) (fCons (fVar 6) (fCons (fC .non) fNil)))))))) (sRet (fC (.bl false))) sSkip))
    (sSeq (sFor (iLst (fLst (fCons (fTup fNil) (fCons (fC (.int 0)) (fCons (fC (.int 1)) (fCons (fC (.bl false)) (fCons (fC (.bl true)) (fCons (fVar 4) (fCons (fC (.str "")) (fCons (fC (.str "None")) (fCons (fLst fNil) (fCons (fC (.dct [] [])) (fCons (fTup (fCons (fC .non) fNil)) fNil))))))))))))) (gN 7) (sIf (tNotD (fTest (fCall c__law_judged (fCons (fVar 1) (fCons (fVar 2) (fCons (fVar 3) (fCons (fVar 4) (fCons (fVar 7) fNil)))))))) (sRet (fC (.bl false))) sSkip))
    (sSeq (sFor (iLst (fLst (fCons (fBin gAdd (fVar 3) (fC (.int 1))) (fCons (fBin gSubI (fVar 3) (fC (.int 1))) (fCons (fUn gNeg (fVar 3)) (fCons (fC (.bl true)) (fCons (fC (.bl false)) (fCons (fC .non) (fCons (fCall cStr (fCons (fVar 3) fNil)) (fCons (fTup (fCons (fVar 3) fNil)) (fCons (fLst (fCons (fVar 3) fNil)) (fCons (fBin gPow (fC (.int 10)) (fC (.int 40))) (fCons (fBin gAdd (fBin gPow (fC (.int 10)) (fC (.int 40))) (fC (.int 1))) fNil))))))))))))) (gN 8) (sIf (tNotD (fTest (fCall c__law_judged (fCons (fVar 1) (fCons (fVar 2) (fCons (fVar 8) (fCons (fVar 4) (fCons (fC .non) fNil)))))))) (sRet (fC (.bl false))) sSkip))
    (sSeq (sFor (iRange1 (fCons (fC (.int 13)) fNil)) (gN 8) (sSeq (sIf (tNotD (fTest (fCall c__law_judged (fCons (fVar 1) (fCons (fVar 2) (fCons (fVar 8) (fCons (fVar 4) (fCons (fC .non) fNil)))))))) (sRet (fC (.bl false))) sSkip)
    (sIf (tAndD (fTest (fBin gNotN (fVar 2) (fC .non))) (tNotD (fTest (fCall c__law_judged (fCons (fVar 1) (fCons (fVar 8) (fCons (fVar 3) (fCons (fVar 4) (fCons (fC .non) fNil))))))))) (sRet (fC (.bl false))) sSkip)))
    (sRet (fC (.bl true))))))))))))
def d__law_right (c__law_judged : FD) (c__law_least : FD) (c__law_most : FD) (c__law_some_many : FD) (c__law_some_number : FD) (c__law_some_kind : FD) : FD := runD 9 (b__law_right c__law_judged c__law_least c__law_most c__law_some_many c__law_some_number c__law_some_kind)
theorem ok__law_right {c__law_judged : FD} {c__law_least : FD} {c__law_most : FD} {c__law_some_many : FD} {c__law_some_number : FD} {c__law_some_kind : FD} {k : Nat} (T : Txt w K mg) (C__law_judged : Callee P w K mg base ct k "_law_judged" 5 c__law_judged) (C__law_least : Callee P w K mg base ct k "_law_least" 1 c__law_least) (C__law_most : Callee P w K mg base ct k "_law_most" 3 c__law_most) (C__law_some_many : Callee P w K mg base ct k "_law_some_many" 2 c__law_some_many) (C__law_some_number : Callee P w K mg base ct k "_law_some_number" 1 c__law_some_number) (C__law_some_kind : Callee P w K mg base ct k "_law_some_kind" 1 c__law_some_kind) : Callee P w K mg base ct (k + 1) "_law_right" 1 (d__law_right c__law_judged c__law_least c__law_most c__law_some_many c__law_some_number c__law_some_kind) :=
  callee_of T.d__law_right sc__law_right fun f cdv A outer s H E hr =>
    (sss_cons (ss_set (i := 1) sc__law_right.nd rfl (Or.inl rfl) (se_fn C__law_some_kind hr (by rfl) (sa_cons (se_var 0) sa_nil) (fCons_len (fun _ _ _ _ h => fNil_len h))))
      (sss_cons (ss_set (i := 2) sc__law_right.nd rfl (Or.inl rfl) (se_if (st_cmp (op_eqAll hr) od_eq (se_fn C__law_least hr (by rfl) (sa_cons (se_var 1) sa_nil) (fCons_len (fun _ _ _ _ h => fNil_len h))) se_int (nomark _)) se_non (se_fn C__law_some_number hr (by rfl) (sa_cons (se_var 0) sa_nil) (fCons_len (fun _ _ _ _ h => fNil_len h)))))
      (sss_cons (ss_par (i := 3) (j := 4) (fun ta h => ps_par rfl sc__law_right.nd rfl rfl (by decide) rfl rfl h (by rfl)) (sa_cons (se_fn C__law_some_many hr (by rfl) (sa_cons (se_var 0) (sa_cons (se_var 2) sa_nil)) (fCons_len (fCons_len (fun _ _ _ _ h => fNil_len h)))) (sa_cons se_int sa_nil)))
      (sss_cons (ss_if (SW.st (sw_or (st_cmp op_isN od_isN (se_var 2) se_non (nomark _)) (sw_or1 (st_cmp op_ge od_ge (se_var 2) (se_fn C__law_least hr (by rfl) (sa_cons (se_var 1) sa_nil) (fCons_len (fun _ _ _ _ h => fNil_len h))) (nomark _))))) (sss_one (ss_set (i := 4) sc__law_right.nd rfl (Or.inl rfl) (se_fn C__law_most hr (by rfl) (sa_cons (se_var 1) (sa_cons (se_var 2) (sa_cons (se_callB (call_max2 rfl) cd_max2 (by rfl) T.n_max (by decide +kernel) (sa_cons (se_var 3) (sa_cons se_int sa_nil))) sa_nil))) (fCons_len (fCons_len (fCons_len (fun _ _ _ _ h => fNil_len h))))))) sss_nil)
      (sss_cons (ss_set (i := 5) sc__law_right.nd rfl (Or.inl rfl) (se_op op_fdivW od_fdiv (se_op op_mulW od_mul (se_var 3) (se_op op_sub od_sub (se_var 3) se_int)) se_int))
      (sss_cons (ss_for PassesOwn.never rfl (si_list (se_lst (sa_cons (se_var 4) (sa_cons (se_op op_addAll od_add (se_var 4) se_int) (sa_cons (se_op op_sub od_sub (se_var 4) se_int) (sa_cons se_int (sa_cons (se_var 5) (sa_cons (se_neg (se_var 4)) (sa_cons (se_var 3) (sa_cons se_bl (sa_cons se_bl (sa_cons se_non (sa_cons (se_callTy call_str_int cd_str (by rfl) T.n_str (by decide +kernel) (sa_cons (se_var 4) sa_nil)) (sa_cons (se_tup (sa_cons (se_var 4) sa_nil)) (sa_cons (se_lst (sa_cons (se_var 4) sa_nil)) (sa_cons se_dnewF sa_nil)))))))))))))))) (sg_name (i := 6) sc__law_right.nd rfl (Or.inl rfl)) (sss_one (ss_if (st_not (st_val (se_fn C__law_judged hr (by rfl) (sa_cons (se_var 1) (sa_cons (se_var 2) (sa_cons (se_var 3) (sa_cons (se_var 6) (sa_cons se_non sa_nil))))) (fCons_len (fCons_len (fCons_len (fCons_len (fCons_len (fun _ _ _ _ h => fNil_len h))))))))) (sss_one (ss_ret se_bl)) sss_nil)))
      (sss_cons (ss_for PassesOwn.never rfl (si_list (se_lst (sa_cons (se_tup sa_nil) (sa_cons se_int (sa_cons se_int (sa_cons se_bl (sa_cons se_bl (sa_cons (se_var 4) (sa_cons se_str (sa_cons se_str (sa_cons (se_lst sa_nil) (sa_cons se_dnewF (sa_cons (se_tup (sa_cons se_non sa_nil)) sa_nil))))))))))))) (sg_name (i := 7) sc__law_right.nd rfl (Or.inl rfl)) (sss_one (ss_if (st_not (st_val (se_fn C__law_judged hr (by rfl) (sa_cons (se_var 1) (sa_cons (se_var 2) (sa_cons (se_var 3) (sa_cons (se_var 4) (sa_cons (se_var 7) sa_nil))))) (fCons_len (fCons_len (fCons_len (fCons_len (fCons_len (fun _ _ _ _ h => fNil_len h))))))))) (sss_one (ss_ret se_bl)) sss_nil)))
      (sss_cons (ss_for PassesOwn.never rfl (si_list (se_lst (sa_cons (se_op op_addAll od_add (se_var 3) se_int) (sa_cons (se_op op_sub od_sub (se_var 3) se_int) (sa_cons (se_neg (se_var 3)) (sa_cons se_bl (sa_cons se_bl (sa_cons se_non (sa_cons (se_callTy call_str_int cd_str (by rfl) T.n_str (by decide +kernel) (sa_cons (se_var 3) sa_nil)) (sa_cons (se_tup (sa_cons (se_var 3) sa_nil)) (sa_cons (se_lst (sa_cons (se_var 3) sa_nil)) (sa_cons (se_op op_pow od_pow se_int se_int) (sa_cons (se_op op_addAll od_add (se_op op_pow od_pow se_int se_int) se_int) sa_nil))))))))))))) (sg_name (i := 8) sc__law_right.nd rfl (Or.inl rfl)) (sss_one (ss_if (st_not (st_val (se_fn C__law_judged hr (by rfl) (sa_cons (se_var 1) (sa_cons (se_var 2) (sa_cons (se_var 8) (sa_cons (se_var 4) (sa_cons se_non sa_nil))))) (fCons_len (fCons_len (fCons_len (fCons_len (fCons_len (fun _ _ _ _ h => fNil_len h))))))))) (sss_one (ss_ret se_bl)) sss_nil)))
      (sss_cons (ss_for PassesOwn.never rfl (si_range1 (by rfl) T.n_range (sa_cons se_int sa_nil)) (sg_name (i := 8) sc__law_right.nd rfl (Or.inl rfl)) (sss_cons (ss_if (st_not (st_val (se_fn C__law_judged hr (by rfl) (sa_cons (se_var 1) (sa_cons (se_var 2) (sa_cons (se_var 8) (sa_cons (se_var 4) (sa_cons se_non sa_nil))))) (fCons_len (fCons_len (fCons_len (fCons_len (fCons_len (fun _ _ _ _ h => fNil_len h))))))))) (sss_one (ss_ret se_bl)) sss_nil)
      (sss_one (ss_if (SW.st (sw_and (st_cmp op_notN od_notN (se_var 2) se_non (nomark _)) (sw_and1 (st_not (st_val (se_fn C__law_judged hr (by rfl) (sa_cons (se_var 1) (sa_cons (se_var 8) (sa_cons (se_var 3) (sa_cons (se_var 4) (sa_cons se_non sa_nil))))) (fCons_len (fCons_len (fCons_len (fCons_len (fCons_len (fun _ _ _ _ h => fNil_len h)))))))))))) (sss_one (ss_ret se_bl)) sss_nil))))
      (sss_one (ss_ret se_bl)))))))))))
abbrev s_law : Stmt := topS 67
theorem sc_law : FnScope ["_law_script", "_law_k"] ["_law_script"] (defScope s_law) := ⟨rfl, rfl, rfl, by decide +kernel, rfl, by decide +kernel, by decide +kernel⟩
def b_law (c__law_right : FD) (c__law_stock : FD) : FS :=
  (sSeq (sFor (iRange1 (fCons (fCall cMax2 (fCons (fC (.int 2)) (fCons (fCall cMin2 (fCons (fCall cLen (fCons (fVar 0) fNil)) (fCons (fC (.int 4)) fNil))) fNil))) fNil)) (gN 1) (sIf (tNotD (fTest (fCall c__law_right (fCons (fCall c__law_stock (fCons (fVar 0) (fCons (fVar 1) fNil))) fNil)))) (sRet (fC (.bl false))) sSkip))
    (sRet (fC (.bl true))))
def d_law (c__law_right : FD) (c__law_stock : FD) : FD := runD 2 (b_law c__law_right c__law_stock)
theorem fn_law {c__law_right : FD} {c__law_stock : FD} {k : Nat} {f : Addr} {fd : FuncData} (F : Fun K "law" "law" s_law f fd) (T : Txt w K mg) (C__law_right : Callee P w K mg base ct k "_law_right" 1 c__law_right) (C__law_stock : Callee P w K mg base ct k "_law_stock" 2 c__law_stock) : FnOk P w K mg base CX0 (k + 1) f fd ["_law_script"] (spD K ct 1 (d_law c__law_right c__law_stock)) :=
  def_ok F sc_law fun cdv A outer s H E hr =>
    (sss_cons (ss_for PassesOwn.never rfl (si_range1 (by rfl) T.n_range (sa_cons (se_callB (call_max2 rfl) cd_max2 (by rfl) T.n_max (by decide +kernel) (sa_cons se_int (sa_cons (se_callB (call_min2 rfl) cd_min2 (by rfl) T.n_min (by decide +kernel) (sa_cons (se_callB call_lenAll cd_len (by rfl) T.n_len (by decide +kernel) (sa_cons (se_var 0) sa_nil)) (sa_cons se_int sa_nil))) sa_nil))) sa_nil)) (sg_name (i := 1) sc_law.nd rfl (Or.inl rfl)) (sss_one (ss_if (st_not (st_val (se_fn C__law_right hr (by rfl) (sa_cons (se_fn C__law_stock hr (by rfl) (sa_cons (se_var 0) (sa_cons (se_var 1) sa_nil)) (fCons_len (fCons_len (fun _ _ _ _ h => fNil_len h)))) sa_nil) (fCons_len (fun _ _ _ _ h => fNil_len h))))) (sss_one (ss_ret se_bl)) sss_nil)))
      (sss_one (ss_ret se_bl)))
abbrev w_is_integer : FD := d_is_integer
theorem wk_is_integer (T : Txt w K mg) : Callee P w K mg base ct 1 "is_integer" 1 w_is_integer :=
  ok_is_integer (k := 0) T
abbrev w_is_between : FD := d_is_between w_is_integer
theorem wk_is_between (T : Txt w K mg) : Callee P w K mg base ct 2 "is_between" 3 w_is_between :=
  ok_is_between (k := 1) T ((wk_is_integer T).mono (by decide))
abbrev w_natural : FD := d_natural
theorem wk_natural (T : Txt w K mg) : Callee P w K mg base ct 1 "natural" 2 w_natural :=
  ok_natural (k := 0) T
abbrev w_thing_of : FD := d_thing_of w_natural
theorem wk_thing_of (T : Txt w K mg) : Callee P w K mg base ct 2 "thing_of" 1 w_thing_of :=
  ok_thing_of (k := 1) T ((wk_natural T).mono (by decide))
abbrev w_pairs_of : FD := d_pairs_of
theorem wk_pairs_of (T : Txt w K mg) : Callee P w K mg base ct 1 "pairs_of" 1 w_pairs_of :=
  ok_pairs_of (k := 0) T
abbrev w_most_without_rings : FD := d_most_without_rings w_pairs_of
theorem wk_most_without_rings (T : Txt w K mg) : Callee P w K mg base ct 2 "most_without_rings" 3 w_most_without_rings :=
  ok_most_without_rings (k := 1) T ((wk_pairs_of T).mono (by decide))
abbrev w_most_ties : FD := d_most_ties w_most_without_rings w_pairs_of
theorem wk_most_ties (T : Txt w K mg) : Callee P w K mg base ct 3 "most_ties" 3 w_most_ties :=
  ok_most_ties (k := 2) T ((wk_most_without_rings T).mono (by decide)) ((wk_pairs_of T).mono (by decide))
abbrev w_is_number : FD := d_is_number w_most_ties w_is_between w_is_integer
theorem wk_is_number (T : Txt w K mg) : Callee P w K mg base ct 4 "is_number" 4 w_is_number :=
  ok_is_number (k := 3) T ((wk_most_ties T).mono (by decide)) ((wk_is_between T).mono (by decide)) ((wk_is_integer T).mono (by decide))
abbrev w_accepts : FD := d_accepts w_is_number w_thing_of
theorem wk_accepts (T : Txt w K mg) : Callee P w K mg base ct 5 "accepts" 2 w_accepts :=
  ok_accepts (k := 4) T ((wk_is_number T).mono (by decide)) ((wk_thing_of T).mono (by decide))
abbrev w__law_stock : FD := d__law_stock
theorem wk__law_stock (T : Txt w K mg) : Callee P w K mg base ct 1 "_law_stock" 2 w__law_stock :=
  ok__law_stock (k := 0) T
abbrev w__law_take : FD := d__law_take
theorem wk__law_take (T : Txt w K mg) : Callee P w K mg base ct 1 "_law_take" 2 w__law_take :=
  ok__law_take (k := 0) T
abbrev w__law_agrees : FD := d__law_agrees w_accepts
theorem wk__law_agrees (T : Txt w K mg) : Callee P w K mg base ct 6 "_law_agrees" 3 w__law_agrees :=
  ok__law_agrees (k := 5) T ((wk_accepts T).mono (by decide))
abbrev w__law_is : FD := d__law_is
theorem wk__law_is (T : Txt w K mg) : Callee P w K mg base ct 1 "_law_is" 3 w__law_is :=
  ok__law_is (k := 0) T
abbrev w__law_word : FD := d__law_word
theorem wk__law_word (T : Txt w K mg) : Callee P w K mg base ct 1 "_law_word" 2 w__law_word :=
  ok__law_word (k := 0) T
abbrev w__law_some_kind : FD := d__law_some_kind w__law_take
theorem wk__law_some_kind (T : Txt w K mg) : Callee P w K mg base ct 2 "_law_some_kind" 1 w__law_some_kind :=
  ok__law_some_kind (k := 1) T ((wk__law_take T).mono (by decide))
abbrev w__law_least : FD := d__law_least
theorem wk__law_least (T : Txt w K mg) : Callee P w K mg base ct 1 "_law_least" 1 w__law_least :=
  ok__law_least (k := 0) T
abbrev w__law_most : FD := d__law_most
theorem wk__law_most (T : Txt w K mg) : Callee P w K mg base ct 1 "_law_most" 3 w__law_most :=
  ok__law_most (k := 0) T
abbrev w__law_some_number : FD := d__law_some_number w__law_take
theorem wk__law_some_number (T : Txt w K mg) : Callee P w K mg base ct 2 "_law_some_number" 1 w__law_some_number :=
  ok__law_some_number (k := 1) T ((wk__law_take T).mono (by decide))
abbrev w__law_some_many : FD := d__law_some_many w__law_take w__law_some_number
theorem wk__law_some_many (T : Txt w K mg) : Callee P w K mg base ct 3 "_law_some_many" 2 w__law_some_many :=
  ok__law_some_many (k := 2) T ((wk__law_take T).mono (by decide)) ((wk__law_some_number T).mono (by decide))
abbrev w__law_due : FD := d__law_due w__law_most w__law_is w__law_least
theorem wk__law_due (T : Txt w K mg) : Callee P w K mg base ct 2 "_law_due" 5 w__law_due :=
  ok__law_due (k := 1) T ((wk__law_most T).mono (by decide)) ((wk__law_is T).mono (by decide)) ((wk__law_least T).mono (by decide))
abbrev w__law_judged : FD := d__law_judged w__law_agrees w__law_due w__law_word
theorem wk__law_judged (T : Txt w K mg) : Callee P w K mg base ct 7 "_law_judged" 5 w__law_judged :=
  ok__law_judged (k := 6) T ((wk__law_agrees T).mono (by decide)) ((wk__law_due T).mono (by decide)) ((wk__law_word T).mono (by decide))
abbrev w__law_right : FD := d__law_right w__law_judged w__law_least w__law_most w__law_some_many w__law_some_number w__law_some_kind
theorem wk__law_right (T : Txt w K mg) : Callee P w K mg base ct 8 "_law_right" 1 w__law_right :=
  ok__law_right (k := 7) T ((wk__law_judged T).mono (by decide)) ((wk__law_least T).mono (by decide)) ((wk__law_most T).mono (by decide)) ((wk__law_some_many T).mono (by decide)) ((wk__law_some_number T).mono (by decide)) ((wk__law_some_kind T).mono (by decide))
def lawD : FD := d_law w__law_right w__law_stock
theorem law_fn {f : Addr} {fd : FuncData} (F : Fun K "law" "law" s_law f fd) (T : Txt w K mg) : FnOk P w K mg base CX0 12 f fd ["_law_script"] (spD K ct 1 lawD) :=
  fn_law (k := 11) F T ((wk__law_right T).mono (by decide)) ((wk__law_stock T).mono (by decide))
end LW

namespace LW
open PySem PySem.Spec PyProof.Rows L2 TL DL
/-! ## natural: of a number's text -/
theorem nat_test (x : Str) (m : Int) (S : Sto) (hx : x.length ≤ 1000000) :
    (tOrD (tNotD (fTest (fChain gLe gLe (fC (.int 1)) (fCall cLen (fCons (fVar 0) fNil)) (fVar 1)))) (fTest (fCall cAny (fCons (fLc (iStrD (fVar 0)) (gN 2) tYesD (fBin gNotIn (fVar 2) (fC (.str "0123456789"))) [2]) fNil)))) [some (.str x), some (.int m), none] S
      = some (!(decide (1 ≤ (x.length : Int)) && decide ((x.length : Int) ≤ m)) || (x.cps.toList.map fun c => !(decide (48 ≤ c) && decide (c ≤ 57))).any id, S) := by
  have hl := lc_nat [some (.str x), some (.int m), none] (fVar 0) x S 2 rfl (by simp) hx
  have h1 : (fCall cLen (fCons (fVar 0) fNil)) [some (.str x), some (.int m), none] S = some (.int x.length, S) := by
    show (if x.length ≤ 16777216 then some (D.int x.length, S) else none) = _
    rw [if_pos (by omega)]
  have h2 : (fTest (fCall cAny (fCons (fLc (iStrD (fVar 0)) (gN 2) tYesD (fBin gNotIn (fVar 2) (fC (.str "0123456789"))) [2]) fNil))) [some (.str x), some (.int m), none] S = some ((x.cps.toList.map fun c => !(decide (48 ≤ c) && decide (c ≤ 57))).any id, S) := by
    refine test_of (call_of (S1 := S) (ds := [.lst (x.cps.toList.map fun c => D.bl (!(decide (48 ≤ c) && decide (c ≤ 57))))]) ?_ ?_)
    · unfold fCons
      rw [show (fLc (iStrD (fVar 0)) (gN 2) tYesD (fBin gNotIn (fVar 2) (fC (.str "0123456789"))) [2]) [some (.str x), some (.int m), none] S = _ from hl]
      rfl
    · show (asBools (x.cps.toList.map fun c => D.bl (!(decide (48 ≤ c) && decide (c ≤ 57))))).map _ = _
      rw [asBools_map]
      rfl
  have h3 : (tNotD (fTest (fChain gLe gLe (fC (.int 1)) (fCall cLen (fCons (fVar 0) fNil)) (fVar 1)))) [some (.str x), some (.int m), none] S = some (!(decide (1 ≤ (x.length : Int)) && decide ((x.length : Int) ≤ m)), S) := by
    refine tnot_of (test_of ?_)
    rw [chain_of (S1 := S) rfl h1 (b := decide ((1 : Int) ≤ x.length)) (S3 := S) rfl]
    cases decide ((1 : Int) ≤ x.length) <;> rfl
  rw [or_of h3]
  cases (!(decide (1 ≤ (x.length : Int)) && decide ((x.length : Int) ≤ m))) with
  | true => rfl
  | false => exact h2
theorem allDig_any {l : List Nat} (h : NumText.AllDigits l) : (l.map fun c => !(decide (48 ≤ c) && decide (c ≤ 57))).any id = false := by
  rw [List.any_eq_false]
  intro b hb
  obtain ⟨c, hc, rfl⟩ := List.mem_map.mp hb
  have := h c hc
  simp [this]
theorem natural_num (n : Nat) (m : Int) (S : Sto) (h : ((numL n).length : Int) ≤ m) (h2 : (numL n).length ≤ 640) : d_natural [.str (numT n), .int m] S = some (.int n, S) := by
  have hl := numT_len n
  have hne : 1 ≤ (numL n).length := by
    have := numL_ne n
    cases e : numL n with
    | nil => exact absurd e this
    | cons _ _ => simp
  have hT := nat_test (numT n) m S (by omega)
  rw [numT_tl, allDig_any (numL_digits n), hl, decide_eq_true (show (1 : Int) ≤ ((numL n).length : Int) by omega), decide_eq_true h] at hT
  refine run_of ?_
  refine (seq_nx ((if_f hT).trans rfl)).trans ?_
  refine ret_of (if_of (b := true) (S1 := S) ?_ ?_)
  · by_cases hz : n = 0
    · subst hz
      rfl
    · obtain ⟨c, r, e, hc⟩ := numL_head n (by omega)
      have e1 : (fTest (fBin gEq (fVar 0) (fC (.str "0")))) [some (.str (numT n)), some (.int m), none] S = some (decide (numT n = "0"), S) := rfl
      have e2 : (fTest (fBin gNe (fBin gIx (fVar 0) (fC (.int 0))) (fC (.str "0")))) [some (.str (numT n)), some (.int m), none] S = some (true, S) := by
        refine test_of (bin_of (S1 := S) (S2 := S) (x := .str ⟨#[c]⟩) (y := .str "0") ?_ rfl ?_)
        · show (if (numT n).length ≤ 16777216 then (atI (numT n).cps.toList 0).map (fun c => (D.str ⟨#[c]⟩, S)) else none) = _
          rw [if_pos (by omega), numT_tl, e, show L2.atI (c :: r) 0 = some c from atI_nat (j := 0) rfl]
          rfl
        · show some (D.bl (!decide ((⟨#[c]⟩ : Str) = "0")), S) = _
          have : (⟨#[c]⟩ : Str) ≠ "0" := fun q => by
            have q2 : (⟨#[c]⟩ : Str).cps.toList = ("0" : Str).cps.toList := by rw [q]
            have q3 : ("0" : Str).cps.toList = [48] := by decide +kernel
            rw [q3] at q2
            simp at q2
            exact hc q2
          rw [decide_eq_false this]
          rfl
      rw [or_of e1]
      cases decide (numT n = "0") with
      | true => rfl
      | false => exact e2
  · refine call_of (S1 := S) (ds := [.str (numT n)]) rfl ?_
    show (if (numT n).length ≤ 640 then (intText? (numT n)).map (fun n => (D.int n, S)) else none) = _
    rw [if_pos (by omega), show intText? (numT n) = some (n : Int) from int_num (by omega)]
    rfl
/-! ## thing_of: of the text of a kind and a number -/
def SP1 : Str := " "
def wordT (k : Str) (n : Nat) : Str := k ++ SP1 ++ numT n
theorem sp_tl : tl SP1 = 32 :: [] := by decide +kernel
theorem part_word {k : Str} (h : 32 ∉ tl k) (n : Nat) : Txt.partition (wordT k n) SP1 = (k, SP1, numT n) := partition_app sp_tl h
theorem app_len (a b : Str) : (a ++ b).length = a.length + b.length := by
  rw [len_tl, tl_append, List.length_append, ← len_tl, ← len_tl]
def NK : List Str := ["crowd", "star", "pairs", "row", "ring", "core", "linked"]
theorem word_ne {k : Str} (h : 32 ∉ tl k) (n : Nat) {a b : Str} (x : Str) (hx : Txt.partition x SP1 = (a, SP1, b)) (hk : k ≠ a) : wordT k n ≠ x := fun q => by
  have e := part_word h n
  rw [q, hx] at e
  exact hk (Prod.mk.inj e).1.symm
theorem odd_part : Txt.partition "odd ring" SP1 = (("odd" : Str), SP1, ("ring" : Str)) := by decide +kernel
theorem even_part : Txt.partition "even ring" SP1 = (("even" : Str), SP1, ("ring" : Str)) := by decide +kernel
structure NKind (k : Str) (lo : Int) : Prop where
  sp : 32 ∉ tl k
  lk : tab_LEAST.lookup k = some lo
  n1 : k ≠ "odd"
  n2 : k ≠ "even"
  len : k.length ≤ 100
theorem nk_crowd : NKind "crowd" 2 := ⟨by decide +kernel, by decide +kernel, by decide +kernel, by decide +kernel, by decide +kernel⟩
theorem nk_star : NKind "star" 1 := ⟨by decide +kernel, by decide +kernel, by decide +kernel, by decide +kernel, by decide +kernel⟩
theorem nk_pairs : NKind "pairs" 1 := ⟨by decide +kernel, by decide +kernel, by decide +kernel, by decide +kernel, by decide +kernel⟩
theorem nk_row : NKind "row" 2 := ⟨by decide +kernel, by decide +kernel, by decide +kernel, by decide +kernel, by decide +kernel⟩
theorem nk_ring : NKind "ring" 3 := ⟨by decide +kernel, by decide +kernel, by decide +kernel, by decide +kernel, by decide +kernel⟩
theorem nk_core : NKind "core" 1 := ⟨by decide +kernel, by decide +kernel, by decide +kernel, by decide +kernel, by decide +kernel⟩
theorem nk_linked : NKind "linked" 1 := ⟨by decide +kernel, by decide +kernel, by decide +kernel, by decide +kernel, by decide +kernel⟩
theorem thing_word {k : Str} {lo : Int} (hk : NKind k lo) (n : Nat) (h : (numL n).length ≤ 41) (S : Sto) :
    d_thing_of d_natural [.str (wordT k n)] S = some (if lo ≤ (n : Int) ∧ (n : Int) ≤ 10000000000000000000000000000000000000000 then .tup [.str k, .int n] else .non, S) := by
  have hwl : (wordT k n).length ≤ 1000 := by
    unfold wordT
    rw [app_len, app_len, numT_len, show SP1.length = 1 by decide +kernel]
    have := hk.len
    omega
  have hT : (fTest (fBin gIn (fVar 0) (fTup (fCons (fC (.str "odd ring")) (fCons (fC (.str "even ring")) fNil))))) [some (.str (wordT k n)), none, none, none, none] S = some (false, S) := by
    show some ((("odd ring" : Str) == wordT k n || (("even ring" : Str) == wordT k n || false)), S) = _
    rw [beq_eq_false_iff_ne.mpr (word_ne hk.sp n _ odd_part hk.n1).symm, beq_eq_false_iff_ne.mpr (word_ne hk.sp n _ even_part hk.n2).symm]
    rfl
  have hP : (fPart (fVar 0) (fC (.str " "))) [some (.str (wordT k n)), none, none, none, none] S = some (.tup [.str k, .str SP1, .str (numT n)], S) := by
    show (if ((" " : Str).length == 0) = false ∧ (wordT k n).length ≤ 16777216 then some (D.tup [.str (Txt.partition (wordT k n) SP1).1, .str (Txt.partition (wordT k n) SP1).2.1, .str (Txt.partition (wordT k n) SP1).2.2], S) else none) = _
    rw [if_pos ⟨by decide +kernel, by omega⟩, part_word hk.sp]
  have hN := natural_num n 41 S (by omega) (by omega)
  refine run_of ?_
  refine (seq_nx rfl).trans ?_
  refine (seq_nx ((if_f hT).trans rfl)).trans ?_
  refine (seq_nx (env' := [some (.str (wordT k n)), some (.str k), some (.str SP1), some (.str (numT n)), none]) (S1 := S) (asg_of hP rfl)).trans ?_
  refine (seq_nx (set_of (i := 4) (call_of (S1 := S) (ds := [.str (numT n), .int 41]) rfl hN))).trans ?_
  have e1 : (fTest (fKIn true tab_LEAST (fVar 1))) [some (.str (wordT k n)), some (.str k), some (.str SP1), some (.str (numT n)), some (.int n)] S = some (false, S) := by
    show some ((!(tab_LEAST.lookup k).isSome), S) = _
    rw [hk.lk]
    rfl
  have e3 : (tNotD (fTest (fChain gLe gLe (fKIx tab_LEAST (fVar 1)) (fVar 4) (fC (.int 10000000000000000000000000000000000000000))))) [some (.str (wordT k n)), some (.str k), some (.str SP1), some (.str (numT n)), some (.int n)] S = some (!(decide (lo ≤ (n : Int)) && decide ((n : Int) ≤ 10000000000000000000000000000000000000000)), S) := by
    refine tnot_of (test_of ?_)
    rw [chain_of (S1 := S) (x := .int lo) (by show (tab_LEAST.lookup k).map _ = _; rw [hk.lk]; rfl) (S2 := S) (y := .int n) rfl (b := decide (lo ≤ (n : Int))) (S3 := S) rfl]
    cases decide (lo ≤ (n : Int)) <;> rfl
  have e2 : (tOrD (fTest (fKIn true tab_LEAST (fVar 1))) (tOrD (fTest (fBin gIsN (fVar 4) (fC .non))) (tNotD (fTest (fChain gLe gLe (fKIx tab_LEAST (fVar 1)) (fVar 4) (fC (.int 10000000000000000000000000000000000000000))))))) [some (.str (wordT k n)), some (.str k), some (.str SP1), some (.str (numT n)), some (.int n)] S = some (!(decide (lo ≤ (n : Int)) && decide ((n : Int) ≤ 10000000000000000000000000000000000000000)), S) := by
    rw [or_of e1]
    show tOrD _ _ _ S = _
    rw [or_of (b := false) (S1 := S) rfl]
    exact e3
  by_cases hv : lo ≤ (n : Int) ∧ (n : Int) ≤ 10000000000000000000000000000000000000000
  · rw [decide_eq_true hv.1, decide_eq_true hv.2] at e2
    rw [if_pos hv]
    refine (seq_nx ((if_f e2).trans rfl)).trans ?_
    rfl
  · have hb : (decide (lo ≤ (n : Int)) && decide ((n : Int) ≤ 10000000000000000000000000000000000000000)) = false := by
      rw [← Bool.decide_and]
      exact decide_eq_false hv
    rw [hb] at e2
    rw [if_neg hv]
    exact seq_rt ((if_t e2).trans rfl)
theorem thing_odd (S : Sto) : d_thing_of d_natural [.str "odd ring"] S = some (.tup [.str "odd ring", .non], S) := rfl
theorem thing_even (S : Sto) : d_thing_of d_natural [.str "even ring"] S = some (.tup [.str "even ring", .non], S) := rfl
end LW

set_option exponentiation.threshold 2000
namespace LW
open PySem PySem.Spec PyProof.Rows L2 TL DL
def MM : Int := 9223372036854775783
/-- the cell at i is a stock: what is left of a great number, a mixed number, at most n mixings -/
def Stk (S : Sto) (i n : Nat) : Prop := ∃ a b c : Int, S[i]? = some (.lst [.int a, .int b, .int c]) ∧ 0 ≤ b ∧ b < MM ∧ 0 ≤ c ∧ c ≤ n
theorem p333 : (2 : Nat) ^ 333 = 17498005798264095394980017816940970922825355447145699491406164851279623993595007385788105416184430592 := by decide
theorem log_of {i : Int} (h : -10000000000000000000000000000000000000000000000000000000000000000000000000000000000000000000000000000 ≤ i) (h2 : i ≤ 10000000000000000000000000000000000000000000000000000000000000000000000000000000000000000000000000000) : i.natAbs.log2 < 333 := by
  refine PySem.Flt.log2_lt_of (by decide) ?_
  rw [p333]
  omega
theorem small_le {i : Int} (h : -10000000000000000000000000000000000000000000000000000000000000000000000000000000000000000000000000000 ≤ i) (h2 : i ≤ 10000000000000000000000000000000000000000000000000000000000000000000000000000000000000000000000000000) : smallI i = true := by
  unfold smallI
  exact decide_eq_true (Nat.lt_of_lt_of_le (log_of h h2) (by decide))
theorem mul_ok {i j : Int} (hi : smallI i = true) (hj : smallI j = true) (S : Sto) : gMul (.int i) (.int j) S = some (.int (i * j), S) := by
  show (if (smallI i && smallI j) = true then _ else _) = _
  rw [hi, hj]
  rfl
theorem fdiv_ok {i j : Int} (h : 0 < j) (hj : j < 10000000000000000000000000000000000000000000000000000000000000000000000000000000000000000000000000000) (S : Sto) : gFdiv (.int i) (.int j) S = some (.int (i / j), S) := by
  show (if (decide (0 < j) && decide (j.natAbs.log2 < 9000)) = true then _ else _) = _
  rw [decide_eq_true h, decide_eq_true (Nat.lt_of_lt_of_le (log_of (i := j) (by omega) (by omega)) (by decide))]
  rfl
theorem mod_ok {i j : Int} (h : 0 < j) (S : Sto) : gMod (.int i) (.int j) S = some (.int (i % j), S) := by
  show (if decide (0 < j) = true then _ else _) = _
  rw [decide_eq_true h]
  rfl
theorem gset_l {S : Sto} {i : Nat} {ds : List D} (h : S[i]? = some (.lst ds)) (j : Nat) (hj : j < ds.length) (v : D) : gSetA (.ref i) (.int (j : Int)) v S = some (S.set i (.lst (ds.set j v))) := by
  unfold gSetA
  simp only [h]
  have : ixN ds.length (j : Int) = some j := by
    unfold ixN
    rw [if_pos (by omega), if_pos (by omega)]
    rfl
  rw [this]
  rfl
theorem gix_l {S : Sto} {i : Nat} {ds : List D} (h : S[i]? = some (.lst ds)) (j : Nat) {v : D} (hj : ds[j]? = some v) : gIx (.ref i) (.int (j : Int)) S = some (v, S) := by
  unfold gIx
  simp only [h]
  rw [atI_nat hj]
  rfl
/-- the other cells are as they were -/
def Apart (S S' : Sto) (i : Nat) : Prop := S'.length = S.length ∧ ∀ j, j ≠ i → S'[j]? = S[j]?
theorem Apart.refl (S : Sto) (i : Nat) : Apart S S i := ⟨rfl, fun _ _ => rfl⟩
theorem Apart.trans {S S1 S2 : Sto} {i : Nat} (a : Apart S S1 i) (b : Apart S1 S2 i) : Apart S S2 i := ⟨b.1.trans a.1, fun j h => (b.2 j h).trans (a.2 j h)⟩
theorem Apart.set (S : Sto) (i : Nat) (c : Cell) : Apart S (S.set i c) i := ⟨by simp, fun j h => by rw [List.getElem?_set_ne (fun e => h e.symm)]⟩
theorem set_at {S : Sto} {i : Nat} {c c' : Cell} (h : S[i]? = some c) : (S.set i c')[i]? = some c' := List.getElem?_set_self (List.getElem?_eq_some_iff.mp h).1
theorem take_ok {S : Sto} {i n : Nat} (h : Stk S i n) (hn : n ≤ 1000000) (m : Int) (hm : 0 < m) (hm2 : m < 10000000000000000000000000000000000000000000000000000000000000000000000000000000000000000000000000000) :
    ∃ r S', d__law_take [.ref i, .int m] S = some (.int r, S') ∧ 0 ≤ r ∧ r < m ∧ Stk S' i (n + 1) ∧ Apart S S' i := by
  obtain ⟨a, b, c, hc, hb, hb2, hc0, hcn⟩ := h
  have ix0 : ∀ env : DEnv, env[0]? = some (some (.ref i)) → (fBin gIx (fVar 0) (fC (.int 0))) env S = some (.int a, S) := fun env he => bin_of (S1 := S) (x := .ref i) (by unfold fVar; rw [he]) rfl (gix_l hc 0 rfl)
  by_cases ha : 0 < a
  · refine ⟨a % m, S.set i (.lst [.int (a / m), .int b, .int c]), ?_, Int.emod_nonneg _ (by omega), Int.emod_lt_of_pos _ hm, ⟨a / m, b, c, set_at hc, hb, hb2, hc0, by omega⟩, Apart.set _ _ _⟩
    refine run_of ?_
    have t1 : (fTest (fBin gGt (fBin gIx (fVar 0) (fC (.int 0))) (fC (.int 0)))) [some (.ref i), some (.int m), none, none] S = some (true, S) := by
      refine test_of ((bin_of (ix0 _ rfl) rfl rfl).trans ?_)
      show some (D.bl (decide (0 < a)), S) = _
      rw [decide_eq_true ha]
    refine seq_rt ((if_t t1).trans ?_)
    refine (seq_nx (set_of (i := 2) (bin_of (S1 := S) (x := .int a) (call_of (cons_of (ix0 _ rfl) rfl) rfl) rfl (mod_ok hm S)))).trans ?_
    refine (seq_nx (env' := [some (.ref i), some (.int m), some (.int (a % m)), none]) (S1 := S.set i (.lst [.int (a / m), .int b, .int c])) (asg_of (bin_of (ix0 _ rfl) rfl (fdiv_ok hm hm2 S)) ?_)).trans ?_
    · show ((gSetA (.ref i) (.int ((0 : Nat) : Int)) (.int (a / m)) S).map _) = _
      rw [gset_l hc 0 (by simp)]
      rfl
    · rfl
  · have t1 : (fTest (fBin gGt (fBin gIx (fVar 0) (fC (.int 0))) (fC (.int 0)))) [some (.ref i), some (.int m), none, none] S = some (false, S) := by
      refine test_of ((bin_of (ix0 _ rfl) rfl rfl).trans ?_)
      show some (D.bl (decide (0 < a)), S) = _
      rw [decide_eq_false ha]
    have h1 : S[i]? = some (.lst [.int a, .int b, .int c]) := hc
    let S1 := S.set i (.lst [.int a, .int b, .int (c + 1)])
    have hc1 : S1[i]? = some (.lst [.int a, .int b, .int (c + 1)]) := set_at hc
    let b' := (b * 1181783497276652981 + ((c + 1) * 32452843 + 49979687)) % MM
    let S2 := S1.set i (.lst [.int a, .int b', .int (c + 1)])
    have hc2 : S2[i]? = some (.lst [.int a, .int b', .int (c + 1)]) := set_at hc1
    have hb' : 0 ≤ b' ∧ b' < MM := ⟨Int.emod_nonneg _ (by decide), Int.emod_lt_of_pos _ (by decide)⟩
    refine ⟨b' / 131072 % m, S2, ?_, Int.emod_nonneg _ (by omega), Int.emod_lt_of_pos _ hm, ⟨a, b', c + 1, hc2, hb'.1, hb'.2, by omega, by omega⟩, (Apart.set _ _ _).trans (Apart.set _ _ _)⟩
    refine run_of ?_
    refine (seq_nx ((if_f t1).trans rfl)).trans ?_
    refine (seq_nx (env' := [some (.ref i), some (.int m), none, none]) (S1 := S1) (asg_of (bin_of (S1 := S) (S2 := S) (x := .int c) (y := .int 1) (bin_of (S1 := S) (x := .ref i) rfl rfl (gix_l hc 2 rfl)) rfl rfl) ?_)).trans ?_
    · show ((gSetA (.ref i) (.int ((2 : Nat) : Int)) (.int (c + 1)) S).map _) = _
      rw [gset_l hc 2 (by simp)]
      rfl
    refine (seq_nx (set_of (i := 3) (bin_of (S1 := S1) (S2 := S1) (x := .int ((c + 1) * 32452843)) (y := .int 49979687) (bin_of (S1 := S1) (S2 := S1) (x := .int (c + 1)) (y := .int 32452843) (bin_of (S1 := S1) (x := .ref i) rfl rfl (gix_l hc1 2 rfl)) rfl (mul_ok (small_le (by omega) (by omega)) (small_le (by omega) (by omega)) S1)) rfl rfl))).trans ?_
    refine (seq_nx (env' := [some (.ref i), some (.int m), none, some (.int ((c + 1) * 32452843 + 49979687))]) (S1 := S2) (asg_of (bin_of (S1 := S1) (S2 := S1) (x := .int (b * 1181783497276652981 + ((c + 1) * 32452843 + 49979687))) (y := .int MM) (call_of (cons_of (bin_of (S1 := S1) (S2 := S1) (x := .int (b * 1181783497276652981)) (y := .int ((c + 1) * 32452843 + 49979687)) (bin_of (S1 := S1) (S2 := S1) (x := .int b) (y := .int 1181783497276652981) (bin_of (S1 := S1) (x := .ref i) rfl rfl (gix_l hc1 1 rfl)) rfl (mul_ok (small_le (by unfold MM at hb2; omega) (by unfold MM at hb2; omega)) (small_le (by omega) (by omega)) S1)) rfl rfl) rfl) rfl) rfl (mod_ok (by decide) S1)) ?_)).trans ?_
    · show ((gSetA (.ref i) (.int ((1 : Nat) : Int)) (.int b') S1).map _) = _
      rw [gset_l hc1 1 (by simp)]
      rfl
    refine ret_of ?_
    exact bin_of (S1 := S2) (S2 := S2) (x := .int (b' / 131072)) (y := .int m) (call_of (cons_of (bin_of (S1 := S2) (S2 := S2) (x := .int b') (y := .int 131072) (bin_of (S1 := S2) (x := .ref i) rfl rfl (gix_l hc2 1 rfl)) rfl (fdiv_ok (by decide) (by decide) S2)) rfl) rfl) rfl (mod_ok hm S2)
theorem ints_mem {l : List Int} {d : D} (h : d ∈ l.map D.int) : ∃ z, d = .int z := by
  obtain ⟨z, _, e⟩ := List.mem_map.mp h
  exact ⟨z, e.symm⟩
theorem stock_ok (ns : List Int) (hns : ns.length ≤ 63) (k : Nat) (hk : k ≤ 1000) (S : Sto) : ∃ a b : Int, d__law_stock [.scr ns, .int k] S = some (.ref S.length, S ++ [.lst [.int a, .int b, .int 0]]) ∧ 0 ≤ b ∧ b < MM := by
  -- the cell
  have hcell : ∃ z : Int, (fIf (fTest (fBin gLt (fVar 1) (fCall cLen (fCons (fVar 0) fNil)))) (fCall cInt (fCons (fBin gIx (fVar 0) (fVar 1)) fNil)) (fBin gMul (fC (.int 611953)) (fBin gAdd (fVar 1) (fC (.int 1))))) [some (.scr ns), some (.int k), none, none, none, none] S = some (.int z, S) := by
    by_cases h : k < ns.length
    · refine ⟨ns[k], if_of (b := true) (S1 := S) ?_ ?_⟩
      · show some (decide ((k : Int) < (ns.length : Int)), S) = _
        rw [decide_eq_true (by omega)]
      · rw [if_pos rfl]
        refine call_of (S1 := S) (ds := [.int ns[k]]) (cons_of (S1 := S) (bin_of (S1 := S) (S2 := S) (x := .scr ns) (y := .int k) rfl rfl ?_) rfl) rfl
        show ((L2.atI ns (k : Int)).map fun n => (D.int n, S)) = _
        rw [atI_nat (List.getElem?_eq_getElem h)]
        rfl
    · refine ⟨611953 * ((k : Int) + 1), if_of (b := false) (S1 := S) ?_ ?_⟩
      · show some (decide ((k : Int) < (ns.length : Int)), S) = _
        rw [decide_eq_false (by omega)]
      · rw [if_neg (by decide)]
        exact bin_of (S1 := S) (S2 := S) (x := .int 611953) (y := .int ((k : Int) + 1)) rfl rfl (mul_ok (small_le (by omega) (by omega)) (small_le (by omega) (by omega)) S)
  obtain ⟨z, hcell⟩ := hcell
  have hloop := for_mem (g := gN 4) (items := ((cutD ns none (some 8)).map D.int ++ [D.int z])) (env := [some (.scr ns), some (.int k), some (.int z), some (.int (2750159 + 15485863 * (k : Int))), none, none]) (S := S)
    (body := (sSeq (sAsg (fBin gAdd (fBin gMul (fBin gMod (fCall cInt (fCons (fCall cAbs (fCons (fVar 4) fNil)) fNil)) (fC (.int 999999999989))) (fC (.int 2))) (fCall cInt (fCons (fBin gLt (fVar 4) (fC (.int 0))) fNil))) (gN 5))
    (sAsg (fBin gMod (fCall cInt (fCons (fBin gAdd (fBin gAdd (fBin gMul (fVar 3) (fC (.int 7664345821815920749))) (fVar 5)) (fC (.int 1))) fNil)) (fC (.int 9223372036854775783))) (gN 3))))
    (fun env S1 => S1 = S ∧ ∃ (b : Int) (e f : Option D), env = [some (.scr ns), some (.int k), some (.int z), some (.int b), e, f] ∧ 0 ≤ b ∧ b < MM)
    ⟨rfl, _, _, _, rfl, by omega, by unfold MM; omega⟩ (fun d hd env S1 hI => by
      obtain ⟨rfl, b, e, f, rfl, hb, hb2⟩ := hI
      obtain ⟨v, rfl⟩ : ∃ v, d = D.int v := by
        rcases List.mem_append.mp hd with h | h
        · exact ints_mem h
        · exact ⟨z, List.mem_singleton.mp h⟩
      let p := (if v < 0 then -v else v) % 999999999989 * 2 + (if decide (v < 0) = true then 1 else 0)
      have hp : 0 ≤ p ∧ p ≤ 2000000000000 := by
        have h1 := Int.emod_nonneg (if v < 0 then -v else v) (show (999999999989 : Int) ≠ 0 by decide)
        have h2 := Int.emod_lt_of_pos (if v < 0 then -v else v) (show (0 : Int) < 999999999989 by decide)
        have h3 : (0 : Int) ≤ (if decide (v < 0) = true then 1 else 0) ∧ (if decide (v < 0) = true then (1 : Int) else 0) ≤ 1 := by split <;> decide
        show 0 ≤ (if v < 0 then -v else v) % 999999999989 * 2 + (if decide (v < 0) = true then 1 else 0) ∧ (if v < 0 then -v else v) % 999999999989 * 2 + (if decide (v < 0) = true then 1 else 0) ≤ 2000000000000
        omega
      refine ⟨[some (.scr ns), some (.int k), some (.int z), some (.int b), some (.int v), f], S1, [some (.scr ns), some (.int k), some (.int z), some (.int ((b * 7664345821815920749 + p + 1) % MM)), some (.int v), some (.int p)], S1, rfl, ?_, rfl, _, _, _, rfl, Int.emod_nonneg _ (by decide), Int.emod_lt_of_pos _ (by decide)⟩
      refine (seq_nx (set_of (i := 5) (d := .int p) (S1 := S1) ?_)).trans ?_
      · refine bin_of (S1 := S1) (S2 := S1) (x := .int ((if v < 0 then -v else v) % 999999999989 * 2)) (y := .int (if decide (v < 0) = true then 1 else 0)) ?_ rfl rfl
        refine bin_of (S1 := S1) (S2 := S1) (x := .int ((if v < 0 then -v else v) % 999999999989)) (y := .int 2) (bin_of (S1 := S1) (S2 := S1) (x := .int (if v < 0 then -v else v)) (y := .int 999999999989) rfl rfl (mod_ok (by decide) S1)) rfl (mul_ok (small_le ?_ ?_) (small_le (by omega) (by omega)) S1)
        · have h1 := Int.emod_nonneg (if v < 0 then -v else v) (show (999999999989 : Int) ≠ 0 by decide)
          omega
        · have h2 := Int.emod_lt_of_pos (if v < 0 then -v else v) (show (0 : Int) < 999999999989 by decide)
          omega
      · refine set_of (i := 3) (d := .int ((b * 7664345821815920749 + p + 1) % MM)) (S1 := S1) ?_
        refine bin_of (S1 := S1) (S2 := S1) (x := .int (b * 7664345821815920749 + p + 1)) (y := .int MM) ?_ rfl (mod_ok (by decide) S1)
        refine call_of (S1 := S1) (ds := [.int (b * 7664345821815920749 + p + 1)]) (cons_of (S1 := S1) ?_ rfl) rfl
        refine bin_of (S1 := S1) (S2 := S1) (x := .int (b * 7664345821815920749 + p)) (y := .int 1) ?_ rfl rfl
        refine bin_of (S1 := S1) (S2 := S1) (x := .int (b * 7664345821815920749)) (y := .int p) ?_ rfl rfl
        exact bin_of (S1 := S1) (S2 := S1) (x := .int b) (y := .int 7664345821815920749) rfl rfl (mul_ok (small_le (by unfold MM at hb2; omega) (by unfold MM at hb2; omega)) (small_le (by omega) (by omega)) S1))
  obtain ⟨env9, S9, hf, rfl, b, e, f, rfl, hb, hb2⟩ := hloop
  refine ⟨if decide (1000000000000000000 ≤ (if z < 0 then -z else z)) = true then (if z < 0 then -z else z) else 0, b, ?_, hb, hb2⟩
  refine run_of ?_
  refine (seq_nx (set_of (i := 2) hcell)).trans ?_
  refine (seq_nx (set_of (i := 3) (d := .int (2750159 + 15485863 * (k : Int))) (S1 := S9) (bin_of (S1 := S9) (S2 := S9) (x := .int 2750159) (y := .int (15485863 * (k : Int))) rfl (bin_of (S1 := S9) (S2 := S9) (x := .int 15485863) (y := .int k) rfl rfl (mul_ok (small_le (by omega) (by omega)) (small_le (by omega) (by omega)) S9)) rfl))).trans ?_
  refine (seq_nx (for_of (S1 := S9) (items := ((cutD ns none (some 8)).map D.int ++ [D.int z])) ?_ hf)).trans ?_
  · show ((fBin gAdd (fSl (fVar 0) oNone (oSome (fC (.int 8)))) (fLst (fCons (fVar 2) fNil))) [some (.scr ns), some (.int k), some (.int z), some (.int (2750159 + 15485863 * (k : Int))), none, none] S9).bind _ = _
    have : (fBin gAdd (fSl (fVar 0) oNone (oSome (fC (.int 8)))) (fLst (fCons (fVar 2) fNil))) [some (.scr ns), some (.int k), some (.int z), some (.int (2750159 + 15485863 * (k : Int))), none, none] S9 = some (.lst ((cutD ns none (some 8)).map D.int ++ [D.int z]), S9) := by
      refine bin_of (S1 := S9) (S2 := S9) (x := .lst ((cutD ns none (some 8)).map D.int)) (y := .lst [D.int z]) rfl rfl ?_
      show (if ((cutD ns none (some 8)).map D.int).length + 1 ≤ 16777216 then _ else none) = _
      rw [if_pos]
      unfold DL.cutD
      simp
      omega
    rw [this]
    rfl
  · refine ret_of ?_
    show (fLstM _ _ S9) = _
    unfold fLstM
    have : (fCons (fIf (fTest (fBin gGe (fCall cAbs (fCons (fVar 2) fNil)) (fBin gPow (fC (.int 10)) (fC (.int 18))))) (fCall cAbs (fCons (fVar 2) fNil)) (fC (.int 0))) (fCons (fVar 3) (fCons (fC (.int 0)) fNil))) [some (.scr ns), some (.int k), some (.int z), some (.int b), e, f] S9 = some ([.int (if decide (1000000000000000000 ≤ (if z < 0 then -z else z)) = true then (if z < 0 then -z else z) else 0), .int b, .int 0], S9) := by
      refine cons_of (S1 := S9) ?_ rfl
      refine if_of (b := decide (1000000000000000000 ≤ (if z < 0 then -z else z))) (S1 := S9) rfl ?_
      cases decide (1000000000000000000 ≤ (if z < 0 then -z else z)) <;> rfl
    rw [this]
    rfl
theorem stk_new (S : Sto) {a b : Int} (hb : 0 ≤ b) (hb2 : b < MM) : Stk (S ++ [.lst [.int a, .int b, .int 0]]) S.length 0 := ⟨a, b, 0, get_last _ _, hb, hb2, by decide, by decide⟩
end LW

namespace LW
open PySem PySem.Spec PyProof.Rows L2 TL DL
theorem tup_of {env : DEnv} {S S1 : Sto} {fas : FA} {ds : List D} (h : fas env S = some (ds, S1)) (hl : ds.length ≤ 1000) : fTup fas env S = some (.tup ds, S1) := by
  unfold fTup
  rw [h]
  show (if ds.length ≤ 1000 then _ else _) = _
  rw [if_pos hl]
inductive Ot : Str → Int → Prop
  | crowd : Ot "crowd" 2
  | star : Ot "star" 1
  | pairs : Ot "pairs" 1
  | row : Ot "row" 2
  | ring : Ot "ring" 3
  | core : Ot "core" 1
  | linked : Ot "linked" 1
def Grow (S S' : Sto) : Prop := ∃ more, S' = S ++ more
theorem Grow.refl (S : Sto) : Grow S S := ⟨[], by simp⟩
theorem Grow.trans {S S1 S2 : Sto} (a : Grow S S1) (b : Grow S1 S2) : Grow S S2 := by
  obtain ⟨m, rfl⟩ := a
  obtain ⟨m2, rfl⟩ := b
  exact ⟨m ++ m2, by simp⟩
theorem Grow.stk {S S' : Sto} {i n : Nat} (g : Grow S S') (h : Stk S i n) : Stk S' i n := by
  obtain ⟨m, rfl⟩ := g
  obtain ⟨a, b, c, h1, h2⟩ := h
  exact ⟨a, b, c, by rw [List.getElem?_append_left (List.getElem?_eq_some_iff.mp h1).1]; exact h1, h2⟩
theorem Stk.mono {S : Sto} {i n m : Nat} (h : Stk S i n) (hm : n ≤ m) : Stk S i m := by
  obtain ⟨a, b, c, h1, h2, h3, h4, h5⟩ := h
  exact ⟨a, b, c, h1, h2, h3, h4, by omega⟩
theorem r_take {S : Sto} {i n : Nat} {m : Int} {P : D → Sto → Prop} (h : Stk S i n) (hn : n ≤ 1000000) (hm : 0 < m) (hm2 : m < 10000000000000000000000000000000000000000000000000000000000000000000000000000000000000000000000000000)
    (k : ∀ r S', 0 ≤ r → r < m → Stk S' i (n + 1) → Apart S S' i → P (.int r) S') : R (d__law_take [.ref i, .int m] S) P := by
  obtain ⟨r, S', e, h0, h1, h2, h3⟩ := take_ok h hn m hm hm2
  exact ⟨_, _, e, k r S' h0 h1 h2 h3⟩
inductive Ki : Str → Prop
  | num {o : Str} {lo : Int} (h : Ot o lo) : Ki o
  | odd : Ki "odd ring"
  | even : Ki "even ring"
theorem some_kind {S : Sto} {i n : Nat} (h : Stk S i n) (hn : n ≤ 1000) : R (w__law_some_kind [.ref i] S) fun d S' => ∃ k, d = .str k ∧ Ki k ∧ Stk S' i (n + 1) := by
  refine r_run (r_nx (S1 := S) rfl (r_ret (r_bin (R.of (S1 := S) rfl (r_call (S1 := S) (ds := [.ref i, .int 9]) rfl (r_take h (by omega) (by decide) (by decide) fun r S1 h0 h1 h2 _ => ?_))))))
  rcases (by omega : r = 0 ∨ r = 1 ∨ r = 2 ∨ r = 3 ∨ r = 4 ∨ r = 5 ∨ r = 6 ∨ r = 7 ∨ r = 8) with rfl | rfl | rfl | rfl | rfl | rfl | rfl | rfl | rfl
  · exact R.of rfl ⟨_, rfl, .num .crowd, h2⟩
  · exact R.of rfl ⟨_, rfl, .num .star, h2⟩
  · exact R.of rfl ⟨_, rfl, .num .pairs, h2⟩
  · exact R.of rfl ⟨_, rfl, .num .row, h2⟩
  · exact R.of rfl ⟨_, rfl, .num .ring, h2⟩
  · exact R.of rfl ⟨_, rfl, .num .core, h2⟩
  · exact R.of rfl ⟨_, rfl, .num .linked, h2⟩
  · exact R.of rfl ⟨_, rfl, .odd, h2⟩
  · exact R.of rfl ⟨_, rfl, .even, h2⟩
theorem word_num {k : Str} (hk : k.length ≤ 100) (n : Nat) (h : (numL n).length ≤ 41) (h2 : ((n : Nat) : Int) ≤ 1000000000000000000000000000000000000000000) (S : Sto) : d__law_word [.str k, .int (n : Int)] S = some (.str (wordT k n), S) := by
  refine run_of (ret_of (if_of (b := false) (S1 := S) rfl ?_))
  rw [if_neg (by decide)]
  refine bin_of (S1 := S) (S2 := S) (x := .str (k ++ SP1)) (y := .str (numT n)) (bin_of (S1 := S) (S2 := S) (x := .str k) (y := .str SP1) rfl rfl ?_) (call_of (S1 := S) (ds := [.int (n : Int)]) rfl ?_) ?_
  · show (if k.length + SP1.length ≤ 16777216 then some (D.str (k ++ SP1), S) else none) = _
    rw [if_pos (by rw [show SP1.length = 1 by decide +kernel]; omega)]
  · show (if (n : Int).natAbs.log2 < 1920 then some (D.str (toString (n : Int)), S) else none) = _
    rw [if_pos (Nat.lt_of_lt_of_le (log_of (i := (n : Int)) (by omega) (by omega)) (by decide))]
    rfl
  · show (if (k ++ SP1).length + (numT n).length ≤ 16777216 then some (D.str (k ++ SP1 ++ numT n), S) else none) = _
    rw [if_pos (by rw [app_len, numT_len, show SP1.length = 1 by decide +kernel]; omega)]
    rfl
theorem word_non (k : Str) (S : Sto) : d__law_word [.str k, .non] S = some (.str k, S) := rfl
theorem numL41 {n : Nat} (h : ((n : Nat) : Int) < 100000000000000000000000000000000000000000) : (numL n).length ≤ 41 := numL_len (by decide) (by
  have e : (10 : Nat) ^ 41 = 100000000000000000000000000000000000000000 := by decide
  rw [e]
  omega)
theorem Ot.kind {o : Str} {lo : Int} (h : Ot o lo) : NKind o lo ∧ 0 ≤ lo ∧ ∀ S, d__law_least [.str o] S = some (.int lo, S) := by
  cases h with
  | crowd => exact ⟨nk_crowd, by decide, fun _ => rfl⟩
  | star => exact ⟨nk_star, by decide, fun _ => rfl⟩
  | pairs => exact ⟨nk_pairs, by decide, fun _ => rfl⟩
  | row => exact ⟨nk_row, by decide, fun _ => rfl⟩
  | ring => exact ⟨nk_ring, by decide, fun _ => rfl⟩
  | core => exact ⟨nk_core, by decide, fun _ => rfl⟩
  | linked => exact ⟨nk_linked, by decide, fun _ => rfl⟩
end LW

namespace LW
open PySem PySem.Spec PyProof.Rows L2 TL DL
theorem range_mem {m : Int} (hm : m ≤ 1000) {d : D} (hd : d ∈ DL.rangeD 0 m) : ∃ k : Nat, d = .int k ∧ k ≤ 1000 := by
  unfold DL.rangeD at hd
  obtain ⟨j, hj, rfl⟩ := List.mem_map.mp hd
  have := List.mem_range.mp hj
  exact ⟨j, by simp, by omega⟩
theorem turn_arg (ns : List Int) (k : Nat) {S S1 : Sto} {d : D} (hs : d__law_stock [.scr ns, .int k] S = some (d, S1)) : (fCons (fCall w__law_stock (fCons (fVar 0) (fCons (fVar 1) fNil))) fNil) [some (.scr ns), some (.int k)] S = some ([d], S1) := by
  have h : (fCall w__law_stock (fCons (fVar 0) (fCons (fVar 1) fNil))) [some (.scr ns), some (.int k)] S = some (d, S1) := call_of (S1 := S) (ds := [.scr ns, .int k]) (by rfl) hs
  exact cons_of h rfl
theorem turn_ok (ns : List Int) (h : ns.length ≤ 63) (hr : ∀ S i, Stk S i 0 → R (w__law_right [.ref i] S) fun d _ => d = .bl true) (k : Nat) (hk : k ≤ 1000) (S : Sto) : R ((fTest (fCall w__law_right (fCons (fCall w__law_stock (fCons (fVar 0) (fCons (fVar 1) fNil))) fNil))) [some (.scr ns), some (.int k)] S) fun b _ => b = true := by
  obtain ⟨a, b, hs, hb, hb2⟩ := stock_ok ns h k hk S
  have hr := hr _ _ (stk_new S (a := a) hb hb2)
  refine r_test (r_call (turn_arg ns k hs) (hr.imp fun d S6 hd => ?_))
  exact ⟨true, hd, rfl⟩
theorem loop_ok (ns : List Int) (h : ns.length ≤ 63) (hr : ∀ S i, Stk S i 0 → R (w__law_right [.ref i] S) fun d _ => d = .bl true) (m : Int) (hm : m ≤ 1000) {f : FA} {S : Sto} {P : Fl → Sto → Prop} (hf : f [some (.scr ns), none] S = some (DL.rangeD 0 m, S)) (hP : ∀ e S', P (.nx [some (.scr ns), e]) S') :
    R (sFor f (gN 1) (sIf (tNotD (fTest (fCall w__law_right (fCons (fCall w__law_stock (fCons (fVar 0) (fCons (fVar 1) fNil))) fNil)))) (sRet (fC (.bl false))) sSkip) [some (.scr ns), none] S) P := by
  refine r_forM hf (fun env S6 => (∃ e : Option D, env = [some (.scr ns), e])) ⟨_, rfl⟩ ?_ ?_
  · rintro d hd env S ⟨e, rfl⟩
    obtain ⟨k, rfl, hk⟩ := range_mem hm hd
    refine R.of (a := [some (.scr ns), some (.int k)]) (S1 := S) rfl ?_
    refine r_if (r_not ((turn_ok ns h hr k hk S).imp fun b S6 hb => ?_))
    subst hb
    rw [if_neg (by decide)]
    exact r_skip ⟨_, rfl⟩
  · rintro env S ⟨e, rfl⟩
    exact hP e S
theorem lens (n : Nat) (hn : n ≤ 63) : ∃ m : Int, (if (if (4 : Int) < (n : Int) then 4 else (n : Int)) > 2 then (if (4 : Int) < (n : Int) then 4 else (n : Int)) else 2) = m ∧ 0 ≤ m ∧ m ≤ 4 := ⟨_, rfl, by omega, by omega⟩
theorem items_ok (ns : List Int) (h : ns.length ≤ 63) (S : Sto) : ∃ m : Int, m ≤ 4 ∧ (iRange1 (fCons (fCall cMax2 (fCons (fC (.int 2)) (fCons (fCall cMin2 (fCons (fCall cLen (fCons (fVar 0) fNil)) (fCons (fC (.int 4)) fNil))) fNil))) fNil)) [some (.scr ns), none] S = some (DL.rangeD 0 m, S) := by
  obtain ⟨m, e, h0, h4⟩ := lens ns.length h
  refine ⟨m, h4, ?_⟩
  have h1 : (fCall cLen (fCons (fVar 0) fNil)) [some (.scr ns), none] S = some (.int ns.length, S) := by rfl
  have h2 : (fCall cMin2 (fCons (fCall cLen (fCons (fVar 0) fNil)) (fCons (fC (.int 4)) fNil))) [some (.scr ns), none] S = some (.int (if (4 : Int) < (ns.length : Int) then 4 else (ns.length : Int)), S) := call_of (S1 := S) (ds := [.int ns.length, .int 4]) (cons_of h1 rfl) rfl
  have h3 : (fCall cMax2 (fCons (fC (.int 2)) (fCons (fCall cMin2 (fCons (fCall cLen (fCons (fVar 0) fNil)) (fCons (fC (.int 4)) fNil))) fNil))) [some (.scr ns), none] S = some (.int m, S) := by
    refine call_of (S1 := S) (ds := [.int 2, .int (if (4 : Int) < (ns.length : Int) then 4 else (ns.length : Int))]) (cons_of (S1 := S) rfl (cons_of h2 rfl)) ?_
    rw [← e]
    rfl
  unfold iRange1
  rw [cons_of h3 (ys := []) (S2 := S) rfl]
  show (if okR m = true then some (DL.rangeD 0 m, S) else none) = _
  rw [if_pos]
  rcases (by omega : m = 0 ∨ m = 1 ∨ m = 2 ∨ m = 3 ∨ m = 4) with rfl | rfl | rfl | rfl | rfl <;> decide
theorem plain_of (hr : ∀ S i, Stk S i 0 → R (w__law_right [.ref i] S) fun d _ => d = .bl true) (ns : List Int) (h : ns.length ≤ 63) : ∃ S', lawD [.scr ns] [] = some (.bl true, S') := by
  obtain ⟨m, hm, hi⟩ := items_ok ns h []
  have main : R (lawD [.scr ns] []) fun d S' => d = .bl true := by
    refine r_run (r_seq (loop_ok ns h hr m (by omega) hi fun e S' => ?_))
    exact R.of (a := Fl.rt (.bl true)) (S1 := S') rfl rfl
  obtain ⟨d, S', e, rfl⟩ := main
  exact ⟨S', e⟩
end LW

namespace LW
open PySem PySem.Spec PyProof.Rows L2 TL DL
/-! ## the law's formulas and the program's -/
def Pr (x : Int) : Int := x * (x - 1) / 2
theorem Pr2 (x : Int) : 2 * Pr x = x * (x - 1) := by
  have h : x * (x - 1) % 2 = 0 := by
    rcases (by omega : x % 2 = 0 ∨ x % 2 = 1) with h | h
    · rw [Int.mul_emod, h]; simp
    · rw [Int.mul_emod, show (x - 1) % 2 = 0 by omega]; simp
  unfold Pr
  omega
theorem Pr_nonneg {x : Int} (h : 0 ≤ x) : 0 ≤ Pr x := by
  have := Pr2 x
  have : 0 ≤ x * (x - 1) := by
    by_cases h0 : x = 0
    · subst h0; decide
    · exact Int.mul_nonneg h (by omega)
  omega
theorem dm (m f : Int) : m = f * (m / f) + m % f := (Int.mul_ediv_add_emod m f).symm
theorem a_crowd {m n : Int} (hn : 2 ≤ n) (hm : 0 ≤ m) :
    Pr m - m % (n - 1) * Pr (m / (n - 1) + 1) - (n - 1 - m % (n - 1)) * Pr (m / (n - 1)) = (m * m - (m % (n - 1) * (m / (n - 1) + 1) * (m / (n - 1) + 1) + (n - 1 - m % (n - 1)) * (m / (n - 1)) * (m / (n - 1)))) / 2
      ∧ 0 ≤ Pr m - m % (n - 1) * Pr (m / (n - 1) + 1) - (n - 1 - m % (n - 1)) * Pr (m / (n - 1)) ∧ Pr m - m % (n - 1) * Pr (m / (n - 1) + 1) - (n - 1 - m % (n - 1)) * Pr (m / (n - 1)) ≤ Pr m := by
  have h1 := dm m (n - 1)
  have r0 := Int.emod_nonneg m (show n - 1 ≠ 0 by omega)
  have r1 := Int.emod_lt_of_pos m (show 0 < n - 1 by omega)
  have p0 : 0 ≤ m / (n - 1) := Int.ediv_nonneg hm (by omega)
  generalize m / (n - 1) = part at *
  generalize m % (n - 1) = rest at *
  have e := Pr2 m
  have e1 := Pr2 (part + 1)
  have e2 := Pr2 part
  have q1 := Pr_nonneg (x := part + 1) (by omega)
  have q2 := Pr_nonneg p0
  have key : 2 * (Pr m - rest * Pr (part + 1) - (n - 1 - rest) * Pr part) = m * m - (rest * (part + 1) * (part + 1) + (n - 1 - rest) * part * part) := by
    generalize Pr m = E at *
    generalize Pr (part + 1) = A at *
    generalize Pr part = B at *
    grind
  have s1 : 0 ≤ rest * Pr (part + 1) := Int.mul_nonneg r0 q1
  have s2 : 0 ≤ (n - 1 - rest) * Pr part := Int.mul_nonneg (by omega) q2
  refine ⟨by omega, ?_, by omega⟩
  have low : rest * (part + 1) * (part + 1) + (n - 1 - rest) * part * part ≤ m * m := by
    have t1 : rest * (part + 1) * (part + 1) + (n - 1 - rest) * part * part = part * m + rest * (part + 1) := by grind
    have t2 : 0 ≤ m - part := by
      have : part ≤ (n - 1) * part := by
        have := Int.mul_le_mul_of_nonneg_right (show (1 : Int) ≤ n - 1 by omega) p0
        omega
      omega
    have t3 : rest * (part + 1) ≤ m * (m - part) := by
      by_cases hr : rest = 0
      · subst hr
        have := Int.mul_nonneg hm t2
        omega
      · have u1 : part + 1 ≤ m := by
          have : part ≤ (n - 1) * part := by
            have := Int.mul_le_mul_of_nonneg_right (show (1 : Int) ≤ n - 1 by omega) p0
            omega
          omega
        have u2 : rest ≤ m - part := by
          have : part ≤ (n - 1) * part := by
            have := Int.mul_le_mul_of_nonneg_right (show (1 : Int) ≤ n - 1 by omega) p0
            omega
          omega
        have := Int.mul_le_mul u2 u1 (by omega) t2
        have c : (m - part) * m = m * (m - part) := Int.mul_comm _ _
        omega
    have t4 : m * m = part * m + m * (m - part) := by grind
    omega
  omega
theorem a_star {m n : Int} (hn : 1 ≤ n) (hm : 0 ≤ m) : (if m * (n - 1) / 2 < Pr m then m * (n - 1) / 2 else Pr m) = (if m ≤ n then Pr m else m * (n - 1) / 2) ∧ 0 ≤ (if m ≤ n then Pr m else m * (n - 1) / 2) ∧ (if m ≤ n then Pr m else m * (n - 1) / 2) ≤ Pr m := by
  have e := Pr2 m
  have p := Pr_nonneg hm
  by_cases h : m ≤ n
  · have : m * (m - 1) ≤ m * (n - 1) := Int.mul_le_mul_of_nonneg_left (by omega) hm
    rw [if_pos h]
    refine ⟨?_, p, Int.le_refl _⟩
    split <;> omega
  · have : m * (n - 1) ≤ m * (m - 1) := Int.mul_le_mul_of_nonneg_left (by omega) hm
    have := Int.mul_nonneg hm (show 0 ≤ n - 1 by omega)
    rw [if_neg h]
    refine ⟨?_, by omega, by omega⟩
    split <;> omega
theorem a_row {m n : Int} (hn : 2 ≤ n) (hm : 0 ≤ m) : 0 ≤ m / (n - 1) * Pr (n - 1) + Pr (m % (n - 1)) ∧ m / (n - 1) * Pr (n - 1) + Pr (m % (n - 1)) ≤ m * n + m := by
  have h1 := dm m (n - 1)
  have r0 := Int.emod_nonneg m (show n - 1 ≠ 0 by omega)
  have r1 := Int.emod_lt_of_pos m (show 0 < n - 1 by omega)
  have p0 : 0 ≤ m / (n - 1) := Int.ediv_nonneg hm (by omega)
  generalize m / (n - 1) = part at *
  generalize m % (n - 1) = rest at *
  have q1 := Pr_nonneg (x := n - 1) (by omega)
  have q2 := Pr_nonneg r0
  have e1 := Pr2 (n - 1)
  have e2 := Pr2 rest
  have s1 := Int.mul_nonneg p0 q1
  refine ⟨by omega, ?_⟩
  have k1 : 2 * (part * Pr (n - 1)) = (m - rest) * (n - 2) := by
    generalize Pr (n - 1) = A at *
    grind
  have k2 : rest * (rest - 1) ≤ rest * (n - 2) := Int.mul_le_mul_of_nonneg_left (by omega) r0
  have k3 : (m - rest) * (n - 2) + rest * (n - 2) = m * (n - 2) := by grind
  have k4 : m * (n - 2) = m * n - 2 * m := by grind
  have k5 : 0 ≤ m * n := Int.mul_nonneg hm (by omega)
  omega
theorem a_core {m n : Int} (hn : 1 ≤ n) (hm : 0 ≤ m) : (if m < n then Pr m else (n - 1) * m - Pr n) = (if m < n then Pr m else (n - 1) * m - (n - 1) * n / 2) ∧ 0 ≤ (if m < n then Pr m else (n - 1) * m - Pr n) ∧ (if m < n then Pr m else (n - 1) * m - Pr n) ≤ m * n + Pr m := by
  have e := Pr2 m
  have e1 := Pr2 n
  have p := Pr_nonneg hm
  have p1 := Pr_nonneg (show 0 ≤ n by omega)
  have c : (n - 1) * n = n * (n - 1) := Int.mul_comm _ _
  have k4 : (n - 1) * m = m * n - m := by grind
  have k5 : 0 ≤ m * n := Int.mul_nonneg hm (by omega)
  by_cases h : m < n
  · rw [if_pos h, if_pos h]
    exact ⟨rfl, p, by omega⟩
  · rw [if_neg h, if_neg h]
    have : n * (n - 1) ≤ m * (n - 1) := Int.mul_le_mul_of_nonneg_right (by omega) (by omega)
    have c2 : m * (n - 1) = (n - 1) * m := Int.mul_comm _ _
    have : 0 ≤ n * (n - 1) := Int.mul_nonneg (by omega) (by omega)
    exact ⟨by omega, by omega, by omega⟩
theorem a_linked {m n : Int} (hn : 1 ≤ n) (hm : 0 ≤ m) : (if m ≤ n then Pr m else Pr (m - 1) + n - 1) = (if m ≤ n then Pr m else Pr m - (m - n)) ∧ 0 ≤ (if m ≤ n then Pr m else Pr (m - 1) + n - 1) ∧ (if m ≤ n then Pr m else Pr (m - 1) + n - 1) ≤ Pr m := by
  have e := Pr2 m
  have e1 := Pr2 (m - 1)
  have p := Pr_nonneg hm
  by_cases h : m ≤ n
  · rw [if_pos h, if_pos h]
    exact ⟨rfl, p, Int.le_refl _⟩
  · rw [if_neg h, if_neg h]
    have p1 := Pr_nonneg (x := m - 1) (by omega)
    have k : m * (m - 1) = (m - 1) * (m - 1 - 1) + 2 * (m - 1) := by grind
    exact ⟨by omega, by omega, by omega⟩
theorem a_pairs {m n : Int} (hn : 1 ≤ n) (hm : 0 ≤ m) :
    (if m < 2 * n then Pr m else (if Pr (n - 1) + (n - 1) * (m - n + 1) > Pr (2 * n - 1) then Pr (n - 1) + (n - 1) * (m - n + 1) else Pr (2 * n - 1))) = (if m < 2 * n then Pr m else (if (n - 1) * m - (n - 1) * n / 2 > (n - 1) * (2 * (n - 1) + 1) then (n - 1) * m - (n - 1) * n / 2 else (n - 1) * (2 * (n - 1) + 1)))
      ∧ 0 ≤ (if m < 2 * n then Pr m else (if Pr (n - 1) + (n - 1) * (m - n + 1) > Pr (2 * n - 1) then Pr (n - 1) + (n - 1) * (m - n + 1) else Pr (2 * n - 1))) ∧ (if m < 2 * n then Pr m else (if Pr (n - 1) + (n - 1) * (m - n + 1) > Pr (2 * n - 1) then Pr (n - 1) + (n - 1) * (m - n + 1) else Pr (2 * n - 1))) ≤ Pr m + m * n + 2 * (n * n) := by
  have e := Pr2 m
  have e1 := Pr2 (n - 1)
  have e2 := Pr2 (2 * n - 1)
  have p := Pr_nonneg hm
  have p1 := Pr_nonneg (x := 2 * n - 1) (by omega)
  have p2 := Pr_nonneg (x := n - 1) (by omega)
  have k1 : (2 * n - 1) * (2 * n - 1 - 1) = 2 * ((n - 1) * (2 * (n - 1) + 1)) := by grind
  have k2 : 2 * ((n - 1) * (m - n + 1)) + (n - 1) * (n - 1 - 1) = 2 * ((n - 1) * m) - (n - 1) * n := by grind
  have k3 : (n - 1) * m = m * n - m := by grind
  have k4 : (n - 1) * n = 2 * Pr n := by rw [Pr2]; exact Int.mul_comm _ _
  have k5 : 0 ≤ m * n := Int.mul_nonneg hm (by omega)
  have k6 : 0 ≤ n * n := Int.mul_nonneg (by omega) (by omega)
  have k7 : (n - 1) * (2 * (n - 1) + 1) = 2 * (n * n) - 3 * n + 1 := by grind
  have k8 := Pr_nonneg (x := n) (by omega)
  by_cases h : m < 2 * n
  · rw [if_pos h, if_pos h]
    exact ⟨rfl, p, by omega⟩
  · rw [if_neg h, if_neg h]
    have j1 : Pr (n - 1) + (n - 1) * (m - n + 1) = (n - 1) * m - (n - 1) * n / 2 := by omega
    have j2 : Pr (2 * n - 1) = (n - 1) * (2 * (n - 1) + 1) := by omega
    rw [j1, j2]
    refine ⟨rfl, ?_, ?_⟩
    · split <;> omega
    · split <;> omega
theorem a_odd {m : Int} (hm : 0 ≤ m) : m * m / 4 = m / 2 * (m - m / 2) ∧ 0 ≤ m / 2 * (m - m / 2) ∧ m / 2 * (m - m / 2) ≤ m * m := by
  have s := Int.mul_nonneg (show 0 ≤ m / 2 by omega) (show 0 ≤ m - m / 2 by omega)
  have t := Int.mul_nonneg hm hm
  rcases (by omega : m % 2 = 0 ∨ m % 2 = 1) with h | h
  · have e : m = 2 * (m / 2) := by omega
    generalize m / 2 = q at *
    have k : m * m = 4 * (q * (m - q)) := by grind
    omega
  · have e : m = 2 * (m / 2) + 1 := by omega
    generalize m / 2 = q at *
    have k : m * m = 4 * (q * (m - q)) + 1 := by grind
    omega
theorem a_ring {m n : Int} (hn : 3 ≤ n) (hm : 1 ≤ m) : (m - 1) / (n - 2) * Pr (n - 1) + Pr ((m - 1) % (n - 2) + 1) = (m - 1) / (n - 1 - 1) * ((n - 1) * (n - 1 - 1) / 2) + (m - 1) % (n - 1 - 1) * ((m - 1) % (n - 1 - 1) + 1) / 2
      ∧ 0 ≤ (m - 1) / (n - 2) * Pr (n - 1) + Pr ((m - 1) % (n - 2) + 1) ∧ (m - 1) / (n - 2) * Pr (n - 1) + Pr ((m - 1) % (n - 2) + 1) ≤ m * n + m + n := by
  rw [show n - 1 - 1 = n - 2 by omega]
  have h1 := dm (m - 1) (n - 2)
  have r0 := Int.emod_nonneg (m - 1) (show n - 2 ≠ 0 by omega)
  have r1 := Int.emod_lt_of_pos (m - 1) (show 0 < n - 2 by omega)
  have p0 : 0 ≤ (m - 1) / (n - 2) := Int.ediv_nonneg (by omega) (by omega)
  generalize (m - 1) / (n - 2) = part at *
  generalize (m - 1) % (n - 2) = rest at *
  have q1 := Pr_nonneg (x := n - 1) (by omega)
  have q2 := Pr_nonneg (x := rest + 1) (by omega)
  have e1 := Pr2 (n - 1)
  have e2 := Pr2 (rest + 1)
  have s1 := Int.mul_nonneg p0 q1
  have c1 : (n - 1) * (n - 1 - 1) = (n - 1) * (n - 2) := by rw [show n - 1 - 1 = n - 2 by omega]
  have c2 : (rest + 1) * (rest + 1 - 1) = rest * (rest + 1) := by grind
  have j1 : (n - 1) * (n - 2) / 2 = Pr (n - 1) := by omega
  have j2 : rest * (rest + 1) / 2 = Pr (rest + 1) := by omega
  refine ⟨by rw [j1, j2], by omega, ?_⟩
  have k1 : 2 * (part * Pr (n - 1)) = (m - 1 - rest) * (n - 1) := by
    generalize Pr (n - 1) = A at *
    grind
  have k2 : rest * (rest + 1) ≤ rest * (n - 1) := Int.mul_le_mul_of_nonneg_left (by omega) r0
  have k3 : (m - 1 - rest) * (n - 1) + rest * (n - 1) = (m - 1) * (n - 1) := by grind
  have k4 : (m - 1) * (n - 1) = m * n - m - n + 1 := by grind
  have k5 : 0 ≤ m * n := Int.mul_nonneg (by omega) (by omega)
  omega
theorem a_even {m : Int} (hm : 1 ≤ m) : 3 * (m - 1) / 2 = (if 0 > m - 1 then 0 else m - 1) + (if 0 > m - 1 then 0 else m - 1) / 2 ∧ 0 ≤ 3 * (m - 1) / 2 ∧ 3 * (m - 1) / 2 ≤ 2 * m := by
  rw [if_neg (by omega)]
  omega
end LW

namespace LW
open PySem PySem.Spec PyProof.Rows L2 TL DL
/-! ## whole numbers worked out, with a bound on their bits -/
def EV (env : DEnv) (f : FE) (z : Int) (k : Nat) : Prop := (∀ S, f env S = some (.int z, S)) ∧ z.natAbs < 2 ^ k
theorem lg {n k K : Nat} (h : n < 2 ^ k) (hk : k ≤ K) (h0 : 0 < K) : n.log2 < K := PySem.Flt.log2_lt_of h0 (Nat.lt_of_lt_of_le h (Nat.pow_le_pow_right (by decide) hk))
theorem sb {z : Int} {k : Nat} (h : z.natAbs < 2 ^ k) (hk : k ≤ 3000) : smallI z = true := by
  unfold smallI
  exact decide_eq_true (Nat.lt_of_lt_of_le (lg h hk (by decide)) (by decide))
section
variable {env : DEnv} {f g : FE} {a b : Int} {k l : Nat}
theorem ev_var (i : Nat) {z : Int} {k : Nat} (h : env[i]? = some (some (.int z))) (hb : z.natAbs < 2 ^ k) : EV env (fVar i) z k := ⟨fun S => by unfold fVar; rw [h], hb⟩
theorem ev_lit (z : Int) (k : Nat) (hb : z.natAbs < 2 ^ k := by decide) : EV env (fC (.int z)) z k := ⟨fun S => rfl, hb⟩
theorem ev_mul (h1 : EV env f a k) (h2 : EV env g b l) (hk : k ≤ 3000 := by decide) (hl : l ≤ 3000 := by decide) : EV env (fBin gMul f g) (a * b) (k + l) := ⟨fun S => bin_of (h1.1 S) (h2.1 S) (mul_ok (sb h1.2 hk) (sb h2.2 hl) S), by
  rw [Int.natAbs_mul, Nat.pow_add]
  exact Nat.mul_lt_mul'' h1.2 h2.2⟩
theorem two_le (k l : Nat) : 2 ^ k ≤ 2 ^ max k l ∧ 2 ^ l ≤ 2 ^ max k l := ⟨Nat.pow_le_pow_right (by decide) (Nat.le_max_left _ _), Nat.pow_le_pow_right (by decide) (Nat.le_max_right _ _)⟩
theorem ev_add (h1 : EV env f a k) (h2 : EV env g b l) : EV env (fBin gAdd f g) (a + b) (max k l + 1) := ⟨fun S => bin_of (h1.1 S) (h2.1 S) rfl, by
  have := two_le k l
  have := h1.2
  have := h2.2
  rw [Nat.pow_succ]
  omega⟩
theorem ev_sub (h1 : EV env f a k) (h2 : EV env g b l) : EV env (fBin gSubI f g) (a - b) (max k l + 1) := ⟨fun S => bin_of (h1.1 S) (h2.1 S) rfl, by
  have := two_le k l
  have := h1.2
  have := h2.2
  rw [Nat.pow_succ]
  omega⟩
theorem natAbs_div_le {a b : Int} (hb : 0 < b) : (a / b).natAbs ≤ a.natAbs := by
  have h1 := dm a b
  have h2 := Int.emod_nonneg a (show b ≠ 0 by omega)
  have h3 := Int.emod_lt_of_pos a hb
  generalize a / b = q at *
  generalize a % b = r at *
  by_cases hq : 0 ≤ q
  · have := Int.mul_le_mul_of_nonneg_right (show (1 : Int) ≤ b by omega) hq
    omega
  · have := Int.mul_le_mul_of_nonneg_right (show (1 : Int) ≤ b by omega) (show 0 ≤ -q - 1 by omega)
    have e : b * (-q - 1) = -(b * q) - b := by grind
    omega
theorem ev_div (h1 : EV env f a k) (h2 : EV env g b l) (hb : 0 < b) (hl : l ≤ 3000 := by decide) : EV env (fBin gFdiv f g) (a / b) k := ⟨fun S => bin_of (h1.1 S) (h2.1 S) (by
  show (if (decide (0 < b) && decide (b.natAbs.log2 < 9000)) = true then _ else _) = _
  rw [decide_eq_true hb, decide_eq_true (Nat.lt_of_lt_of_le (lg h2.2 hl (by decide)) (by decide))]
  rfl), Nat.lt_of_le_of_lt (natAbs_div_le hb) h1.2⟩
theorem ev_mod (h1 : EV env f a k) (h2 : EV env g b l) (hb : 0 < b) : EV env (fBin gMod f g) (a % b) l := ⟨fun S => bin_of (h1.1 S) (h2.1 S) (mod_ok hb S), by
  have h2 := h2.2
  have := Int.emod_nonneg a (show b ≠ 0 by omega)
  have := Int.emod_lt_of_pos a hb
  omega⟩
theorem ev_up (h : EV env f a k) (hl : k ≤ l) : EV env f a l := ⟨h.1, Nat.lt_of_lt_of_le h.2 (Nat.pow_le_pow_right (by decide) hl)⟩
theorem ev_pairs (h : EV env f a k) (hk : k ≤ 1000 := by decide) : EV env (fCall w_pairs_of (fCons f fNil)) (Pr a) (k + (max k 1 + 1)) := by
  have v : EV [some (.int a)] (fVar 0) a k := ev_var 0 rfl h.2
  have e := ev_div (ev_mul v (ev_sub v (ev_lit 1 1)) (by omega) (by omega)) (ev_lit 2 2) (by decide)
  exact ⟨fun S => call_of (S1 := S) (ds := [.int a]) (cons_of (h.1 S) rfl) (run_of (ret_of (e.1 S))), e.2⟩
theorem ev_min (h1 : EV env f a k) (h2 : EV env g b l) : EV env (fCall cMin2 (fCons f (fCons g fNil))) (if b < a then b else a) (max k l) := ⟨fun S => call_of (S1 := S) (ds := [.int a, .int b]) (cons_of (h1.1 S) (cons_of (h2.1 S) rfl)) rfl, by
  have := two_le k l
  have := h1.2
  have := h2.2
  split <;> omega⟩
theorem ev_max (h1 : EV env f a k) (h2 : EV env g b l) : EV env (fCall cMax2 (fCons f (fCons g fNil))) (if b > a then b else a) (max k l) := ⟨fun S => call_of (S1 := S) (ds := [.int a, .int b]) (cons_of (h1.1 S) (cons_of (h2.1 S) rfl)) rfl, by
  have := two_le k l
  have := h1.2
  have := h2.2
  split <;> omega⟩
theorem ev_if {t : FT} {c : Prop} [Decidable c] (ht : ∀ S, t env S = some (decide c, S)) (h1 : EV env f a k) (h2 : EV env g b l) : EV env (fIf t f g) (if c then a else b) (max k l) := ⟨fun S => if_of (ht S) (by
  by_cases h : c
  · rw [decide_eq_true h, if_pos rfl, if_pos h]; exact h1.1 S
  · rw [decide_eq_false h, if_neg (by decide), if_neg h]; exact h2.1 S), by
  have := two_le k l
  have := h1.2
  have := h2.2
  split <;> omega⟩
theorem t_lt (h1 : EV env f a k) (h2 : EV env g b l) (S : Sto) : (fTest (fBin gLt f g)) env S = some (decide (a < b), S) := test_of (bin_of (h1.1 S) (h2.1 S) rfl)
theorem t_le (h1 : EV env f a k) (h2 : EV env g b l) (S : Sto) : (fTest (fBin gLe f g)) env S = some (decide (a ≤ b), S) := test_of (bin_of (h1.1 S) (h2.1 S) rfl)
theorem par_of {i j : Nat} {S S1 : Sto} {fas : FA} {v w : D} (h : fas env S = some ([v, w], S1)) : sPar i j fas env S = some (.nx ((env.set i (some v)).set j (some w)), S1) := by
  unfold sPar
  rw [h]
  rfl
theorem dm_of {i j : Nat} {S : Sto} (h1 : EV env f a k) (h2 : EV env g b l) (hb : 0 < b) (hl : l ≤ 3000 := by decide) : sAsg (fCall cDivmod (fCons f (fCons g fNil))) (gTup 2 (gCons (gN i) (gCons (gN j) gNil))) env S = some (.nx ((env.set i (some (.int (a / b)))).set j (some (.int (a % b)))), S) := by
  refine asg_of (d := .tup [.int (a / b), .int (a % b)]) (S1 := S) (call_of (S1 := S) (ds := [.int a, .int b]) (cons_of (h1.1 S) (cons_of (h2.1 S) rfl)) ?_) rfl
  show (if 0 < b ∧ b.natAbs.log2 < 9000 then _ else none) = _
  rw [if_pos ⟨hb, Nat.lt_of_lt_of_le (lg h2.2 hl (by decide)) (by decide)⟩]
end
/-! ## the program's most ties -/
abbrev E7 (k : Str) (n m : Int) (a b c d : Option D) : DEnv := [some (.str k), some (.int n), some (.int m), a, b, c, d]
section
variable {n m : Int} (hn : n.natAbs < 2 ^ 140) (hm : m.natAbs < 2 ^ 140)
include hn hm
theorem p_start {k : Str} {S S' : Sto} {r : D}
    (h : ∀ e3, e3 = some (D.int (Pr m)) → (sSeq (sIf (fTest (fBin gEq (fVar 0) (fC (.str "crowd")))) (sSeq (sPar 4 5 (fCons (fBin gFdiv (fVar 2) (fBin gSubI (fVar 1) (fC (.int 1)))) (fCons (fBin gMod (fVar 2) (fBin gSubI (fVar 1) (fC (.int 1)))) fNil)))
    (sRet (fBin gSubI (fBin gSubI (fVar 3) (fBin gMul (fVar 5) (fCall w_pairs_of (fCons (fBin gAdd (fVar 4) (fC (.int 1))) fNil)))) (fBin gMul (fBin gSubI (fBin gSubI (fVar 1) (fC (.int 1))) (fVar 5)) (fCall w_pairs_of (fCons (fVar 4) fNil)))))) sSkip)
    (sSeq (sIf (fTest (fBin gEq (fVar 0) (fC (.str "star")))) (sRet (fCall cMin2 (fCons (fVar 3) (fCons (fBin gFdiv (fBin gMul (fVar 2) (fBin gSubI (fVar 1) (fC (.int 1)))) (fC (.int 2))) fNil)))) sSkip)
    (sSeq (sIf (fTest (fBin gEq (fVar 0) (fC (.str "row")))) (sRet (fBin gAdd (fBin gMul (fBin gFdiv (fVar 2) (fBin gSubI (fVar 1) (fC (.int 1)))) (fCall w_pairs_of (fCons (fBin gSubI (fVar 1) (fC (.int 1))) fNil))) (fCall w_pairs_of (fCons (fBin gMod (fVar 2) (fBin gSubI (fVar 1) (fC (.int 1)))) fNil)))) sSkip)
    (sSeq (sIf (fTest (fBin gEq (fVar 0) (fC (.str "core")))) (sRet (fIf (fTest (fBin gLt (fVar 2) (fVar 1))) (fVar 3) (fBin gSubI (fBin gMul (fBin gSubI (fVar 1) (fC (.int 1))) (fVar 2)) (fCall w_pairs_of (fCons (fVar 1) fNil))))) sSkip)
    (sSeq (sIf (fTest (fBin gEq (fVar 0) (fC (.str "linked")))) (sRet (fIf (fTest (fBin gLe (fVar 2) (fVar 1))) (fVar 3) (fBin gSubI (fBin gAdd (fCall w_pairs_of (fCons (fBin gSubI (fVar 2) (fC (.int 1))) fNil)) (fVar 1)) (fC (.int 1))))) sSkip)
    (sSeq (sIf (fTest (fBin gEq (fVar 0) (fC (.str "pairs")))) (sSeq (sAsg (fBin gAdd (fCall w_pairs_of (fCons (fBin gSubI (fVar 1) (fC (.int 1))) fNil)) (fBin gMul (fBin gSubI (fVar 1) (fC (.int 1))) (fBin gAdd (fBin gSubI (fVar 2) (fVar 1)) (fC (.int 1))))) (gN 6))
    (sRet (fIf (fTest (fBin gLt (fVar 2) (fBin gMul (fC (.int 2)) (fVar 1)))) (fVar 3) (fCall cMax2 (fCons (fCall w_pairs_of (fCons (fBin gSubI (fBin gMul (fC (.int 2)) (fVar 1)) (fC (.int 1))) fNil)) (fCons (fVar 6) fNil)))))) sSkip)
    (sRet (fCall w_most_without_rings (fCons (fVar 0) (fCons (fVar 1) (fCons (fVar 2) fNil))))))))))) (E7 k n m e3 none none none) S = some (.rt r, S')) : w_most_ties [.str k, .int n, .int m] S = some (r, S') := by
  have v : EV (E7 k n m none none none none) (fVar 2) m 140 := ev_var 2 rfl hm
  exact run_of ((seq_nx (set_of (i := 3) ((ev_pairs v).1 S))).trans (h _ rfl))
theorem prm : (Pr m).natAbs < 2 ^ 281 := by
  have v : EV [some (.int m)] (fVar 0) m 140 := ev_var 0 rfl hm
  exact (ev_pairs v).2
theorem p_crowd (h : 2 ≤ n) (S : Sto) : w_most_ties [.str "crowd", .int n, .int m] S = some (.int (Pr m - m % (n - 1) * Pr (m / (n - 1) + 1) - (n - 1 - m % (n - 1)) * Pr (m / (n - 1))), S) := by
  refine p_start hn hm fun e3 h3 => ?_
  subst h3
  have v1 : EV (E7 "crowd" n m (some (.int (Pr m))) none none none) (fVar 1) n 140 := ev_var 1 rfl hn
  have v2 : EV (E7 "crowd" n m (some (.int (Pr m))) none none none) (fVar 2) m 140 := ev_var 2 rfl hm
  have f := ev_sub v1 (ev_lit 1 1)
  have d := ev_div v2 f (by omega)
  have r := ev_mod v2 f (by omega)
  refine seq_rt ((if_t (S1 := S) rfl).trans ((seq_nx (par_of (cons_of (d.1 S) (cons_of (r.1 S) rfl)))).trans (ret_of ?_)))
  have w1 : EV (E7 "crowd" n m (some (.int (Pr m))) (some (.int (m / (n - 1)))) (some (.int (m % (n - 1)))) none) (fVar 1) n 140 := ev_var 1 rfl hn
  have w3 : EV (E7 "crowd" n m (some (.int (Pr m))) (some (.int (m / (n - 1)))) (some (.int (m % (n - 1)))) none) (fVar 3) (Pr m) 281 := ev_var 3 rfl (prm hn hm)
  have w4 : EV (E7 "crowd" n m (some (.int (Pr m))) (some (.int (m / (n - 1)))) (some (.int (m % (n - 1)))) none) (fVar 4) (m / (n - 1)) 140 := ev_var 4 rfl d.2
  have w5 : EV (E7 "crowd" n m (some (.int (Pr m))) (some (.int (m / (n - 1)))) (some (.int (m % (n - 1)))) none) (fVar 5) (m % (n - 1)) 141 := ev_var 5 rfl r.2
  exact (ev_sub (ev_sub w3 (ev_mul w5 (ev_pairs (ev_add w4 (ev_lit 1 1))))) (ev_mul (ev_sub (ev_sub w1 (ev_lit 1 1)) w5) (ev_pairs w4))).1 S
theorem p_star (h : 1 ≤ n) (S : Sto) : w_most_ties [.str "star", .int n, .int m] S = some (.int (if m * (n - 1) / 2 < Pr m then m * (n - 1) / 2 else Pr m), S) := by
  refine p_start hn hm fun e3 h3 => ?_
  subst h3
  have v1 : EV (E7 "star" n m (some (.int (Pr m))) none none none) (fVar 1) n 140 := ev_var 1 rfl hn
  have v2 : EV (E7 "star" n m (some (.int (Pr m))) none none none) (fVar 2) m 140 := ev_var 2 rfl hm
  have v3 : EV (E7 "star" n m (some (.int (Pr m))) none none none) (fVar 3) (Pr m) 281 := ev_var 3 rfl (prm hn hm)
  refine (seq_nx (env' := E7 "star" n m (some (.int (Pr m))) none none none) (S1 := S) rfl).trans (seq_rt ((if_t (S1 := S) rfl).trans (ret_of ?_)))
  exact (ev_min v3 (ev_div (ev_mul v2 (ev_sub v1 (ev_lit 1 1))) (ev_lit 2 2) (by decide))).1 S
theorem p_row (h : 2 ≤ n) (S : Sto) : w_most_ties [.str "row", .int n, .int m] S = some (.int (m / (n - 1) * Pr (n - 1) + Pr (m % (n - 1))), S) := by
  refine p_start hn hm fun e3 h3 => ?_
  subst h3
  have v1 : EV (E7 "row" n m (some (.int (Pr m))) none none none) (fVar 1) n 140 := ev_var 1 rfl hn
  have v2 : EV (E7 "row" n m (some (.int (Pr m))) none none none) (fVar 2) m 140 := ev_var 2 rfl hm
  have f := ev_sub v1 (ev_lit 1 1)
  refine (seq_nx (env' := E7 "row" n m (some (.int (Pr m))) none none none) (S1 := S) rfl).trans ((seq_nx (env' := E7 "row" n m (some (.int (Pr m))) none none none) (S1 := S) rfl).trans (seq_rt ((if_t (S1 := S) rfl).trans (ret_of ?_))))
  exact (ev_add (ev_mul (ev_div v2 f (by omega)) (ev_pairs f)) (ev_pairs (ev_mod v2 f (by omega)))).1 S
theorem p_core (S : Sto) : w_most_ties [.str "core", .int n, .int m] S = some (.int (if m < n then Pr m else (n - 1) * m - Pr n), S) := by
  refine p_start hn hm fun e3 h3 => ?_
  subst h3
  have v1 : EV (E7 "core" n m (some (.int (Pr m))) none none none) (fVar 1) n 140 := ev_var 1 rfl hn
  have v2 : EV (E7 "core" n m (some (.int (Pr m))) none none none) (fVar 2) m 140 := ev_var 2 rfl hm
  have v3 : EV (E7 "core" n m (some (.int (Pr m))) none none none) (fVar 3) (Pr m) 281 := ev_var 3 rfl (prm hn hm)
  have s := fun {f2 : FS} => seq_nx (f2 := f2) (f1 := sSkip) (env := E7 "core" n m (some (.int (Pr m))) none none none) (env' := E7 "core" n m (some (.int (Pr m))) none none none) (S := S) (S1 := S) rfl
  refine (seq_nx (env' := E7 "core" n m (some (.int (Pr m))) none none none) (S1 := S) rfl).trans ((seq_nx (env' := E7 "core" n m (some (.int (Pr m))) none none none) (S1 := S) rfl).trans ((seq_nx (env' := E7 "core" n m (some (.int (Pr m))) none none none) (S1 := S) rfl).trans (seq_rt ((if_t (S1 := S) rfl).trans (ret_of ?_)))))
  exact (ev_if (t_lt v2 v1) v3 (ev_sub (ev_mul (ev_sub v1 (ev_lit 1 1)) v2) (ev_pairs v1))).1 S
theorem p_linked (S : Sto) : w_most_ties [.str "linked", .int n, .int m] S = some (.int (if m ≤ n then Pr m else Pr (m - 1) + n - 1), S) := by
  refine p_start hn hm fun e3 h3 => ?_
  subst h3
  have v1 : EV (E7 "linked" n m (some (.int (Pr m))) none none none) (fVar 1) n 140 := ev_var 1 rfl hn
  have v2 : EV (E7 "linked" n m (some (.int (Pr m))) none none none) (fVar 2) m 140 := ev_var 2 rfl hm
  have v3 : EV (E7 "linked" n m (some (.int (Pr m))) none none none) (fVar 3) (Pr m) 281 := ev_var 3 rfl (prm hn hm)
  refine (seq_nx (env' := E7 "linked" n m (some (.int (Pr m))) none none none) (S1 := S) rfl).trans ((seq_nx (env' := E7 "linked" n m (some (.int (Pr m))) none none none) (S1 := S) rfl).trans ((seq_nx (env' := E7 "linked" n m (some (.int (Pr m))) none none none) (S1 := S) rfl).trans ((seq_nx (env' := E7 "linked" n m (some (.int (Pr m))) none none none) (S1 := S) rfl).trans (seq_rt ((if_t (S1 := S) rfl).trans (ret_of ?_))))))
  exact (ev_if (t_le v2 v1) v3 (ev_sub (ev_add (ev_pairs (ev_sub v2 (ev_lit 1 1))) v1) (ev_lit 1 1))).1 S
theorem p_pairs (S : Sto) : w_most_ties [.str "pairs", .int n, .int m] S = some (.int (if m < 2 * n then Pr m else (if Pr (n - 1) + (n - 1) * (m - n + 1) > Pr (2 * n - 1) then Pr (n - 1) + (n - 1) * (m - n + 1) else Pr (2 * n - 1))), S) := by
  refine p_start hn hm fun e3 h3 => ?_
  subst h3
  have v1 : EV (E7 "pairs" n m (some (.int (Pr m))) none none none) (fVar 1) n 140 := ev_var 1 rfl hn
  have v2 : EV (E7 "pairs" n m (some (.int (Pr m))) none none none) (fVar 2) m 140 := ev_var 2 rfl hm
  refine (seq_nx (env' := E7 "pairs" n m (some (.int (Pr m))) none none none) (S1 := S) rfl).trans ((seq_nx (env' := E7 "pairs" n m (some (.int (Pr m))) none none none) (S1 := S) rfl).trans ((seq_nx (env' := E7 "pairs" n m (some (.int (Pr m))) none none none) (S1 := S) rfl).trans ((seq_nx (env' := E7 "pairs" n m (some (.int (Pr m))) none none none) (S1 := S) rfl).trans ((seq_nx (env' := E7 "pairs" n m (some (.int (Pr m))) none none none) (S1 := S) rfl).trans (seq_rt ((if_t (S1 := S) rfl).trans ?_))))))
  have j := ev_add (ev_pairs (ev_sub v1 (ev_lit 1 1))) (ev_mul (ev_sub v1 (ev_lit 1 1)) (ev_add (ev_sub v2 v1) (ev_lit 1 1)))
  refine (seq_nx (set_of (i := 6) (j.1 S))).trans (ret_of ?_)
  have w1 : EV (E7 "pairs" n m (some (.int (Pr m))) none none (some (.int (Pr (n - 1) + (n - 1) * (m - n + 1))))) (fVar 1) n 140 := ev_var 1 rfl hn
  have w2 : EV (E7 "pairs" n m (some (.int (Pr m))) none none (some (.int (Pr (n - 1) + (n - 1) * (m - n + 1))))) (fVar 2) m 140 := ev_var 2 rfl hm
  have w3 : EV (E7 "pairs" n m (some (.int (Pr m))) none none (some (.int (Pr (n - 1) + (n - 1) * (m - n + 1))))) (fVar 3) (Pr m) 281 := ev_var 3 rfl (prm hn hm)
  have w6 := ev_var (env := E7 "pairs" n m (some (.int (Pr m))) none none (some (.int (Pr (n - 1) + (n - 1) * (m - n + 1))))) 6 rfl j.2
  exact (ev_if (t_lt w2 (ev_mul (ev_lit 2 2) w1)) w3 (ev_max (ev_pairs (ev_sub (ev_mul (ev_lit 2 2) w1) (ev_lit 1 1))) w6)).1 S
theorem p_ring (h : 3 ≤ n) (S : Sto) : w_most_ties [.str "ring", .int n, .int m] S = some (.int (if m = 0 then 0 else (m - 1) / (n - 2) * Pr (n - 1) + Pr ((m - 1) % (n - 2) + 1)), S) := by
  refine p_start hn hm fun e3 h3 => ?_
  subst h3
  have s : ∀ {f2 : FS} {t : FT} {f1 : FS}, t (E7 "ring" n m (some (.int (Pr m))) none none none) S = some (false, S) → sSeq (sIf t f1 sSkip) f2 (E7 "ring" n m (some (.int (Pr m))) none none none) S = f2 (E7 "ring" n m (some (.int (Pr m))) none none none) S := fun ht => seq_nx ((if_f ht).trans rfl)
  refine (s rfl).trans ((s rfl).trans ((s rfl).trans ((s rfl).trans ((s rfl).trans ((s rfl).trans (ret_of (call_of (S1 := S) (ds := [.str "ring", .int n, .int m]) rfl ?_)))))))
  by_cases h0 : m = 0
  · rw [if_pos h0]
    subst h0
    exact run_of (seq_rt ((if_t (S1 := S) rfl).trans rfl))
  · rw [if_neg h0]
    have t : (fTest (fBin gEq (fVar 2) (fC (.int 0)))) [some (.str "ring"), some (.int n), some (.int m), none, none] S = some (false, S) := by
      show some (decide (m = 0), S) = _
      rw [decide_eq_false h0]
    have v1 : EV [some (.str "ring"), some (.int n), some (.int m), none, none] (fVar 1) n 140 := ev_var 1 rfl hn
    have v2 : EV [some (.str "ring"), some (.int n), some (.int m), none, none] (fVar 2) m 140 := ev_var 2 rfl hm
    have d := ev_div (ev_sub v2 (ev_lit 1 1)) (ev_sub v1 (ev_lit 2 2)) (by omega)
    have r := ev_mod (ev_sub v2 (ev_lit 1 1)) (ev_sub v1 (ev_lit 2 2)) (by omega)
    refine run_of ((seq_nx ((if_f t).trans rfl)).trans ((seq_nx (env' := [some (.str "ring"), some (.int n), some (.int m), none, none]) (S1 := S) rfl).trans ((seq_nx (env' := [some (.str "ring"), some (.int n), some (.int m), none, none]) (S1 := S) rfl).trans ((seq_nx (par_of (cons_of (d.1 S) (cons_of (r.1 S) rfl)))).trans (ret_of ?_)))))
    have w1 : EV [some (.str "ring"), some (.int n), some (.int m), some (.int ((m - 1) / (n - 2))), some (.int ((m - 1) % (n - 2)))] (fVar 1) n 140 := ev_var 1 rfl hn
    have w3 := ev_var (env := [some (.str "ring"), some (.int n), some (.int m), some (.int ((m - 1) / (n - 2))), some (.int ((m - 1) % (n - 2)))]) 3 rfl d.2
    have w4 := ev_var (env := [some (.str "ring"), some (.int n), some (.int m), some (.int ((m - 1) / (n - 2))), some (.int ((m - 1) % (n - 2)))]) 4 rfl r.2
    exact (ev_add (ev_mul w3 (ev_pairs (ev_sub w1 (ev_lit 1 1)))) (ev_pairs (ev_add w4 (ev_lit 1 1)))).1 S
end
end LW

set_option exponentiation.threshold 2000
namespace LW
open PySem PySem.Spec PyProof.Rows L2 TL DL
abbrev Ea (k : Str) (n m : Int) (c d e f g : Option D) : DEnv := [some (.str k), some (.int n), some (.int m), some (.int (Pr m)), some (.int (n - 1)), c, d, e, f, g]
abbrev Eb (k : Str) (n m : Int) : DEnv := [some (.str k), some (.int n), some (.int m), some (.int (Pr m)), some (.int (n - 1)), none, none, none, none, none]
/-- one test that fails -/
theorem skp {env : DEnv} {S : Sto} {f2 : FS} {t : FT} {f1 : FS} (ht : t env S = some (false, S)) : sSeq (sIf t f1 sSkip) f2 env S = f2 env S := seq_nx ((if_f ht).trans rfl)
section
variable {n m : Int} (hn : n.natAbs < 2 ^ 140) (hm : m.natAbs < 2 ^ 140)
include hn hm
theorem q_start {k : Str} {S S' : Sto} {r : D} {f : FS}
    (hf : w__law_most = runD 10 (sSeq (sAsg (fBin gFdiv (fBin gMul (fVar 2) (fBin gSubI (fVar 2) (fC (.int 1)))) (fC (.int 2))) (gN 3)) (sSeq (sAsg (fIf (fTest (fBin gIsN (fVar 1) (fC .non))) (fC (.int 0)) (fBin gSubI (fVar 1) (fC (.int 1)))) (gN 4)) f)))
    (h : f (Eb k n m) S = some (.rt r, S')) : w__law_most [.str k, .int n, .int m] S = some (r, S') := by
  rw [hf]
  have v : EV [some (.str k), some (.int n), some (.int m), none, none, none, none, none, none, none] (fVar 2) m 140 := ev_var 2 rfl hm
  exact run_of ((seq_nx (set_of (i := 3) ((ev_div (ev_mul v (ev_sub v (ev_lit 1 1))) (ev_lit 2 2) (by decide)).1 S))).trans ((seq_nx (env' := Eb k n m) (S1 := S) rfl).trans h))
theorem q_crowd (h : 2 ≤ n) : (∀ S, w__law_most [.str "crowd", .int n, .int m] S = some (.int ((m * m - (m % (n - 1) * (m / (n - 1) + 1) * (m / (n - 1) + 1) + (n - 1 - m % (n - 1)) * (m / (n - 1)) * (m / (n - 1)))) / 2), S)) ∧ ((m * m - (m % (n - 1) * (m / (n - 1) + 1) * (m / (n - 1) + 1) + (n - 1 - m % (n - 1)) * (m / (n - 1)) * (m / (n - 1)))) / 2).natAbs < 2 ^ 1000 := by
  have v2 : EV (Eb "crowd" n m) (fVar 2) m 140 := ev_var 2 rfl hm
  have f : EV (Eb "crowd" n m) (fVar 4) (n - 1) 141 := ev_var 4 rfl (by omega)
  have d : (m / (n - 1)).natAbs < 2 ^ 140 := Nat.lt_of_le_of_lt (natAbs_div_le (by omega)) hm
  have r : (m % (n - 1)).natAbs < 2 ^ 141 := (ev_mod v2 f (by omega)).2
  have w2 : ∀ e, EV (Ea "crowd" n m (some (.int (m / (n - 1)))) (some (.int (m % (n - 1)))) e none none) (fVar 2) m 140 := fun e => ev_var 2 rfl hm
  have w4 : ∀ e, EV (Ea "crowd" n m (some (.int (m / (n - 1)))) (some (.int (m % (n - 1)))) e none none) (fVar 4) (n - 1) 141 := fun e => ev_var 4 rfl (by omega)
  have w5 : ∀ e, EV (Ea "crowd" n m (some (.int (m / (n - 1)))) (some (.int (m % (n - 1)))) e none none) (fVar 5) (m / (n - 1)) 140 := fun e => ev_var 5 rfl d
  have w6 : ∀ e, EV (Ea "crowd" n m (some (.int (m / (n - 1)))) (some (.int (m % (n - 1)))) e none none) (fVar 6) (m % (n - 1)) 141 := fun e => ev_var 6 rfl r
  have e1 := ev_mul (ev_mul (w6 none) (ev_add (w5 none) (ev_lit 1 1))) (ev_add (w5 none) (ev_lit 1 1))
  have w7 := ev_var (env := Ea "crowd" n m (some (.int (m / (n - 1)))) (some (.int (m % (n - 1)))) (some (.int (m % (n - 1) * (m / (n - 1) + 1) * (m / (n - 1) + 1)))) none none) 7 rfl e1.2
  have e2 := ev_add w7 (ev_mul (ev_mul (ev_sub (w4 _) (w6 _)) (w5 _)) (w5 _))
  have w8 := ev_var (env := Ea "crowd" n m (some (.int (m / (n - 1)))) (some (.int (m % (n - 1)))) (some (.int (m % (n - 1) * (m / (n - 1) + 1) * (m / (n - 1) + 1) + (n - 1 - m % (n - 1)) * (m / (n - 1)) * (m / (n - 1))))) none none) 7 rfl e2.2
  have e3 := ev_div (ev_sub (ev_mul (w2 _) (w2 _)) w8) (ev_lit 2 2) (by decide)
  refine ⟨fun S => q_start hn hm rfl ?_, (ev_up e3 (by decide)).2⟩
  refine seq_rt ((if_t (S1 := S) rfl).trans ((seq_nx (dm_of v2 f (by omega))).trans ((seq_nx (set_of (i := 7) (e1.1 S))).trans ((seq_nx (set_of (i := 7) (e2.1 S))).trans (ret_of (e3.1 S))))))
theorem q_row (h : 2 ≤ n) : (∀ S, w__law_most [.str "row", .int n, .int m] S = some (.int (m / (n - 1) * Pr (n - 1) + Pr (m % (n - 1))), S)) ∧ (m / (n - 1) * Pr (n - 1) + Pr (m % (n - 1))).natAbs < 2 ^ 1000 := by
  have v2 : EV (Eb "row" n m) (fVar 2) m 140 := ev_var 2 rfl hm
  have f : EV (Eb "row" n m) (fVar 4) (n - 1) 141 := ev_var 4 rfl (by omega)
  have d : (m / (n - 1)).natAbs < 2 ^ 140 := Nat.lt_of_le_of_lt (natAbs_div_le (by omega)) hm
  have r : (m % (n - 1)).natAbs < 2 ^ 141 := (ev_mod v2 f (by omega)).2
  have w4 : EV (Ea "row" n m (some (.int (m / (n - 1)))) (some (.int (m % (n - 1)))) none none none) (fVar 4) (n - 1) 141 := ev_var 4 rfl (by omega)
  have w5 : EV (Ea "row" n m (some (.int (m / (n - 1)))) (some (.int (m % (n - 1)))) none none none) (fVar 5) (m / (n - 1)) 140 := ev_var 5 rfl d
  have w6 : EV (Ea "row" n m (some (.int (m / (n - 1)))) (some (.int (m % (n - 1)))) none none none) (fVar 6) (m % (n - 1)) 141 := ev_var 6 rfl r
  have e3 := ev_add (ev_mul w5 (ev_div (ev_mul w4 (ev_sub w4 (ev_lit 1 1))) (ev_lit 2 2) (by decide))) (ev_div (ev_mul w6 (ev_sub w6 (ev_lit 1 1))) (ev_lit 2 2) (by decide))
  refine ⟨fun S => q_start hn hm rfl ?_, (ev_up e3 (by decide)).2⟩
  exact (skp rfl).trans (seq_rt ((if_t (S1 := S) rfl).trans ((seq_nx (dm_of v2 f (by omega))).trans (ret_of (e3.1 S)))))
theorem q_star : (∀ S, w__law_most [.str "star", .int n, .int m] S = some (.int (if m ≤ n then Pr m else m * (n - 1) / 2), S)) ∧ (if m ≤ n then Pr m else m * (n - 1) / 2).natAbs < 2 ^ 1000 := by
  have v1 : EV (Eb "star" n m) (fVar 1) n 140 := ev_var 1 rfl hn
  have v2 : EV (Eb "star" n m) (fVar 2) m 140 := ev_var 2 rfl hm
  have v3 : EV (Eb "star" n m) (fVar 3) (Pr m) 281 := ev_var 3 rfl (prm hn hm)
  have f : EV (Eb "star" n m) (fVar 4) (n - 1) 141 := ev_var 4 rfl (by omega)
  have e3 := ev_if (t_le v2 v1) v3 (ev_div (ev_mul v2 f) (ev_lit 2 2) (by decide))
  refine ⟨fun S => q_start hn hm rfl ?_, (ev_up e3 (by decide)).2⟩
  exact (skp rfl).trans ((skp rfl).trans (seq_rt ((if_t (S1 := S) rfl).trans (ret_of (e3.1 S)))))
theorem q_pairs : (∀ S, w__law_most [.str "pairs", .int n, .int m] S = some (.int (if m < 2 * n then Pr m else (if (n - 1) * m - (n - 1) * n / 2 > (n - 1) * (2 * (n - 1) + 1) then (n - 1) * m - (n - 1) * n / 2 else (n - 1) * (2 * (n - 1) + 1))), S)) ∧ (if m < 2 * n then Pr m else (if (n - 1) * m - (n - 1) * n / 2 > (n - 1) * (2 * (n - 1) + 1) then (n - 1) * m - (n - 1) * n / 2 else (n - 1) * (2 * (n - 1) + 1))).natAbs < 2 ^ 1000 := by
  have v1 : EV (Eb "pairs" n m) (fVar 1) n 140 := ev_var 1 rfl hn
  have v2 : EV (Eb "pairs" n m) (fVar 2) m 140 := ev_var 2 rfl hm
  have f : EV (Eb "pairs" n m) (fVar 4) (n - 1) 141 := ev_var 4 rfl (by omega)
  have j := ev_sub (ev_mul f v2) (ev_div (ev_mul f v1) (ev_lit 2 2) (by decide))
  have w1 : EV (Ea "pairs" n m none none none (some (.int ((n - 1) * m - (n - 1) * n / 2))) none) (fVar 1) n 140 := ev_var 1 rfl hn
  have w2 : EV (Ea "pairs" n m none none none (some (.int ((n - 1) * m - (n - 1) * n / 2))) none) (fVar 2) m 140 := ev_var 2 rfl hm
  have w3 : EV (Ea "pairs" n m none none none (some (.int ((n - 1) * m - (n - 1) * n / 2))) none) (fVar 3) (Pr m) 281 := ev_var 3 rfl (prm hn hm)
  have w4 : EV (Ea "pairs" n m none none none (some (.int ((n - 1) * m - (n - 1) * n / 2))) none) (fVar 4) (n - 1) 141 := ev_var 4 rfl (by omega)
  have w8 := ev_var (env := Ea "pairs" n m none none none (some (.int ((n - 1) * m - (n - 1) * n / 2))) none) 8 rfl j.2
  have e3 := ev_if (t_lt w2 (ev_mul (ev_lit 2 2) w1)) w3 (ev_max (ev_mul w4 (ev_add (ev_mul (ev_lit 2 2) w4) (ev_lit 1 1))) w8)
  refine ⟨fun S => q_start hn hm rfl ?_, (ev_up e3 (by decide)).2⟩
  exact (skp rfl).trans ((skp rfl).trans ((skp rfl).trans (seq_rt ((if_t (S1 := S) rfl).trans ((seq_nx (set_of (i := 8) (j.1 S))).trans (ret_of (e3.1 S)))))))
theorem q_core : (∀ S, w__law_most [.str "core", .int n, .int m] S = some (.int (if m < n then Pr m else (n - 1) * m - (n - 1) * n / 2), S)) ∧ (if m < n then Pr m else (n - 1) * m - (n - 1) * n / 2).natAbs < 2 ^ 1000 := by
  have v1 : EV (Eb "core" n m) (fVar 1) n 140 := ev_var 1 rfl hn
  have v2 : EV (Eb "core" n m) (fVar 2) m 140 := ev_var 2 rfl hm
  have v3 : EV (Eb "core" n m) (fVar 3) (Pr m) 281 := ev_var 3 rfl (prm hn hm)
  have f : EV (Eb "core" n m) (fVar 4) (n - 1) 141 := ev_var 4 rfl (by omega)
  have e3 := ev_if (t_lt v2 v1) v3 (ev_sub (ev_mul f v2) (ev_div (ev_mul f v1) (ev_lit 2 2) (by decide)))
  refine ⟨fun S => q_start hn hm rfl ?_, (ev_up e3 (by decide)).2⟩
  exact (skp rfl).trans ((skp rfl).trans ((skp rfl).trans ((skp rfl).trans (seq_rt ((if_t (S1 := S) rfl).trans (ret_of (e3.1 S)))))))
theorem q_linked : (∀ S, w__law_most [.str "linked", .int n, .int m] S = some (.int (if m ≤ n then Pr m else Pr m - (m - n)), S)) ∧ (if m ≤ n then Pr m else Pr m - (m - n)).natAbs < 2 ^ 1000 := by
  have v1 : EV (Eb "linked" n m) (fVar 1) n 140 := ev_var 1 rfl hn
  have v2 : EV (Eb "linked" n m) (fVar 2) m 140 := ev_var 2 rfl hm
  have v3 : EV (Eb "linked" n m) (fVar 3) (Pr m) 281 := ev_var 3 rfl (prm hn hm)
  have e3 := ev_if (t_le v2 v1) v3 (ev_sub v3 (ev_sub v2 v1))
  refine ⟨fun S => q_start hn hm rfl ?_, (ev_up e3 (by decide)).2⟩
  exact (skp rfl).trans ((skp rfl).trans ((skp rfl).trans ((skp rfl).trans ((skp rfl).trans (seq_rt ((if_t (S1 := S) rfl).trans (ret_of (e3.1 S))))))))
theorem q_ring0 (h0 : m = 0) (S : Sto) : w__law_most [.str "ring", .int n, .int m] S = some (.int 0, S) := by
  subst h0
  exact q_start hn hm rfl ((skp rfl).trans ((skp rfl).trans ((skp rfl).trans ((skp rfl).trans ((skp rfl).trans ((skp rfl).trans ((skp rfl).trans (seq_rt ((if_t (S1 := S) rfl).trans rfl)))))))))
theorem q_ring (h : 3 ≤ n) (h0 : m ≠ 0) : (∀ S, w__law_most [.str "ring", .int n, .int m] S = some (.int ((m - 1) / (n - 1 - 1) * ((n - 1) * (n - 1 - 1) / 2) + (m - 1) % (n - 1 - 1) * ((m - 1) % (n - 1 - 1) + 1) / 2), S)) ∧ ((m - 1) / (n - 1 - 1) * ((n - 1) * (n - 1 - 1) / 2) + (m - 1) % (n - 1 - 1) * ((m - 1) % (n - 1 - 1) + 1) / 2).natAbs < 2 ^ 1000 := by
  have v2 : EV (Eb "ring" n m) (fVar 2) m 140 := ev_var 2 rfl hm
  have f : EV (Eb "ring" n m) (fVar 4) (n - 1) 141 := ev_var 4 rfl (by omega)
  have d := (ev_div (ev_sub v2 (ev_lit 1 1)) (ev_sub f (ev_lit 1 1)) (by omega)).2
  have r := (ev_mod (ev_sub v2 (ev_lit 1 1)) (ev_sub f (ev_lit 1 1)) (by omega)).2
  have w4 : EV (Ea "ring" n m (some (.int ((m - 1) / (n - 1 - 1)))) (some (.int ((m - 1) % (n - 1 - 1)))) none none none) (fVar 4) (n - 1) 141 := ev_var 4 rfl (by omega)
  have w5 := ev_var (env := Ea "ring" n m (some (.int ((m - 1) / (n - 1 - 1)))) (some (.int ((m - 1) % (n - 1 - 1)))) none none none) 5 rfl d
  have e1 := ev_mul w5 (ev_div (ev_mul w4 (ev_sub w4 (ev_lit 1 1))) (ev_lit 2 2) (by decide))
  have w6 := ev_var (env := Ea "ring" n m (some (.int ((m - 1) / (n - 1 - 1)))) (some (.int ((m - 1) % (n - 1 - 1)))) none none (some (.int ((m - 1) / (n - 1 - 1) * ((n - 1) * (n - 1 - 1) / 2))))) 6 rfl r
  have w9 := ev_var (env := Ea "ring" n m (some (.int ((m - 1) / (n - 1 - 1)))) (some (.int ((m - 1) % (n - 1 - 1)))) none none (some (.int ((m - 1) / (n - 1 - 1) * ((n - 1) * (n - 1 - 1) / 2))))) 9 rfl e1.2
  have e3 := ev_add w9 (ev_div (ev_mul w6 (ev_add w6 (ev_lit 1 1))) (ev_lit 2 2) (by decide))
  refine ⟨fun S => q_start hn hm rfl ?_, (ev_up e3 (by decide)).2⟩
  have t : (tOrD (fTest (fBin gEq (fVar 2) (fC (.int 0)))) (fTest (fBin gEq (fVar 0) (fC (.str "even ring"))))) (Eb "ring" n m) S = some (false, S) := by
    rw [or_of (b := false) (S1 := S) (by show some (decide (m = 0), S) = _; rw [decide_eq_false h0])]
    rfl
  exact (skp rfl).trans ((skp rfl).trans ((skp rfl).trans ((skp rfl).trans ((skp rfl).trans ((skp rfl).trans ((skp rfl).trans ((skp t).trans ((seq_nx (dm_of (ev_sub v2 (ev_lit 1 1)) (ev_sub f (ev_lit 1 1)) (by omega))).trans ((seq_nx (set_of (i := 9) (e1.1 S))).trans (ret_of (e3.1 S)))))))))))
end
/-! ## the odd and the even rings -/
section
variable {m : Int} (hm : m.natAbs < 2 ^ 140)
include hm
abbrev Ec (k : Str) (m : Int) : DEnv := [some (.str k), some .non, some (.int m), some (.int (Pr m)), some (.int 0), none, none, none, none, none]
theorem q_startN {k : Str} {S S' : Sto} {r : D} {f : FS}
    (hf : w__law_most = runD 10 (sSeq (sAsg (fBin gFdiv (fBin gMul (fVar 2) (fBin gSubI (fVar 2) (fC (.int 1)))) (fC (.int 2))) (gN 3)) (sSeq (sAsg (fIf (fTest (fBin gIsN (fVar 1) (fC .non))) (fC (.int 0)) (fBin gSubI (fVar 1) (fC (.int 1)))) (gN 4)) f)))
    (h : f (Ec k m) S = some (.rt r, S')) : w__law_most [.str k, .non, .int m] S = some (r, S') := by
  rw [hf]
  have v : EV [some (.str k), some .non, some (.int m), none, none, none, none, none, none, none] (fVar 2) m 140 := ev_var 2 rfl hm
  exact run_of ((seq_nx (set_of (i := 3) ((ev_div (ev_mul v (ev_sub v (ev_lit 1 1))) (ev_lit 2 2) (by decide)).1 S))).trans ((seq_nx (env' := Ec k m) (S1 := S) rfl).trans h))
theorem q_odd : (∀ S, w__law_most [.str "odd ring", .non, .int m] S = some (.int (m / 2 * (m - m / 2)), S)) ∧ (m / 2 * (m - m / 2)).natAbs < 2 ^ 1000 := by
  have v2 : EV (Ec "odd ring" m) (fVar 2) m 140 := ev_var 2 rfl hm
  have e3 := ev_mul (ev_div v2 (ev_lit 2 2) (by decide)) (ev_sub v2 (ev_div v2 (ev_lit 2 2) (by decide)))
  refine ⟨fun S => q_startN hm rfl ?_, (ev_up e3 (by decide)).2⟩
  exact (skp rfl).trans ((skp rfl).trans ((skp rfl).trans ((skp rfl).trans ((skp rfl).trans ((skp rfl).trans (seq_rt ((if_t (S1 := S) rfl).trans (ret_of (e3.1 S)))))))))
theorem q_even : (∀ S, w__law_most [.str "even ring", .non, .int m] S = some (.int ((if 0 > m - 1 then 0 else m - 1) + (if 0 > m - 1 then 0 else m - 1) / 2), S)) ∧ ((if 0 > m - 1 then 0 else m - 1) + (if 0 > m - 1 then 0 else m - 1) / 2).natAbs < 2 ^ 1000 := by
  have v2 : EV (Ec "even ring" m) (fVar 2) m 140 := ev_var 2 rfl hm
  have x := ev_max (ev_sub v2 (ev_lit 1 1)) (ev_lit (env := Ec "even ring" m) 0 1)
  have e3 := ev_add x (ev_div x (ev_lit 2 2) (by decide))
  refine ⟨fun S => q_startN hm rfl ?_, (ev_up e3 (by decide)).2⟩
  have t : (tOrD (fTest (fBin gEq (fVar 2) (fC (.int 0)))) (fTest (fBin gEq (fVar 0) (fC (.str "even ring"))))) (Ec "even ring" m) S = some (true, S) := by
    rw [or_of (b := decide (m = 0)) (S1 := S) rfl]
    cases decide (m = 0) <;> rfl
  exact (skp rfl).trans ((skp rfl).trans ((skp rfl).trans ((skp rfl).trans ((skp rfl).trans ((skp rfl).trans ((skp rfl).trans (seq_rt ((if_t t).trans (ret_of (e3.1 S))))))))))
abbrev Ed (k : Str) (m : Int) : DEnv := [some (.str k), some .non, some (.int m), some (.int (Pr m)), none, none, none]
theorem p_rings {k : Str} (hk : k = "odd ring" ∨ k = "even ring") {S S' : Sto} {r : D} (h : w_most_without_rings [.str k, .non, .int m] S = some (r, S')) : w_most_ties [.str k, .non, .int m] S = some (r, S') := by
  have v : EV [some (.str k), some .non, some (.int m), none, none, none, none] (fVar 2) m 140 := ev_var 2 rfl hm
  refine run_of ((seq_nx (set_of (i := 3) ((ev_pairs v).1 S))).trans ?_)
  have c : (sRet (fCall w_most_without_rings (fCons (fVar 0) (fCons (fVar 1) (fCons (fVar 2) fNil))))) (Ed k m) S = some (.rt r, S') := ret_of (call_of (S1 := S) (ds := [.str k, .non, .int m]) rfl h)
  rcases hk with rfl | rfl
  · exact (skp rfl).trans ((skp rfl).trans ((skp rfl).trans ((skp rfl).trans ((skp rfl).trans ((skp rfl).trans c)))))
  · exact (skp rfl).trans ((skp rfl).trans ((skp rfl).trans ((skp rfl).trans ((skp rfl).trans ((skp rfl).trans c)))))
theorem p_odd (S : Sto) : w_most_ties [.str "odd ring", .non, .int m] S = some (.int (if m = 0 then 0 else m * m / 4), S) := by
  refine p_rings hm (Or.inl rfl) ?_
  by_cases h0 : m = 0
  · rw [if_pos h0]
    subst h0
    exact run_of (seq_rt ((if_t (S1 := S) rfl).trans rfl))
  · rw [if_neg h0]
    have t : (fTest (fBin gEq (fVar 2) (fC (.int 0)))) [some (.str "odd ring"), some .non, some (.int m), none, none] S = some (false, S) := by
      show some (decide (m = 0), S) = _
      rw [decide_eq_false h0]
    have v2 : EV [some (.str "odd ring"), some .non, some (.int m), none, none] (fVar 2) m 140 := ev_var 2 rfl hm
    exact run_of ((skp t).trans (seq_rt ((if_t (S1 := S) rfl).trans (ret_of ((ev_div (ev_mul v2 v2) (ev_lit 4 3) (by decide)).1 S)))))
theorem p_even (S : Sto) : w_most_ties [.str "even ring", .non, .int m] S = some (.int (if m = 0 then 0 else 3 * (m - 1) / 2), S) := by
  refine p_rings hm (Or.inr rfl) ?_
  by_cases h0 : m = 0
  · rw [if_pos h0]
    subst h0
    exact run_of (seq_rt ((if_t (S1 := S) rfl).trans rfl))
  · rw [if_neg h0]
    have t : (fTest (fBin gEq (fVar 2) (fC (.int 0)))) [some (.str "even ring"), some .non, some (.int m), none, none] S = some (false, S) := by
      show some (decide (m = 0), S) = _
      rw [decide_eq_false h0]
    have v2 : EV [some (.str "even ring"), some .non, some (.int m), none, none] (fVar 2) m 140 := ev_var 2 rfl hm
    exact run_of ((skp t).trans ((skp rfl).trans (seq_rt ((if_t (S1 := S) rfl).trans (ret_of ((ev_div (ev_mul (ev_lit 3 2) (ev_sub v2 (ev_lit 1 1))) (ev_lit 2 2) (by decide)).1 S))))))
end
end LW

namespace LW
open PySem PySem.Spec PyProof.Rows L2 TL DL
theorem sm {i : Int} (h : -1000000000000000000000000000000000000000000000 ≤ i) (h2 : i ≤ 1000000000000000000000000000000000000000000000) : smallI i = true := small_le (by omega) (by omega)
theorem prod_le {a b c d : Int} (ha : 0 ≤ a) (hb : 0 ≤ b) (h1 : a ≤ c) (h2 : b ≤ d) : 0 ≤ a * b ∧ a * b ≤ c * d := ⟨Int.mul_nonneg ha hb, Int.mul_le_mul h1 h2 hb (by omega)⟩
/-- a kind with its number, the number unbounded above -/
inductive Tw : Str → D → Int → Prop
  | num {o : Str} {lo n : Int} (h : Ot o lo) (h1 : lo ≤ n) (h2 : n ≤ 100000000000000000000000000000000000000000) : Tw o (.int n) n
  | odd : Tw "odd ring" .non 3
  | even : Tw "even ring" .non 4
def TopV : Int := 1000000000000000000000000000000000000000000000000000000000000000000000000000000000000000000
theorem b140 {z : Int} (h : 0 ≤ z) (h2 : z ≤ 1000000000000000000000000000000000000000000) : z.natAbs < 2 ^ 140 := by
  have : (2 : Nat) ^ 140 = 1393796574908163946345982392040522594123776 := by decide
  omega
/-- the most ties, told alike by the program and by the law -/
theorem mt_both {k : Str} {sz : D} {n m : Int} (hk : Tw k sz n) (hm : 0 ≤ m) (hm2 : m ≤ 1000000000000000000000000000000000000000000) : ∃ b : Int, b.natAbs < 2 ^ 1000 ∧ (∀ S, w__law_most [.str k, sz, .int m] S = some (.int b, S)) ∧ (∀ S, w_most_ties [.str k, sz, .int m] S = some (.int b, S)) ∧ 0 ≤ b ∧ (n ≤ 10000000000000000000000000000000000000000 → m ≤ 10000000000000000000000000000000000000000 → b ≤ TopV) := by
  have m0 := b140 hm hm2
  have bm : m ≤ 10000000000000000000000000000000000000000 → 0 ≤ m * m ∧ m * m ≤ 10000000000000000000000000000000000000000 * 10000000000000000000000000000000000000000 := fun h => prod_le hm hm h h
  have bp : m ≤ 10000000000000000000000000000000000000000 → Pr m ≤ m * m := fun h => by
    have e := Pr2 m
    have e2 : m * (m - 1) = m * m - m := by grind
    have := (bm h).1
    omega
  unfold TopV
  cases hk with
  | @num o lo n ho h1 h2 =>
    have lo1 : 1 ≤ lo := by cases ho <;> decide
    have n0 := b140 (show 0 ≤ n by omega) (show n ≤ 1000000000000000000000000000000000000000000 by omega)
    have bn : n ≤ 10000000000000000000000000000000000000000 → m ≤ 10000000000000000000000000000000000000000 → 0 ≤ m * n ∧ m * n ≤ 10000000000000000000000000000000000000000 * 10000000000000000000000000000000000000000 := fun h h' => prod_le hm (by omega) h' h
    have bq : n ≤ 10000000000000000000000000000000000000000 → 0 ≤ n * n ∧ n * n ≤ 10000000000000000000000000000000000000000 * 10000000000000000000000000000000000000000 := fun h => prod_le (by omega) (by omega) h h
    cases ho with
    | crowd =>
      obtain ⟨x1, x2, x3⟩ := a_crowd h1 hm
      obtain ⟨q1, q2⟩ := q_crowd n0 m0 h1
      exact ⟨_, q2, q1, fun S => by rw [← x1]; exact p_crowd n0 m0 h1 S, by rw [← x1]; exact x2, fun y1 y2 => by rw [← x1]; have := bp y2; have := bm y2; omega⟩
    | star =>
      obtain ⟨x1, x2, x3⟩ := a_star h1 hm
      obtain ⟨q1, q2⟩ := q_star n0 m0
      exact ⟨_, q2, q1, fun S => by rw [← x1]; exact p_star n0 m0 h1 S, x2, fun y1 y2 => by have := bp y2; have := bm y2; omega⟩
    | pairs =>
      obtain ⟨x1, x2, x3⟩ := a_pairs h1 hm
      obtain ⟨q1, q2⟩ := q_pairs n0 m0
      exact ⟨_, q2, q1, fun S => by rw [← x1]; exact p_pairs n0 m0 S, by rw [← x1]; exact x2, fun y1 y2 => by rw [← x1]; have := bp y2; have := bm y2; have := bn y1 y2; have := bq y1; omega⟩
    | row =>
      obtain ⟨x2, x3⟩ := a_row h1 hm
      obtain ⟨q1, q2⟩ := q_row n0 m0 h1
      exact ⟨_, q2, q1, fun S => p_row n0 m0 h1 S, x2, fun y1 y2 => by have := bn y1 y2; omega⟩
    | ring =>
      by_cases hz : m = 0
      · refine ⟨0, by decide, fun S => q_ring0 n0 m0 hz S, fun S => ?_, by decide, fun _ _ => by decide⟩
        have := p_ring n0 m0 h1 S
        rw [if_pos hz] at this
        exact this
      · obtain ⟨x1, x2, x3⟩ := a_ring h1 (show 1 ≤ m by omega)
        obtain ⟨q1, q2⟩ := q_ring n0 m0 h1 hz
        refine ⟨_, q2, q1, fun S => ?_, by rw [← x1]; exact x2, fun y1 y2 => by rw [← x1]; have := bn y1 y2; omega⟩
        have := p_ring n0 m0 h1 S
        rw [if_neg hz, x1] at this
        exact this
    | core =>
      obtain ⟨x1, x2, x3⟩ := a_core h1 hm
      obtain ⟨q1, q2⟩ := q_core n0 m0
      exact ⟨_, q2, q1, fun S => by rw [← x1]; exact p_core n0 m0 S, by rw [← x1]; exact x2, fun y1 y2 => by rw [← x1]; have := bp y2; have := bm y2; have := bn y1 y2; omega⟩
    | linked =>
      obtain ⟨x1, x2, x3⟩ := a_linked h1 hm
      obtain ⟨q1, q2⟩ := q_linked n0 m0
      exact ⟨_, q2, q1, fun S => by rw [← x1]; exact p_linked n0 m0 S, by rw [← x1]; exact x2, fun y1 y2 => by rw [← x1]; have := bp y2; have := bm y2; omega⟩
  | odd =>
    obtain ⟨x1, x2, x3⟩ := a_odd hm
    obtain ⟨q1, q2⟩ := q_odd m0
    refine ⟨_, q2, q1, fun S => ?_, x2, fun y1 y2 => by have := bm y2; omega⟩
    have := p_odd m0 S
    rw [this, ← x1]
    split
    · rename_i hz; subst hz; rfl
    · rfl
  | even =>
    obtain ⟨q1, q2⟩ := q_even m0
    by_cases hz : m = 0
    · refine ⟨_, q2, q1, fun S => ?_, by subst hz; decide, fun _ _ => by subst hz; decide⟩
      rw [p_even m0 S, if_pos hz]
      subst hz
      rfl
    · obtain ⟨x1, x2, x3⟩ := a_even (show 1 ≤ m by omega)
      refine ⟨_, q2, q1, fun S => ?_, by rw [← x1]; exact x2, fun y1 y2 => by rw [← x1]; omega⟩
      rw [p_even m0 S, if_neg hz, x1]
end LW

namespace LW
open PySem PySem.Spec PyProof.Rows L2 TL DL
/-! ## values in the place of numbers -/
inductive Val : D → Prop
  | non : Val .non
  | int (z : Int) : Val (.int z)
  | bl (b : Bool) : Val (.bl b)
  | str (x : Str) : Val (.str x)
  | tup (ds : List D) : Val (.tup ds)
  | lst (ds : List D) : Val (.lst ds)
  | dct (ks : List Key) (vs : List D) : Val (.dct ks vs)
def isI : D → Bool
  | .int _ => true
  | _ => false
def inI : D → Int → Int → Bool
  | .int z, lo, hi => decide (lo ≤ z) && decide (z ≤ hi)
  | _, _, _ => false
theorem inI_int {d : D} {lo hi : Int} (h : inI d lo hi = true) : ∃ z, d = .int z ∧ lo ≤ z ∧ z ≤ hi := by
  cases d with
  | int z =>
    have : (decide (lo ≤ z) && decide (z ≤ hi)) = true := h
    simp only [Bool.and_eq_true, decide_eq_true_eq] at this
    exact ⟨z, rfl, this⟩
  | _ => cases h
theorem integer_ok {d : D} (h : Val d) (S : Sto) : w_is_integer [d] S = some (.bl (isI d), S) := by cases h <;> rfl
theorem between_ok {d : D} (h : Val d) (lo hi : Int) (S : Sto) : w_is_between [d, .int lo, .int hi] S = some (.bl (inI d lo hi), S) := by
  refine run_of (ret_of ?_)
  rw [vand_of (b := isI d) (S1 := S) (call_of (S1 := S) (ds := [d]) rfl (integer_ok h S))]
  cases h with
  | int z =>
    rw [show isI (.int z) = true from rfl, if_pos rfl, chain_of (S1 := S) (S2 := S) (x := .int lo) (y := .int z) rfl rfl (b := decide (lo ≤ z)) (S3 := S) rfl]
    show _ = some (D.bl (decide (lo ≤ z) && decide (z ≤ hi)), S)
    cases decide (lo ≤ z) <;> rfl
  | _ => rfl
theorem lawis_ok {d : D} (h : Val d) (lo hi : Int) (S : Sto) : w__law_is [d, .int lo, .int hi] S = some (.bl (inI d lo hi), S) := by
  refine run_of (ret_of ?_)
  cases h with
  | int z =>
    rw [vand_of (b := true) (S1 := S) rfl, if_pos rfl, vand_of (b := true) (S1 := S) rfl, if_pos rfl, vand_of (b := decide (lo ≤ z)) (S1 := S) rfl]
    show _ = some (D.bl (decide (lo ≤ z) && decide (z ≤ hi)), S)
    cases decide (lo ≤ z) <;> rfl
  | _ => rfl
/-! ## accepts -/
theorem acc_start {t1 : Str} {c many told d1 : D} {S : Sto} {P : D → Sto → Prop} (h1 : w_thing_of [.str t1] S = some (d1, S)) (hd : isNonD d1 = false)
    (h : R (fAnd (fBin gIsN (fVar 1) (fC .non)) (fCall w_is_number (fCons (fVar 2) (fCons (fVar 4) (fCons (fBin gIx (fVar 0) (fC (.int 2))) (fCons (fBin gIx (fVar 3) (fC (.int 0))) fNil))))) [some (.tup [.str "most", .str t1, many, told]), some c, some (.str "most"), some (.tup [told]), some d1, none] S) P) :
    R (w_accepts [.tup [.str "most", .str t1, many, told], c] S) P := by
  refine r_run ?_
  refine r_nx (S1 := S) rfl ?_
  refine r_nx (env' := [some (.tup [.str "most", .str t1, many, told]), some c, some (.str "most"), some (.tup [told]), none, none]) (S1 := S) rfl ?_
  refine r_nx (S1 := S) rfl ?_
  refine r_nx (S1 := S) rfl ?_
  refine r_nx (set_of (i := 4) (call_of (S1 := S) (ds := [.str t1]) rfl h1)) ?_
  have t5 : (fTest (fBin gIsN (fVar 4) (fC .non))) [some (.tup [.str "most", .str t1, many, told]), some c, some (.str "most"), some (.tup [told]), some d1, none] S = some (false, S) := by
    show some (isNonD d1, S) = _
    rw [hd]
  refine r_nx ((if_f t5).trans rfl) ?_
  refine r_seq (r_ifT (S1 := S) rfl (r_ret ?_))
  exact h.imp fun a S p => p
theorem acc_bad {t1 : Str} {c many told : D} {S : Sto} (h1 : w_thing_of [.str t1] S = some (.non, S)) : w_accepts [.tup [.str "most", .str t1, many, told], c] S = some (.bl false, S) := by
  refine R.eq ?_
  refine r_run ?_
  refine r_nx (S1 := S) rfl ?_
  refine r_nx (env' := [some (.tup [.str "most", .str t1, many, told]), some c, some (.str "most"), some (.tup [told]), none, none]) (S1 := S) rfl ?_
  refine r_nx (S1 := S) rfl ?_
  refine r_nx (S1 := S) rfl ?_
  refine r_nx (set_of (i := 4) (call_of (S1 := S) (ds := [.str t1]) rfl h1)) ?_
  exact r_seq (r_ifT (S1 := S) rfl (R.of rfl ⟨rfl, rfl⟩))
theorem acc_paper {t1 : Str} {c many told d1 : D} {S : Sto} (h1 : w_thing_of [.str t1] S = some (d1, S)) (hd : isNonD d1 = false) (hc : isNonD c = false) : w_accepts [.tup [.str "most", .str t1, many, told], c] S = some (.bl false, S) := by
  refine R.eq (acc_start h1 hd (R.of ?_ ⟨rfl, rfl⟩))
  rw [vand_of (b := false) (S1 := S) (by show some (D.bl (isNonD c), S) = _; rw [hc])]
  rfl
theorem acc_num {t1 : Str} {many told d1 : D} {S S' : Sto} {r : D} (h1 : w_thing_of [.str t1] S = some (d1, S)) (hd : isNonD d1 = false) (h : w_is_number [.str "most", d1, many, told] S = some (r, S')) : w_accepts [.tup [.str "most", .str t1, many, told], .non] S = some (r, S') := by
  refine R.eq (acc_start h1 hd (R.of ?_ ⟨rfl, rfl⟩))
  rw [vand_of (b := true) (S1 := S) rfl, if_pos rfl]
  exact call_of (S1 := S) (ds := [.str "most", d1, many, told]) rfl h
/-! ## is_number -/
theorem num_test {k : Str} {sz many told : D} (hm : Val many) (ht : Val told) (S : Sto) :
    (tOrD (tNotD (fTest (fCall w_is_between (fCons (fVar 2) (fCons (fC (.int 0)) (fCons (fC (.int 10000000000000000000000000000000000000000)) fNil)))))) (tAndD (fTest (fBin gNotN (fVar 3) (fC .non))) (tNotD (fTest (fCall w_is_integer (fCons (fVar 3) fNil)))))) [some (.str "most"), some (.tup [.str k, sz]), some many, some told, none, none] S
      = some (!inI many 0 10000000000000000000000000000000000000000 || (!isNonD told && !isI told), S) := by
  have h1 : (tNotD (fTest (fCall w_is_between (fCons (fVar 2) (fCons (fC (.int 0)) (fCons (fC (.int 10000000000000000000000000000000000000000)) fNil)))))) [some (.str "most"), some (.tup [.str k, sz]), some many, some told, none, none] S = some (!inI many 0 10000000000000000000000000000000000000000, S) :=
    tnot_of (test_of (call_of (S1 := S) (ds := [many, .int 0, .int 10000000000000000000000000000000000000000]) rfl (between_ok hm _ _ S)))
  have h2 : (tNotD (fTest (fCall w_is_integer (fCons (fVar 3) fNil)))) [some (.str "most"), some (.tup [.str k, sz]), some many, some told, none, none] S = some (!isI told, S) := tnot_of (test_of (call_of (S1 := S) (ds := [told]) rfl (integer_ok ht S)))
  have h3 : (fTest (fBin gNotN (fVar 3) (fC .non))) [some (.str "most"), some (.tup [.str k, sz]), some many, some told, none, none] S = some (!isNonD told, S) := rfl
  rw [or_of h1]
  cases inI many 0 10000000000000000000000000000000000000000 with
  | false => rfl
  | true =>
    show tAndD _ _ _ S = _
    rw [and_of h3]
    cases isNonD told with
    | true => rfl
    | false => exact h2
def eqV : D → D → Bool
  | .int i, .int j => decide (i = j)
  | .non, .non => true
  | _, _ => false
theorem geq_ok {a b : D} (ha : a = .non ∨ ∃ z, a = .int z) (hb : b = .non ∨ ∃ z, b = .int z) (S : Sto) : gEq a b S = some (.bl (eqV a b), S) := by
  rcases ha with rfl | ⟨z, rfl⟩ <;> rcases hb with rfl | ⟨y, rfl⟩ <;> rfl
theorem number_no {k : Str} {sz many told : D} (hm : Val many) (ht : Val told) (S : Sto) (h : (!inI many 0 10000000000000000000000000000000000000000 || (!isNonD told && !isI told)) = true) : w_is_number [.str "most", .tup [.str k, sz], many, told] S = some (.bl false, S) := by
  have t := num_test (k := k) (sz := sz) hm ht S
  rw [h] at t
  exact run_of (seq_rt ((if_t t).trans rfl))
theorem number_yes {k : Str} {sz many told r : D} {S S' : Sto} (hm : Val many) (ht : Val told) (h : (!inI many 0 10000000000000000000000000000000000000000 || (!isNonD told && !isI told)) = false) (ha : told = .non ∨ ∃ z, told = .int z) (hb : r = .non ∨ ∃ z, r = .int z)
    (hl : w_most_ties [.str k, sz, many] S = some (r, S')) : w_is_number [.str "most", .tup [.str k, sz], many, told] S = some (.bl (eqV told r), S') := by
  have t := num_test (k := k) (sz := sz) hm ht S
  rw [h] at t
  refine run_of ((seq_nx ((if_f t).trans rfl)).trans ((seq_nx (env' := [some (.str "most"), some (.tup [.str k, sz]), some many, some told, some (.str k), some sz]) (S1 := S) rfl).trans (ret_of (bin_of (S1 := S) (S2 := S') (x := told) (y := r) rfl (if_of (b := true) (S1 := S) rfl ?_) (geq_ok ha hb S')))))
  exact call_of (S1 := S) (ds := [.str k, sz, many]) rfl hl
theorem number_all {k : Str} {sz told : D} {m b : Int} {S S' : Sto} (h0 : 0 ≤ m) (h1 : m ≤ 10000000000000000000000000000000000000000) (ht : Val told) (hl : w_most_ties [.str k, sz, .int m] S = some (.int b, S)) : w_is_number [.str "most", .tup [.str k, sz], .int m, told] S = some (.bl (eqV told (.int b)), S) := by
  have hi : inI (.int m) 0 10000000000000000000000000000000000000000 = true := by
    show (decide (0 ≤ m) && decide (m ≤ 10000000000000000000000000000000000000000)) = true
    rw [decide_eq_true h0, decide_eq_true h1]
    rfl
  cases ht with
  | non => exact number_yes (.int m) .non (by rw [hi]; rfl) (Or.inl rfl) (Or.inr ⟨b, rfl⟩) hl
  | int z => exact number_yes (.int m) (.int z) (by rw [hi]; rfl) (Or.inr ⟨z, rfl⟩) (Or.inr ⟨b, rfl⟩) hl
  | bl z => exact number_no (.int m) (.bl z) S (by rw [hi]; rfl)
  | str z => exact number_no (.int m) (.str z) S (by rw [hi]; rfl)
  | tup z => exact number_no (.int m) (.tup z) S (by rw [hi]; rfl)
  | lst z => exact number_no (.int m) (.lst z) S (by rw [hi]; rfl)
  | dct z y => exact number_no (.int m) (.dct z y) S (by rw [hi]; rfl)
/-! ## the law's due -/
theorem due_size {k : Str} {lo n : Int} {many told paper : D} (hle : ∀ S, w__law_least [.str k] S = some (.int lo, S)) (S : Sto) (h : inI (.int n) lo 10000000000000000000000000000000000000000 = false) : w__law_due [.str k, .int n, many, told, paper] S = some (.bl false, S) := by
  refine run_of (seq_rt ((if_t (S1 := S) ?_).trans rfl))
  rw [and_of (b := true) (S1 := S) rfl, if_pos rfl]
  have := call_of (g := w__law_is) (fas := (fCons (fVar 1) (fCons (fCall w__law_least (fCons (fVar 0) fNil)) (fCons (fBin gPow (fC (.int 10)) (fC (.int 40))) fNil)))) (env := [some (.str k), some (.int n), some many, some told, some paper]) (S := S) (S1 := S) (ds := [.int n, .int lo, .int 10000000000000000000000000000000000000000]) (cons_of (S1 := S) rfl (cons_of (S1 := S) (call_of (S1 := S) (ds := [.str k]) rfl (hle S)) rfl)) (lawis_ok (.int n) _ _ S)
  rw [h] at this
  exact tnot_of (b := false) (test_of this)
theorem due_first {k : Str} {sz : D} {n : Int} {many told paper : D} (hk : Tw k sz n) (hn : n ≤ 10000000000000000000000000000000000000000) (S : Sto) :
    (tAndD (fTest (fBin gNotN (fVar 1) (fC .non))) (tNotD (fTest (fCall w__law_is (fCons (fVar 1) (fCons (fCall w__law_least (fCons (fVar 0) fNil)) (fCons (fBin gPow (fC (.int 10)) (fC (.int 40))) fNil))))))) [some (.str k), some sz, some many, some told, some paper] S = some (false, S) := by
  cases hk with
  | @num o lo n ho h1 h2 =>
    obtain ⟨_, _, hle⟩ := ho.kind
    rw [and_of (b := true) (S1 := S) rfl, if_pos rfl]
    have := call_of (g := w__law_is) (fas := (fCons (fVar 1) (fCons (fCall w__law_least (fCons (fVar 0) fNil)) (fCons (fBin gPow (fC (.int 10)) (fC (.int 40))) fNil)))) (env := [some (.str k), some (.int n), some many, some told, some paper]) (S := S) (S1 := S) (ds := [.int n, .int lo, .int 10000000000000000000000000000000000000000]) (cons_of (S1 := S) rfl (cons_of (S1 := S) (call_of (S1 := S) (ds := [.str k]) rfl (hle S)) rfl)) (lawis_ok (.int n) _ _ S)
    rw [show inI (.int n) lo 10000000000000000000000000000000000000000 = true by show (decide (lo ≤ n) && decide (n ≤ 10000000000000000000000000000000000000000)) = true; rw [decide_eq_true h1, decide_eq_true hn]; rfl] at this
    exact tnot_of (b := true) (test_of this)
  | odd => rfl
  | even => rfl
theorem due_second {k : Str} {sz : D} {many told paper : D} (hm : Val many) (ht : Val told) (S : Sto) :
    (tOrD (fTest (fBin gNotN (fVar 4) (fC .non))) (tOrD (tNotD (fTest (fCall w__law_is (fCons (fVar 2) (fCons (fC (.int 0)) (fCons (fBin gPow (fC (.int 10)) (fC (.int 40))) fNil)))))) (tNotD (fTest (fCall w__law_is (fCons (fVar 3) (fCons (fC (.int 0)) (fCons (fBin gMul (fBin gPow (fC (.int 10)) (fC (.int 50))) (fBin gPow (fC (.int 10)) (fC (.int 40)))) fNil)))))))) [some (.str k), some sz, some many, some told, some paper] S = some (!isNonD paper || (!inI many 0 10000000000000000000000000000000000000000 || !inI told 0 TopV), S) := by
  have h3 : (fTest (fBin gNotN (fVar 4) (fC .non))) [some (.str k), some sz, some many, some told, some paper] S = some (!isNonD paper, S) := rfl
  have h4 : (tNotD (fTest (fCall w__law_is (fCons (fVar 2) (fCons (fC (.int 0)) (fCons (fBin gPow (fC (.int 10)) (fC (.int 40))) fNil)))))) [some (.str k), some sz, some many, some told, some paper] S = some (!inI many 0 10000000000000000000000000000000000000000, S) := tnot_of (test_of (call_of (S1 := S) (ds := [many, .int 0, .int 10000000000000000000000000000000000000000]) rfl (lawis_ok hm _ _ S)))
  have h5 : (tNotD (fTest (fCall w__law_is (fCons (fVar 3) (fCons (fC (.int 0)) (fCons (fBin gMul (fBin gPow (fC (.int 10)) (fC (.int 50))) (fBin gPow (fC (.int 10)) (fC (.int 40)))) fNil)))))) [some (.str k), some sz, some many, some told, some paper] S = some (!inI told 0 TopV, S) := by
    refine tnot_of (test_of (call_of (S1 := S) (ds := [told, .int 0, .int TopV]) (cons_of (S1 := S) rfl (cons_of (S1 := S) rfl (cons_of (S1 := S) ?_ rfl))) (lawis_ok ht _ _ S)))
    refine (bin_of (S1 := S) (S2 := S) (x := .int 100000000000000000000000000000000000000000000000000) (y := .int 10000000000000000000000000000000000000000) rfl rfl (mul_ok (small_le (by omega) (by omega)) (small_le (by omega) (by omega)) S)).trans ?_
    rfl
  rw [or_of h3]
  cases isNonD paper with
  | false => rfl
  | true =>
    show tOrD _ _ _ S = _
    rw [or_of h4]
    cases inI many 0 10000000000000000000000000000000000000000 with
    | false => rfl
    | true => exact h5
theorem due_no {k : Str} {sz : D} {n : Int} {many told paper : D} (hk : Tw k sz n) (hn : n ≤ 10000000000000000000000000000000000000000) (hm : Val many) (ht : Val told) (S : Sto) (h : (!isNonD paper || (!inI many 0 10000000000000000000000000000000000000000 || !inI told 0 TopV)) = true) : w__law_due [.str k, sz, many, told, paper] S = some (.bl false, S) := by
  have t := due_second (k := k) (sz := sz) (told := told) (paper := paper) hm ht S
  rw [h] at t
  exact run_of ((skp (due_first hk hn S)).trans (seq_rt ((if_t t).trans rfl)))
theorem due_yes {k : Str} {sz : D} {n : Int} {many told paper : D} {b : Int} (hk : Tw k sz n) (hn : n ≤ 10000000000000000000000000000000000000000) (hm : Val many) (ht : Val told) (S : Sto) (h : (!isNonD paper || (!inI many 0 10000000000000000000000000000000000000000 || !inI told 0 TopV)) = false)
    (hl : w__law_most [.str k, sz, many] S = some (.int b, S)) : w__law_due [.str k, sz, many, told, paper] S = some (.bl (eqV told (.int b)), S) := by
  have t := due_second (k := k) (sz := sz) (told := told) (paper := paper) hm ht S
  rw [h] at t
  have hi : inI told 0 TopV = true := by
    simp only [Bool.or_eq_false_iff, Bool.not_eq_false'] at h
    exact h.2.2
  obtain ⟨z, rfl, _, _⟩ := inI_int hi
  exact run_of ((skp (due_first hk hn S)).trans ((skp t).trans (ret_of (bin_of (S1 := S) (S2 := S) (x := .int z) (y := .int b) rfl (call_of (S1 := S) (ds := [.str k, sz, many]) rfl hl) rfl))))
theorem agrees_of {cl c : D} {b : Bool} {S S' : Sto} (h : w_accepts [cl, c] S = some (.bl b, S')) : w__law_agrees [cl, c, .bl b] S = some (.bl true, S') := by
  refine run_of ?_
  refine (seq_nx (set_of (i := 3) (call_of (S1 := S) (ds := [cl, c]) rfl h))).trans ?_
  refine ret_of ?_
  show some (D.bl (decide (b = b)), S') = _
  rw [decide_eq_true rfl]
/-! ## judged -/
theorem judged_of {k t1 : Str} {sz many told paper : D} {b : Bool} {S S' : Sto} (hw : w__law_word [.str k, sz] S = some (.str t1, S)) (hd : w__law_due [.str k, sz, many, told, paper] S = some (.bl b, S)) (ha : w_accepts [.tup [.str "most", .str t1, many, told], paper] S = some (.bl b, S')) :
    w__law_judged [.str k, sz, many, told, paper] S = some (.bl true, S') :=
  run_of ((seq_nx (set_of (i := 5) (tup_of (cons_of (S1 := S) rfl (cons_of (S1 := S) (call_of (S1 := S) (ds := [.str k, sz]) rfl hw) (cons_of (S1 := S) rfl rfl))) (by simp)))).trans
    (ret_of (call_of (S1 := S) (ds := [.tup [.str "most", .str t1, many, told], paper, .bl b]) (cons_of (S1 := S) rfl (cons_of (S1 := S) rfl (cons_of (S1 := S) (call_of (S1 := S) (ds := [.str k, sz, many, told, paper]) rfl hd) rfl))) (agrees_of ha))))
/-- a kind with any number: below what is allowed, in it, above it -/
inductive Tx : Str → D → Prop
  | num {o : Str} {lo n : Int} (h : Ot o lo) (h1 : 0 ≤ n) (h2 : n < 100000000000000000000000000000000000000000) : Tx o (.int n)
  | odd : Tx "odd ring" .non
  | even : Tx "even ring" .non
theorem good {k t1 : Str} {sz : D} {n : Int} {many told paper : D} (hk : Tw k sz n) (hn : n ≤ 10000000000000000000000000000000000000000) (hm : Val many) (ht : Val told) (hw : ∀ S, w__law_word [.str k, sz] S = some (.str t1, S)) (h1 : ∀ S, w_thing_of [.str t1] S = some (.tup [.str k, sz], S)) (S : Sto) :
    R (w__law_judged [.str k, sz, many, told, paper] S) fun d S' => d = .bl true ∧ Grow S S' := by
  cases hp : isNonD paper with
  | false => exact R.of (judged_of (hw S) (due_no hk hn hm ht S (by rw [hp]; rfl)) (acc_paper (h1 S) rfl hp)) ⟨rfl, Grow.refl _⟩
  | true =>
    have hpn : paper = .non := by cases paper <;> first | rfl | cases hp
    subst hpn
    cases hi : inI many 0 10000000000000000000000000000000000000000 with
    | false => exact R.of (judged_of (hw S) (due_no hk hn hm ht S (by rw [hi]; rfl)) (acc_num (h1 S) rfl (number_no hm ht S (by rw [hi]; rfl)))) ⟨rfl, Grow.refl _⟩
    | true =>
      obtain ⟨m, rfl, m1, m2⟩ := inI_int hi
      obtain ⟨b, _, hl, hg, b0, b1⟩ := mt_both hk m1 (show m ≤ 1000000000000000000000000000000000000000000 by omega)
      have b1 := b1 hn m2
      have a := acc_num (S := S) (h1 S) rfl (number_all (S' := S) m1 m2 ht (hg S))
      cases ht2 : inI told 0 TopV with
      | true =>
        have hdue := due_yes (told := told) (paper := .non) hk hn hm ht S (by rw [hi, ht2]; rfl) (hl S)
        exact R.of (judged_of (hw S) hdue a) ⟨rfl, Grow.refl _⟩
      | false =>
        have hdue := due_no (told := told) (paper := .non) hk hn hm ht S (by rw [hi, ht2]; rfl)
        have : eqV told (.int b) = false := by
          cases ht with
          | int z =>
            show decide (z = b) = false
            refine decide_eq_false fun e => ?_
            subst e
            have : (decide (0 ≤ z) && decide (z ≤ TopV)) = false := ht2
            rw [decide_eq_true b0, decide_eq_true b1] at this
            cases this
          | _ => rfl
        rw [this] at a
        exact R.of (judged_of (hw S) hdue a) ⟨rfl, Grow.refl _⟩
theorem judged_ok {k : Str} {sz many told paper : D} (hk : Tx k sz) (hm : Val many) (ht : Val told) (S : Sto) : R (w__law_judged [.str k, sz, many, told, paper] S) fun d S' => d = .bl true ∧ Grow S S' := by
  cases hk with
  | @num o lo n ho h1 h2 =>
    obtain ⟨hn, hlo, hle⟩ := ho.kind
    obtain ⟨j, rfl⟩ : ∃ j : Nat, n = (j : Int) := ⟨n.toNat, by omega⟩
    have hl := numL41 (n := j) (by omega)
    have w2 := word_num hn.len j hl (by omega)
    have r2 := thing_word hn j hl
    by_cases hv : lo ≤ (j : Int) ∧ (j : Int) ≤ 10000000000000000000000000000000000000000
    · refine good (.num ho hv.1 (by omega)) hv.2 hm ht w2 (fun S => ?_) S
      have := r2 S
      rw [if_pos hv] at this
      exact this
    · have r3 := r2 S
      rw [if_neg hv] at r3
      refine R.of (judged_of (w2 S) (due_size hle S ?_) (acc_bad r3)) ⟨rfl, Grow.refl _⟩
      show (decide (lo ≤ (j : Int)) && decide ((j : Int) ≤ 10000000000000000000000000000000000000000)) = false
      rw [← Bool.decide_and]
      exact decide_eq_false hv
  | odd => exact good .odd (by decide) hm ht (word_non _) thing_odd S
  | even => exact good .even (by decide) hm ht (word_non _) thing_even S
end LW

namespace LW
open PySem PySem.Spec PyProof.Rows L2 TL DL
theorem some_number {S : Sto} {i n : Nat} (h : Stk S i n) (hn : n ≤ 2000) : R (w__law_some_number [.ref i] S) fun d S' => ∃ z, d = .int z ∧ 0 ≤ z ∧ z ≤ 10000000000000000000000000000000000000002 ∧ Stk S' i (n + 5) := by
  refine r_run (r_seq (r_set (r_call (S1 := S) (ds := [.ref i, .int 4]) rfl (r_take h (by omega) (by decide) (by decide) fun f S1 f0 f1 h1 _ => ?_))))
  show R (sSeq _ _ [some (.ref i), some (.int f), none, none, none] S1) _
  rcases (by omega : f = 0 ∨ f = 1 ∨ f = 3 ∨ f = 2) with rfl | rfl | rfl | rfl
  · refine r_seq (r_ifT (S1 := S1) rfl (r_ret (r_call (S1 := S1) (ds := [.ref i, .int 13]) rfl (r_take h1 (by omega) (by decide) (by decide) fun r S2 r0 r1 h2 _ => ?_))))
    exact ⟨r, rfl, r0, by omega, h2.mono (by omega)⟩
  · refine r_seq (r_ifT (S1 := S1) rfl (r_ret (r_call (S1 := S1) (ds := [.ref i, .int 13]) rfl (r_take h1 (by omega) (by decide) (by decide) fun r S2 r0 r1 h2 _ => ?_))))
    exact ⟨r, rfl, r0, by omega, h2.mono (by omega)⟩
  · refine r_nx (S1 := S1) rfl (r_seq (r_ifT (S1 := S1) rfl (r_ret (r_bin (R.of (a := .int 10000000000000000000000000000000000000002) (S1 := S1) rfl (r_call (S1 := S1) (ds := [.ref i, .int 5]) rfl (r_take h1 (by omega) (by decide) (by decide) fun r S2 r0 r1 h2 _ => R.of rfl ?_)))))))
    exact ⟨_, rfl, by omega, by omega, h2.mono (by omega)⟩
  · refine r_nx (S1 := S1) rfl (r_nx (S1 := S1) rfl (r_seq (r_set (r_bin (R.of (a := .lst [.int 100, .int 10000, .int 1000000000, .int 100000000000000000000, .int 1000000000000000000000000000000, .int 10000000000000000000000000000000000000000]) (S1 := S1) rfl (r_call (S1 := S1) (ds := [.ref i, .int 6]) rfl (r_take h1 (by omega) (by decide) (by decide) fun t S2 t0 t1 h2 _ => ?_)))))))
    have fin : ∀ b : Int, 0 < b → b ≤ 10000000000000000000000000000000000000000 → R (sSeq (sPar 3 4 (fCons (fCall w__law_take (fCons (fVar 0) (fCons (fBin gPow (fC (.int 10)) (fC (.int 14))) fNil))) (fCons (fCall w__law_take (fCons (fVar 0) (fCons (fBin gPow (fC (.int 10)) (fC (.int 14))) fNil))) fNil)))
    (sRet (fBin gMod (fCall cInt (fCons (fBin gAdd (fBin gAdd (fBin gMul (fVar 3) (fBin gPow (fC (.int 10)) (fC (.int 26)))) (fBin gMul (fVar 4) (fBin gPow (fC (.int 10)) (fC (.int 12))))) (fCall w__law_take (fCons (fVar 0) (fCons (fBin gPow (fC (.int 10)) (fC (.int 12))) fNil)))) fNil)) (fVar 2))) [some (.ref i), some (.int 2), some (.int b), none, none] S2) (PRun fun d S' => ∃ z, d = .int z ∧ 0 ≤ z ∧ z ≤ 10000000000000000000000000000000000000002 ∧ Stk S' i (n + 5)) := by
      intro b hb hb2
      refine r_seq (r_par (r_cons (r_call (S1 := S2) (ds := [.ref i, .int 100000000000000]) rfl (r_take h2 (by omega) (by decide) (by decide) fun x S3 x0 x1 h3 _ => r_cons (r_call (S1 := S3) (ds := [.ref i, .int 100000000000000]) rfl (r_take h3 (by omega) (by decide) (by decide) fun y S4 y0 y1 h4 _ => r_nil ⟨_, _, rfl, ?_⟩))))))
      show R (sRet _ [some (.ref i), some (.int 2), some (.int b), some (.int x), some (.int y)] S4) _
      refine r_ret (r_bin (r_callA (r_cons (r_bin (R.of (a := .int (x * 100000000000000000000000000 + y * 1000000000000)) (S1 := S4) ?_ ?_)))))
      · exact bin_of (S1 := S4) (S2 := S4) (x := .int (x * 100000000000000000000000000)) (y := .int (y * 1000000000000)) (bin_of (S1 := S4) (S2 := S4) (x := .int x) (y := .int 100000000000000000000000000) rfl rfl (mul_ok (small_le (by omega) (by omega)) (small_le (by omega) (by omega)) S4)) (bin_of (S1 := S4) (S2 := S4) (x := .int y) (y := .int 1000000000000) rfl rfl (mul_ok (small_le (by omega) (by omega)) (small_le (by omega) (by omega)) S4)) rfl
      · refine r_call (S1 := S4) (ds := [.ref i, .int 1000000000000]) rfl (r_take h4 (by omega) (by decide) (by decide) fun z S5 z0 z1 h5 _ => ?_)
        refine R.of (a := .int (x * 100000000000000000000000000 + y * 1000000000000 + z)) (S1 := S5) rfl ?_
        refine r_nil ?_
        refine R.of (a := .int (x * 100000000000000000000000000 + y * 1000000000000 + z)) (S1 := S5) rfl ?_
        refine R.of (a := .int b) (S1 := S5) rfl ?_
        refine R.of (mod_ok hb S5) ?_
        refine ⟨_, rfl, Int.emod_nonneg _ (by omega), ?_, h5.mono (by omega)⟩
        have := Int.emod_lt_of_pos (x * 100000000000000000000000000 + y * 1000000000000 + z) hb
        omega
    rcases (by omega : t = 0 ∨ t = 1 ∨ t = 2 ∨ t = 3 ∨ t = 4 ∨ t = 5) with rfl | rfl | rfl | rfl | rfl | rfl
    · exact R.of (a := .int 100) (S1 := S2) rfl (fin _ (by decide) (by decide))
    · exact R.of (a := .int 10000) (S1 := S2) rfl (fin _ (by decide) (by decide))
    · exact R.of (a := .int 1000000000) (S1 := S2) rfl (fin _ (by decide) (by decide))
    · exact R.of (a := .int 100000000000000000000) (S1 := S2) rfl (fin _ (by decide) (by decide))
    · exact R.of (a := .int 1000000000000000000000000000000) (S1 := S2) rfl (fin _ (by decide) (by decide))
    · exact R.of (a := .int 10000000000000000000000000000000000000000) (S1 := S2) rfl (fin _ (by decide) (by decide))
theorem many_num {z : Int} (z0 : 0 ≤ z) (z1 : z ≤ 10000000000000000000000000000000000000002) {S : Sto} {i n : Nat} (h : Stk S i n) (hn : n ≤ 1000) : R (w__law_some_many [.ref i, .int z] S) fun d S' => ∃ z, d = .int z ∧ -2 ≤ z ∧ z ≤ 1000000000000000000000000000000000000000000 ∧ Stk S' i (n + 6) := by
  refine r_run (r_seq (r_if (r_or (R.of (a := false) (S1 := S) rfl ?_))))
  rw [if_neg (by decide)]
  refine r_test (r_bin (r_call (S1 := S) (ds := [.ref i, .int 3]) rfl (r_take h (by omega) (by decide) (by decide) fun f S1 f0 f1 h1 _ => R.of (a := .int 0) (S1 := S1) rfl (R.of (a := .bl (decide (f = 0))) (S1 := S1) rfl ⟨_, rfl, ?_⟩))))
  by_cases hf0 : f = 0
  · rw [if_pos (decide_eq_true hf0)]
    refine r_ret (r_call (S1 := S1) (ds := [.ref i]) rfl ((some_number h1 (by omega)).imp fun d S2 hz => ?_))
    obtain ⟨z, rfl, z0, z1, h2⟩ := hz
    exact ⟨z, rfl, by omega, by omega, h2⟩
  · rw [if_neg (by simp [hf0])]
    refine r_skip ?_
    show R (sSeq _ _ [some (.ref i), some (.int z), none] S1) _
    refine r_seq (r_set (r_bin (R.of (a := .lst [.int 0, .int 1, .int 1, .int 2, .int 2, .int 3, .int 5, .int 10]) (S1 := S1) rfl (r_call (S1 := S1) (ds := [.ref i, .int 8]) rfl (r_take h1 (by omega) (by decide) (by decide) fun t S2 t0 t1 h2 _ => ?_)))))
    have fin : ∀ b : Int, 0 ≤ b → b ≤ 10 → R (sRet (fBin gSubI (fBin gAdd (fBin gMul (fVar 2) (fVar 1)) (fC (.int 2))) (fCall w__law_take (fCons (fVar 0) (fCons (fC (.int 5)) fNil)))) [some (.ref i), some (.int z), some (.int b)] S2) (PRun fun d S' => ∃ z, d = .int z ∧ -2 ≤ z ∧ z ≤ 1000000000000000000000000000000000000000000 ∧ Stk S' i (n + 6)) := by
      intro b hb hb2
      refine r_ret (r_bin (R.of (a := .int (b * z + 2)) (S1 := S2) ?_ (r_call (S1 := S2) (ds := [.ref i, .int 5]) rfl (r_take h2 (by omega) (by decide) (by decide) fun y S3 y0 y1 h3 _ => R.of rfl ?_))))
      · exact bin_of (S1 := S2) (S2 := S2) (x := .int (b * z)) (y := .int 2) (bin_of (S1 := S2) (S2 := S2) (x := .int b) (y := .int z) rfl rfl (mul_ok (sm (by omega) (by omega)) (sm (by omega) (by omega)) S2)) rfl rfl
      · have p := prod_le (a := b) (b := z) (c := 10) (d := 10000000000000000000000000000000000000002) (by omega) z0 hb2 z1
        exact ⟨b * z + 2 - y, rfl, by omega, by omega, h3.mono (by omega)⟩
    rcases (by omega : t = 0 ∨ t = 1 ∨ t = 2 ∨ t = 3 ∨ t = 4 ∨ t = 5 ∨ t = 6 ∨ t = 7) with rfl | rfl | rfl | rfl | rfl | rfl | rfl | rfl
    · exact R.of (a := .int 0) (S1 := S2) rfl (fin _ (by decide) (by decide))
    · exact R.of (a := .int 1) (S1 := S2) rfl (fin _ (by decide) (by decide))
    · exact R.of (a := .int 1) (S1 := S2) rfl (fin _ (by decide) (by decide))
    · exact R.of (a := .int 2) (S1 := S2) rfl (fin _ (by decide) (by decide))
    · exact R.of (a := .int 2) (S1 := S2) rfl (fin _ (by decide) (by decide))
    · exact R.of (a := .int 3) (S1 := S2) rfl (fin _ (by decide) (by decide))
    · exact R.of (a := .int 5) (S1 := S2) rfl (fin _ (by decide) (by decide))
    · exact R.of (a := .int 10) (S1 := S2) rfl (fin _ (by decide) (by decide))
theorem some_many {k : Str} {sz : D} (hk : Tx k sz) (hz : sz = .non ∨ ∃ z, sz = .int z ∧ 0 ≤ z ∧ z ≤ 10000000000000000000000000000000000000002) {S : Sto} {i n : Nat} (h : Stk S i n) (hn : n ≤ 1000) : R (w__law_some_many [.ref i, sz] S) fun d S' => ∃ z, d = .int z ∧ -2 ≤ z ∧ z ≤ 1000000000000000000000000000000000000000000 ∧ Stk S' i (n + 6) := by
  rcases hz with rfl | ⟨z, rfl, z0, z1⟩
  · refine r_run (r_seq (r_if (r_or (R.of (a := true) (S1 := S) rfl ?_))))
    rw [if_pos rfl, if_pos rfl]
    refine r_ret (r_call (S1 := S) (ds := [.ref i]) rfl ((some_number h (by omega)).imp fun d S2 hz => ?_))
    obtain ⟨z, rfl, z0, z1, h2⟩ := hz
    exact ⟨z, rfl, by omega, by omega, h2.mono (by omega)⟩
  · exact many_num z0 z1 h hn
theorem str_ok {z : Int} (h : z.natAbs < 2 ^ 1000) (S : Sto) : cStr [.int z] S = some (.str (toString z), S) := by
  show (if z.natAbs.log2 < 1920 then some (D.str (toString z), S) else none) = _
  rw [if_pos (lg h (by decide) (by decide))]
/-- a loop of looks at one claim after another -/
theorem look {env : DEnv} {S : Sto} {k : Str} {sz many told paper : D} {P : Fl → Sto → Prop} {f : FA} (hk : Tx k sz) (hm : Val many) (ht : Val told) (hf : ∀ S, f env S = some ([.str k, sz, many, told, paper], S)) (h : ∀ S', P (.nx env) S') :
    R (sIf (tNotD (fTest (fCall w__law_judged f))) (sRet (fC (.bl false))) sSkip env S) P := by
  refine r_if (r_not (r_test (r_call (hf S) ((judged_ok hk hm ht S).imp fun d S6 hd => ?_))))
  obtain ⟨rfl, _⟩ := hd
  refine ⟨true, rfl, ?_⟩
  rw [if_neg (by decide)]
  exact r_skip (h S6)
theorem base_ok {k : Str} {sz : D} (hk : Tx k sz) {m : Int} (hm2 : m ≤ 1000000000000000000000000000000000000000000) (S : Sto) :
    ∃ b : Int, b.natAbs < 2 ^ 1000 ∧ ∀ i, (sIf (tOrD (fTest (fBin gIsN (fVar 2) (fC .non))) (fTest (fBin gGe (fVar 2) (fCall w__law_least (fCons (fVar 1) fNil))))) (sAsg (fCall w__law_most (fCons (fVar 1) (fCons (fVar 2) (fCons (fCall cMax2 (fCons (fVar 3) (fCons (fC (.int 0)) fNil))) fNil)))) (gN 4)) sSkip) [some (.ref i), some (.str k), some sz, some (.int m), some (.int 0), none, none, none, none] S
      = some (.nx [some (.ref i), some (.str k), some sz, some (.int m), some (.int b), none, none, none, none], S) := by
  have yes : ∀ n, Tw k sz n → ∃ b : Int, b.natAbs < 2 ^ 1000 ∧ ∀ i, (sAsg (fCall w__law_most (fCons (fVar 1) (fCons (fVar 2) (fCons (fCall cMax2 (fCons (fVar 3) (fCons (fC (.int 0)) fNil))) fNil)))) (gN 4)) [some (.ref i), some (.str k), some sz, some (.int m), some (.int 0), none, none, none, none] S
      = some (.nx [some (.ref i), some (.str k), some sz, some (.int m), some (.int b), none, none, none, none], S) := by
    intro n hw
    obtain ⟨b, hb, hl, _⟩ := mt_both (m := if 0 > m then 0 else m) hw (by omega) (by omega)
    exact ⟨b, hb, fun i => set_of (i := 4) (call_of (S1 := S) (ds := [.str k, sz, .int (if 0 > m then 0 else m)]) rfl (hl S))⟩
  cases hk with
  | @num o lo n ho h1 h2 =>
    obtain ⟨_, _, hle⟩ := ho.kind
    have t : ∀ i, (tOrD (fTest (fBin gIsN (fVar 2) (fC .non))) (fTest (fBin gGe (fVar 2) (fCall w__law_least (fCons (fVar 1) fNil))))) [some (.ref i), some (.str k), some (.int n), some (.int m), some (.int 0), none, none, none, none] S = some (decide (lo ≤ n), S) := by
      intro i
      rw [or_of (b := false) (S1 := S) rfl, if_neg (by decide)]
      exact test_of (bin_of (S1 := S) (S2 := S) (x := .int n) (y := .int lo) rfl (call_of (S1 := S) (ds := [.str k]) rfl (hle S)) rfl)
    by_cases hv : lo ≤ n
    · obtain ⟨b, hb, e⟩ := yes n (.num ho hv (by omega))
      refine ⟨b, hb, fun i => ?_⟩
      have t := t i
      rw [decide_eq_true hv] at t
      exact (if_t t).trans (e i)
    · refine ⟨0, by decide, fun i => ?_⟩
      have t := t i
      rw [decide_eq_false hv] at t
      exact (if_f t).trans rfl
  | odd =>
    obtain ⟨b, hb, e⟩ := yes 3 .odd
    exact ⟨b, hb, fun i => (if_t (S1 := S) rfl).trans (e i)⟩
  | even =>
    obtain ⟨b, hb, e⟩ := yes 4 .even
    exact ⟨b, hb, fun i => (if_t (S1 := S) rfl).trans (e i)⟩
theorem lst_of {env : DEnv} {S S1 : Sto} {fas : FA} {ds : List D} (h : fas env S = some (ds, S1)) (hl : ds.length ≤ 1000) : fLst fas env S = some (.lst ds, S1) := by
  unfold fLst
  rw [h]
  first
  | rfl
  | (show (if ds.length ≤ 1000 then _ else _) = _; rw [if_pos hl])
theorem ilst_of {env : DEnv} {S S1 : Sto} {f : FE} {ds : List D} (h : f env S = some (.lst ds, S1)) : iLst f env S = some (ds, S1) := by
  unfold iLst
  rw [h]
  rfl
theorem lookF {env0 : DEnv} {S : Sto} {j : Nat} {k : Str} {sz : D} {P : Fl → Sto → Prop} {items : List D} {fi f : FA} (hfi : ∀ S, fi env0 S = some (items, S)) (many told paper : D → D) (I : DEnv → Prop) (h0 : I env0) (hI : ∀ env d, d ∈ items → I env → I (env.set j (some d)))
    (hk : Tx k sz) (hm : ∀ d ∈ items, Val (many d)) (ht : ∀ d ∈ items, Val (told d)) (hf : ∀ env d S, I env → f (env.set j (some d)) S = some ([.str k, sz, many d, told d, paper d], S)) (h : ∀ env S', I env → P (.nx env) S') :
    R (sFor fi (gN j) (sIf (tNotD (fTest (fCall w__law_judged f))) (sRet (fC (.bl false))) sSkip) env0 S) P := by
  refine r_forM (hfi S) (fun env _ => I env) h0 ?_ fun env S hi => h env S hi
  intro d hd env S hi
  refine R.of (a := env.set j (some d)) (S1 := S) rfl ?_
  exact look hk (hm d hd) (ht d hd) (fun S => hf env d S hi) fun S' => hI env d hd hi
theorem right_ok (S : Sto) (i : Nat) (h : Stk S i 0) : R (w__law_right [.ref i] S) fun d _ => d = .bl true := by
  refine r_run (r_seq (r_set (r_call (S1 := S) (ds := [.ref i]) rfl ((some_kind h (by omega)).imp fun d S1 hk => ?_))))
  obtain ⟨k, rfl, hk, h1⟩ := hk
  show R (sSeq _ _ [some (.ref i), some (.str k), none, none, none, none, none, none, none] S1) _
  refine r_seq (R.imp (P := fun fl S2 => ∃ sz, fl = Fl.nx [some (.ref i), some (.str k), some sz, none, none, none, none, none, none] ∧ Tx k sz ∧ (sz = .non ∨ ∃ z, sz = .int z ∧ 0 ≤ z ∧ z ≤ 10000000000000000000000000000000000000002) ∧ Stk S2 i 6) ?_ ?_)
  · cases hk with
    | @num o lo ho =>
      obtain ⟨_, _, hle⟩ := ho.kind
      have hlo : 1 ≤ lo ∧ lo ≤ 3 := by cases ho <;> decide
      refine r_set (r_fif (R.of (a := false) (S1 := S1) (test_of (bin_of (S1 := S1) (S2 := S1) (x := .int lo) (y := .int 0) (call_of (S1 := S1) (ds := [.str k]) rfl (hle S1)) rfl ?_)) ?_))
      · show some (D.bl (decide (lo = 0)), S1) = _
        rw [decide_eq_false (by omega)]
      · rw [if_neg (by decide)]
        refine r_call (S1 := S1) (ds := [.ref i]) rfl ((some_number h1 (by omega)).imp fun d S2 hz => ?_)
        obtain ⟨z, rfl, z1, z2, z3⟩ := hz
        exact ⟨.int z, rfl, .num ho z1 (by omega), Or.inr ⟨z, rfl, z1, z2⟩, z3⟩
    | odd => exact R.of (S1 := S1) rfl ⟨.non, rfl, .odd, Or.inl rfl, h1.mono (by omega)⟩
    | even => exact R.of (S1 := S1) rfl ⟨.non, rfl, .even, Or.inl rfl, h1.mono (by omega)⟩
  rintro fl S2 ⟨sz, rfl, ht, hsz, h2⟩
  show R (sSeq _ _ _ S2) _
  refine r_seq (r_par (r_cons (r_call (S1 := S2) (ds := [.ref i, sz]) rfl ((some_many ht hsz h2 (by omega)).imp fun d S3 hz => r_cons (R.of (a := .int 0) (S1 := S3) rfl (r_nil ⟨_, _, rfl, ?_⟩))))))
  obtain ⟨m, rfl, m1, m2, h3⟩ := hz
  show R (sSeq _ _ [some (.ref i), some (.str k), some sz, some (.int m), some (.int 0), none, none, none, none] S3) _
  obtain ⟨b, hbb, hb⟩ := base_ok ht m2 S3
  refine r_nx (hb i) ?_
  refine r_nx (set_of (i := 5) (d := .int (m * (m - 1) / 2)) (S1 := S3) (bin_of (S1 := S3) (S2 := S3) (x := .int (m * (m - 1))) (y := .int 2) (bin_of (S1 := S3) (S2 := S3) (x := .int m) (y := .int (m - 1)) rfl rfl (mul_ok (sm (by omega) (by omega)) (sm (by omega) (by omega)) S3)) rfl rfl)) ?_
  show R (sSeq _ _ [some (.ref i), some (.str k), some sz, some (.int m), some (.int b), some (.int (m * (m - 1) / 2)), none, none, none] S3) _
  generalize m * (m - 1) / 2 = ev
  have hms : m.natAbs < 2 ^ 1000 := by
    have : (2 : Nat) ^ 140 = 1393796574908163946345982392040522594123776 := by decide
    have t : (2 : Nat) ^ 140 ≤ 2 ^ 1000 := Nat.pow_le_pow_right (by decide) (by decide)
    omega
  let I : DEnv → Prop := fun env => ∃ e7 e8 e9 : Option D, env = [some (.ref i), some (.str k), some sz, some (.int m), some (.int b), some (.int ev), e7, e8, e9]
  -- told
  refine r_seq (lookF (k := k) (sz := sz) (items := [.int b, .int (b + 1), .int (b - 1), .int 0, .int ev, .int (-b), .int m, .bl true, .bl false, .non, .str (toString b), .tup [.int b], .lst [.int b], .dct [] []]) (fun S => ?_) (fun _ => .int m) (fun d => d) (fun _ => .non) I ⟨_, _, _, rfl⟩ ?_ ht (fun _ _ => .int m) ?_ ?_ ?_)
  · refine ilst_of (lst_of (cons_of (S1 := S) rfl (cons_of (S1 := S) rfl (cons_of (S1 := S) rfl (cons_of (S1 := S) rfl (cons_of (S1 := S) rfl (cons_of (S1 := S) rfl (cons_of (S1 := S) rfl (cons_of (S1 := S) rfl (cons_of (S1 := S) rfl (cons_of (S1 := S) rfl (cons_of (S1 := S) (call_of (S1 := S) (ds := [.int b]) rfl (str_ok hbb S)) rfl))))))))))) (by simp))
  · rintro env d _ ⟨e7, e8, e9, rfl⟩
    exact ⟨_, _, _, rfl⟩
  · intro d hd
    simp only [List.mem_cons, List.not_mem_nil, or_false] at hd
    rcases hd with rfl | rfl | rfl | rfl | rfl | rfl | rfl | rfl | rfl | rfl | rfl | rfl | rfl | rfl
    all_goals first | exact .int _ | exact .bl _ | exact .non | exact .str _ | exact .tup _ | exact .lst _ | exact .dct _ _
  · rintro env d S ⟨e7, e8, e9, rfl⟩
    rfl
  rintro env S4 ⟨e7, e8, e9, rfl⟩
  show R (sSeq _ _ _ S4) _
  -- papers
  refine r_seq (lookF (k := k) (sz := sz) (items := [.tup [], .int 0, .int 1, .bl false, .bl true, .int b, .str "", .str "None", .lst [], .dct [] [], .tup [.non]]) (fun S => rfl) (fun _ => .int m) (fun _ => .int b) (fun d => d) I ⟨_, _, _, rfl⟩ ?_ ht (fun _ _ => .int m) (fun _ _ => .int b) ?_ ?_)
  · rintro env d _ ⟨e7, e8, e9, rfl⟩
    exact ⟨_, _, _, rfl⟩
  · rintro env d S ⟨e7, e8, e9, rfl⟩
    rfl
  clear e7 e8 e9
  rintro env S5 ⟨e7, e8, e9, rfl⟩
  show R (sSeq _ _ _ S5) _
  -- others in the place of the people
  refine r_seq (lookF (k := k) (sz := sz) (items := [.int (m + 1), .int (m - 1), .int (-m), .bl true, .bl false, .non, .str (toString m), .tup [.int m], .lst [.int m], .int 10000000000000000000000000000000000000000, .int 10000000000000000000000000000000000000001]) (fun S => ?_) (fun d => d) (fun _ => .int b) (fun _ => .non) I ⟨_, _, _, rfl⟩ ?_ ht ?_ (fun _ _ => .int b) ?_ ?_)
  · refine ilst_of (lst_of (cons_of (S1 := S) rfl (cons_of (S1 := S) rfl (cons_of (S1 := S) rfl (cons_of (S1 := S) rfl (cons_of (S1 := S) rfl (cons_of (S1 := S) rfl (cons_of (S1 := S) (call_of (S1 := S) (ds := [.int m]) rfl (str_ok hms S)) rfl))))))) (by simp))
  · rintro env d _ ⟨e7, e8, e9, rfl⟩
    exact ⟨_, _, _, rfl⟩
  · intro d hd
    simp only [List.mem_cons, List.not_mem_nil, or_false] at hd
    rcases hd with rfl | rfl | rfl | rfl | rfl | rfl | rfl | rfl | rfl | rfl | rfl
    all_goals first | exact .int _ | exact .bl _ | exact .non | exact .str _ | exact .tup _ | exact .lst _
  · rintro env d S ⟨e7, e8, e9, rfl⟩
    rfl
  clear e7 e8 e9
  rintro env S6 ⟨e7, e8, e9, rfl⟩
  show R (sSeq _ _ _ S6) _
  refine r_seq (r_forM (S1 := S6) (items := DL.rangeD 0 13) rfl (fun env _ => I env) ⟨_, _, _, rfl⟩ ?_ ?_)
  · rintro d hd env S ⟨e7, e8, e9, rfl⟩
    obtain ⟨o, rfl, ho⟩ := range_mem (by decide) hd
    refine R.of (a := [some (.ref i), some (.str k), some sz, some (.int m), some (.int b), some (.int ev), e7, e8, some (.int o)]) (S1 := S) rfl ?_
    refine r_seq (look ht (.int o) (.int b) (fun S => rfl) fun S7 => ?_)
    show R (sIf _ _ _ _ S7) _
    cases ht with
    | @num ok lo n hok h1 h2 =>
      refine r_if (r_and (R.of (a := true) (S1 := S7) rfl ?_))
      rw [if_pos rfl]
      refine r_not (r_test (r_call (S1 := S7) (ds := [.str k, .int o, .int m, .int b, .non]) rfl ((judged_ok (.num hok (by omega) (by omega)) (.int m) (.int b) S7).imp fun d' S8 hd => ?_)))
      obtain ⟨rfl, _⟩ := hd
      refine ⟨true, rfl, ?_⟩
      rw [if_neg (by decide)]
      exact r_skip ⟨_, _, _, rfl⟩
    | odd => exact r_ifF (S1 := S7) rfl (r_skip ⟨_, _, _, rfl⟩)
    | even => exact r_ifF (S1 := S7) rfl (r_skip ⟨_, _, _, rfl⟩)
  clear e7 e8 e9
  rintro env S7 ⟨e7, e8, e9, rfl⟩
  exact R.of (a := Fl.rt (.bl true)) (S1 := S7) rfl rfl
theorem plain (ns : List Int) (h : ns.length ≤ 63) : ∃ S', lawD [.scr ns] [] = some (.bl true, S') := plain_of right_ok ns h
end LW

namespace LW
open PySem PySem.Spec PyProof.Rows L2 DL
theorem all_mk {l : PySem.W.OpenLaw} {w : World} {K : PySem.W.Frag} {h : Heap} {mg : Str → Option Value} {fa : Addr} (X : K.In h) (G : h.Ns mainGlobals mg) (hfa : mg "law" = some (.ref fa))
    {t_DIGITS : Tok}
    {t_MOST_ASKED : Tok}
    {g_LEAST : Addr} {es_LEAST : Array DictEntry} {cn_LEAST : Nat}
    {g_LENGTHS : Addr} {es_LENGTHS : Array DictEntry} {cn_LENGTHS : Nat}
    {f_is_integer : Addr} {od_is_integer an_is_integer : Option Addr} {sl_is_integer : Array (Option Value)} {oc_is_integer kV_is_integer dc_is_integer pm_is_integer cd_is_integer ct_is_integer : Value}
    {f_is_between : Addr} {od_is_between an_is_between : Option Addr} {sl_is_between : Array (Option Value)} {oc_is_between kV_is_between dc_is_between pm_is_between cd_is_between ct_is_between : Value}
    {f_natural : Addr} {od_natural an_natural : Option Addr} {sl_natural : Array (Option Value)} {oc_natural kV_natural dc_natural pm_natural cd_natural ct_natural : Value}
    {f_thing_of : Addr} {od_thing_of an_thing_of : Option Addr} {sl_thing_of : Array (Option Value)} {oc_thing_of kV_thing_of dc_thing_of pm_thing_of cd_thing_of ct_thing_of : Value}
    {f_pairs_of : Addr} {od_pairs_of an_pairs_of : Option Addr} {sl_pairs_of : Array (Option Value)} {oc_pairs_of kV_pairs_of dc_pairs_of pm_pairs_of cd_pairs_of ct_pairs_of : Value}
    {f_most_without_rings : Addr} {od_most_without_rings an_most_without_rings : Option Addr} {sl_most_without_rings : Array (Option Value)} {oc_most_without_rings kV_most_without_rings dc_most_without_rings pm_most_without_rings cd_most_without_rings ct_most_without_rings : Value}
    {f_most_ties : Addr} {od_most_ties an_most_ties : Option Addr} {sl_most_ties : Array (Option Value)} {oc_most_ties kV_most_ties dc_most_ties pm_most_ties cd_most_ties ct_most_ties : Value}
    {f_is_number : Addr} {od_is_number an_is_number : Option Addr} {sl_is_number : Array (Option Value)} {oc_is_number kV_is_number dc_is_number pm_is_number cd_is_number ct_is_number : Value}
    {f_accepts : Addr} {od_accepts an_accepts : Option Addr} {sl_accepts : Array (Option Value)} {oc_accepts kV_accepts dc_accepts pm_accepts cd_accepts ct_accepts : Value}
    {f__law_stock : Addr} {od__law_stock an__law_stock : Option Addr} {sl__law_stock : Array (Option Value)} {oc__law_stock kV__law_stock dc__law_stock pm__law_stock cd__law_stock ct__law_stock : Value}
    {f__law_take : Addr} {od__law_take an__law_take : Option Addr} {sl__law_take : Array (Option Value)} {oc__law_take kV__law_take dc__law_take pm__law_take cd__law_take ct__law_take : Value}
    {f__law_agrees : Addr} {od__law_agrees an__law_agrees : Option Addr} {sl__law_agrees : Array (Option Value)} {oc__law_agrees kV__law_agrees dc__law_agrees pm__law_agrees cd__law_agrees ct__law_agrees : Value}
    {f__law_is : Addr} {od__law_is an__law_is : Option Addr} {sl__law_is : Array (Option Value)} {oc__law_is kV__law_is dc__law_is pm__law_is cd__law_is ct__law_is : Value}
    {f__law_word : Addr} {od__law_word an__law_word : Option Addr} {sl__law_word : Array (Option Value)} {oc__law_word kV__law_word dc__law_word pm__law_word cd__law_word ct__law_word : Value}
    {f__law_some_kind : Addr} {od__law_some_kind an__law_some_kind : Option Addr} {sl__law_some_kind : Array (Option Value)} {oc__law_some_kind kV__law_some_kind dc__law_some_kind pm__law_some_kind cd__law_some_kind ct__law_some_kind : Value}
    {f__law_least : Addr} {od__law_least an__law_least : Option Addr} {sl__law_least : Array (Option Value)} {oc__law_least kV__law_least dc__law_least pm__law_least cd__law_least ct__law_least : Value}
    {f__law_most : Addr} {od__law_most an__law_most : Option Addr} {sl__law_most : Array (Option Value)} {oc__law_most kV__law_most dc__law_most pm__law_most cd__law_most ct__law_most : Value}
    {f__law_some_number : Addr} {od__law_some_number an__law_some_number : Option Addr} {sl__law_some_number : Array (Option Value)} {oc__law_some_number kV__law_some_number dc__law_some_number pm__law_some_number cd__law_some_number ct__law_some_number : Value}
    {f__law_some_many : Addr} {od__law_some_many an__law_some_many : Option Addr} {sl__law_some_many : Array (Option Value)} {oc__law_some_many kV__law_some_many dc__law_some_many pm__law_some_many cd__law_some_many ct__law_some_many : Value}
    {f__law_due : Addr} {od__law_due an__law_due : Option Addr} {sl__law_due : Array (Option Value)} {oc__law_due kV__law_due dc__law_due pm__law_due cd__law_due ct__law_due : Value}
    {f__law_judged : Addr} {od__law_judged an__law_judged : Option Addr} {sl__law_judged : Array (Option Value)} {oc__law_judged kV__law_judged dc__law_judged pm__law_judged cd__law_judged ct__law_judged : Value}
    {f__law_right : Addr} {od__law_right an__law_right : Option Addr} {sl__law_right : Array (Option Value)} {oc__law_right kV__law_right dc__law_right pm__law_right cd__law_right ct__law_right : Value}
    {f_law : Addr} {od_law an_law : Option Addr} {sl_law : Array (Option Value)} {oc_law kV_law dc_law pm_law cd_law ct_law : Value}
    (n_abs : PySem.W.nsIn K mainGlobals "abs" = some none)
    (n_any : PySem.W.nsIn K mainGlobals "any" = some none)
    (n_bool : PySem.W.nsIn K mainGlobals "bool" = some none)
    (n_divmod : PySem.W.nsIn K mainGlobals "divmod" = some none)
    (n_int : PySem.W.nsIn K mainGlobals "int" = some none)
    (n_isinstance : PySem.W.nsIn K mainGlobals "isinstance" = some none)
    (n_len : PySem.W.nsIn K mainGlobals "len" = some none)
    (n_max : PySem.W.nsIn K mainGlobals "max" = some none)
    (n_min : PySem.W.nsIn K mainGlobals "min" = some none)
    (n_range : PySem.W.nsIn K mainGlobals "range" = some none)
    (n_str : PySem.W.nsIn K mainGlobals "str" = some none)
    (n_tuple : PySem.W.nsIn K mainGlobals "tuple" = some none)
    (c_DIGITS : PySem.W.nsIn K mainGlobals "DIGITS" = some (some (.str "0123456789" t_DIGITS)))
    (c_MOST_ASKED : PySem.W.nsIn K mainGlobals "MOST_ASKED" = some (some (.int 10000000000000000000000000000000000000000 t_MOST_ASKED)))
    (k_LEAST : PySem.W.nsIn K mainGlobals "LEAST" = some (some (.ref g_LEAST)))
    (l_LEAST : K.lookup g_LEAST = some ⟨.type "dict", none, .dict es_LEAST cn_LEAST, #[]⟩)
    (o_LEAST : TabOk w.params tab_LEAST es_LEAST.toList)
    (y_LEAST : (g_LEAST == sysModules) = false)
    (k_LENGTHS : PySem.W.nsIn K mainGlobals "LENGTHS" = some (some (.ref g_LENGTHS)))
    (l_LENGTHS : K.lookup g_LENGTHS = some ⟨.type "dict", none, .dict es_LENGTHS cn_LENGTHS, #[]⟩)
    (o_LENGTHS : TabOk w.params tab_LENGTHS es_LENGTHS.toList)
    (y_LENGTHS : (g_LENGTHS == sysModules) = false)
    (a_is_integer : PySem.W.nsIn K mainGlobals "is_integer" = some (some (.ref f_is_integer)))
    (l_is_integer : K.lookup f_is_integer = some ⟨oc_is_integer, od_is_integer, .func (PySem.W.fnOf "is_integer" "is_integer" (defArgs s_is_integer) (defBody s_is_integer) (defScope s_is_integer) .none kV_is_integer dc_is_integer pm_is_integer an_is_integer cd_is_integer ct_is_integer), sl_is_integer⟩)
    (c_is_integer : PySem.W.codeIn K cd_is_integer "is_integer" = true)
    (k_is_integer : PySem.W.keepIn K (.ref f_is_integer) = true)
    (a_is_between : PySem.W.nsIn K mainGlobals "is_between" = some (some (.ref f_is_between)))
    (l_is_between : K.lookup f_is_between = some ⟨oc_is_between, od_is_between, .func (PySem.W.fnOf "is_between" "is_between" (defArgs s_is_between) (defBody s_is_between) (defScope s_is_between) .none kV_is_between dc_is_between pm_is_between an_is_between cd_is_between ct_is_between), sl_is_between⟩)
    (c_is_between : PySem.W.codeIn K cd_is_between "is_between" = true)
    (k_is_between : PySem.W.keepIn K (.ref f_is_between) = true)
    (a_natural : PySem.W.nsIn K mainGlobals "natural" = some (some (.ref f_natural)))
    (l_natural : K.lookup f_natural = some ⟨oc_natural, od_natural, .func (PySem.W.fnOf "natural" "natural" (defArgs s_natural) (defBody s_natural) (defScope s_natural) .none kV_natural dc_natural pm_natural an_natural cd_natural ct_natural), sl_natural⟩)
    (c_natural : PySem.W.codeIn K cd_natural "natural" = true)
    (k_natural : PySem.W.keepIn K (.ref f_natural) = true)
    (a_thing_of : PySem.W.nsIn K mainGlobals "thing_of" = some (some (.ref f_thing_of)))
    (l_thing_of : K.lookup f_thing_of = some ⟨oc_thing_of, od_thing_of, .func (PySem.W.fnOf "thing_of" "thing_of" (defArgs s_thing_of) (defBody s_thing_of) (defScope s_thing_of) .none kV_thing_of dc_thing_of pm_thing_of an_thing_of cd_thing_of ct_thing_of), sl_thing_of⟩)
    (c_thing_of : PySem.W.codeIn K cd_thing_of "thing_of" = true)
    (k_thing_of : PySem.W.keepIn K (.ref f_thing_of) = true)
    (a_pairs_of : PySem.W.nsIn K mainGlobals "pairs_of" = some (some (.ref f_pairs_of)))
    (l_pairs_of : K.lookup f_pairs_of = some ⟨oc_pairs_of, od_pairs_of, .func (PySem.W.fnOf "pairs_of" "pairs_of" (defArgs s_pairs_of) (defBody s_pairs_of) (defScope s_pairs_of) .none kV_pairs_of dc_pairs_of pm_pairs_of an_pairs_of cd_pairs_of ct_pairs_of), sl_pairs_of⟩)
    (c_pairs_of : PySem.W.codeIn K cd_pairs_of "pairs_of" = true)
    (k_pairs_of : PySem.W.keepIn K (.ref f_pairs_of) = true)
    (a_most_without_rings : PySem.W.nsIn K mainGlobals "most_without_rings" = some (some (.ref f_most_without_rings)))
    (l_most_without_rings : K.lookup f_most_without_rings = some ⟨oc_most_without_rings, od_most_without_rings, .func (PySem.W.fnOf "most_without_rings" "most_without_rings" (defArgs s_most_without_rings) (defBody s_most_without_rings) (defScope s_most_without_rings) .none kV_most_without_rings dc_most_without_rings pm_most_without_rings an_most_without_rings cd_most_without_rings ct_most_without_rings), sl_most_without_rings⟩)
    (c_most_without_rings : PySem.W.codeIn K cd_most_without_rings "most_without_rings" = true)
    (k_most_without_rings : PySem.W.keepIn K (.ref f_most_without_rings) = true)
    (a_most_ties : PySem.W.nsIn K mainGlobals "most_ties" = some (some (.ref f_most_ties)))
    (l_most_ties : K.lookup f_most_ties = some ⟨oc_most_ties, od_most_ties, .func (PySem.W.fnOf "most_ties" "most_ties" (defArgs s_most_ties) (defBody s_most_ties) (defScope s_most_ties) .none kV_most_ties dc_most_ties pm_most_ties an_most_ties cd_most_ties ct_most_ties), sl_most_ties⟩)
    (c_most_ties : PySem.W.codeIn K cd_most_ties "most_ties" = true)
    (k_most_ties : PySem.W.keepIn K (.ref f_most_ties) = true)
    (a_is_number : PySem.W.nsIn K mainGlobals "is_number" = some (some (.ref f_is_number)))
    (l_is_number : K.lookup f_is_number = some ⟨oc_is_number, od_is_number, .func (PySem.W.fnOf "is_number" "is_number" (defArgs s_is_number) (defBody s_is_number) (defScope s_is_number) .none kV_is_number dc_is_number pm_is_number an_is_number cd_is_number ct_is_number), sl_is_number⟩)
    (c_is_number : PySem.W.codeIn K cd_is_number "is_number" = true)
    (k_is_number : PySem.W.keepIn K (.ref f_is_number) = true)
    (a_accepts : PySem.W.nsIn K mainGlobals "accepts" = some (some (.ref f_accepts)))
    (l_accepts : K.lookup f_accepts = some ⟨oc_accepts, od_accepts, .func (PySem.W.fnOf "accepts" "accepts" (defArgs s_accepts) (defBody s_accepts) (defScope s_accepts) .none kV_accepts dc_accepts pm_accepts an_accepts cd_accepts ct_accepts), sl_accepts⟩)
    (c_accepts : PySem.W.codeIn K cd_accepts "accepts" = true)
    (k_accepts : PySem.W.keepIn K (.ref f_accepts) = true)
    (a__law_stock : PySem.W.nsIn K mainGlobals "_law_stock" = some (some (.ref f__law_stock)))
    (l__law_stock : K.lookup f__law_stock = some ⟨oc__law_stock, od__law_stock, .func (PySem.W.fnOf "_law_stock" "_law_stock" (defArgs s__law_stock) (defBody s__law_stock) (defScope s__law_stock) .none kV__law_stock dc__law_stock pm__law_stock an__law_stock cd__law_stock ct__law_stock), sl__law_stock⟩)
    (c__law_stock : PySem.W.codeIn K cd__law_stock "_law_stock" = true)
    (k__law_stock : PySem.W.keepIn K (.ref f__law_stock) = true)
    (a__law_take : PySem.W.nsIn K mainGlobals "_law_take" = some (some (.ref f__law_take)))
    (l__law_take : K.lookup f__law_take = some ⟨oc__law_take, od__law_take, .func (PySem.W.fnOf "_law_take" "_law_take" (defArgs s__law_take) (defBody s__law_take) (defScope s__law_take) .none kV__law_take dc__law_take pm__law_take an__law_take cd__law_take ct__law_take), sl__law_take⟩)
    (c__law_take : PySem.W.codeIn K cd__law_take "_law_take" = true)
    (k__law_take : PySem.W.keepIn K (.ref f__law_take) = true)
    (a__law_agrees : PySem.W.nsIn K mainGlobals "_law_agrees" = some (some (.ref f__law_agrees)))
    (l__law_agrees : K.lookup f__law_agrees = some ⟨oc__law_agrees, od__law_agrees, .func (PySem.W.fnOf "_law_agrees" "_law_agrees" (defArgs s__law_agrees) (defBody s__law_agrees) (defScope s__law_agrees) .none kV__law_agrees dc__law_agrees pm__law_agrees an__law_agrees cd__law_agrees ct__law_agrees), sl__law_agrees⟩)
    (c__law_agrees : PySem.W.codeIn K cd__law_agrees "_law_agrees" = true)
    (k__law_agrees : PySem.W.keepIn K (.ref f__law_agrees) = true)
    (a__law_is : PySem.W.nsIn K mainGlobals "_law_is" = some (some (.ref f__law_is)))
    (l__law_is : K.lookup f__law_is = some ⟨oc__law_is, od__law_is, .func (PySem.W.fnOf "_law_is" "_law_is" (defArgs s__law_is) (defBody s__law_is) (defScope s__law_is) .none kV__law_is dc__law_is pm__law_is an__law_is cd__law_is ct__law_is), sl__law_is⟩)
    (c__law_is : PySem.W.codeIn K cd__law_is "_law_is" = true)
    (k__law_is : PySem.W.keepIn K (.ref f__law_is) = true)
    (a__law_word : PySem.W.nsIn K mainGlobals "_law_word" = some (some (.ref f__law_word)))
    (l__law_word : K.lookup f__law_word = some ⟨oc__law_word, od__law_word, .func (PySem.W.fnOf "_law_word" "_law_word" (defArgs s__law_word) (defBody s__law_word) (defScope s__law_word) .none kV__law_word dc__law_word pm__law_word an__law_word cd__law_word ct__law_word), sl__law_word⟩)
    (c__law_word : PySem.W.codeIn K cd__law_word "_law_word" = true)
    (k__law_word : PySem.W.keepIn K (.ref f__law_word) = true)
    (a__law_some_kind : PySem.W.nsIn K mainGlobals "_law_some_kind" = some (some (.ref f__law_some_kind)))
    (l__law_some_kind : K.lookup f__law_some_kind = some ⟨oc__law_some_kind, od__law_some_kind, .func (PySem.W.fnOf "_law_some_kind" "_law_some_kind" (defArgs s__law_some_kind) (defBody s__law_some_kind) (defScope s__law_some_kind) .none kV__law_some_kind dc__law_some_kind pm__law_some_kind an__law_some_kind cd__law_some_kind ct__law_some_kind), sl__law_some_kind⟩)
    (c__law_some_kind : PySem.W.codeIn K cd__law_some_kind "_law_some_kind" = true)
    (k__law_some_kind : PySem.W.keepIn K (.ref f__law_some_kind) = true)
    (a__law_least : PySem.W.nsIn K mainGlobals "_law_least" = some (some (.ref f__law_least)))
    (l__law_least : K.lookup f__law_least = some ⟨oc__law_least, od__law_least, .func (PySem.W.fnOf "_law_least" "_law_least" (defArgs s__law_least) (defBody s__law_least) (defScope s__law_least) .none kV__law_least dc__law_least pm__law_least an__law_least cd__law_least ct__law_least), sl__law_least⟩)
    (c__law_least : PySem.W.codeIn K cd__law_least "_law_least" = true)
    (k__law_least : PySem.W.keepIn K (.ref f__law_least) = true)
    (a__law_most : PySem.W.nsIn K mainGlobals "_law_most" = some (some (.ref f__law_most)))
    (l__law_most : K.lookup f__law_most = some ⟨oc__law_most, od__law_most, .func (PySem.W.fnOf "_law_most" "_law_most" (defArgs s__law_most) (defBody s__law_most) (defScope s__law_most) .none kV__law_most dc__law_most pm__law_most an__law_most cd__law_most ct__law_most), sl__law_most⟩)
    (c__law_most : PySem.W.codeIn K cd__law_most "_law_most" = true)
    (k__law_most : PySem.W.keepIn K (.ref f__law_most) = true)
    (a__law_some_number : PySem.W.nsIn K mainGlobals "_law_some_number" = some (some (.ref f__law_some_number)))
    (l__law_some_number : K.lookup f__law_some_number = some ⟨oc__law_some_number, od__law_some_number, .func (PySem.W.fnOf "_law_some_number" "_law_some_number" (defArgs s__law_some_number) (defBody s__law_some_number) (defScope s__law_some_number) .none kV__law_some_number dc__law_some_number pm__law_some_number an__law_some_number cd__law_some_number ct__law_some_number), sl__law_some_number⟩)
    (c__law_some_number : PySem.W.codeIn K cd__law_some_number "_law_some_number" = true)
    (k__law_some_number : PySem.W.keepIn K (.ref f__law_some_number) = true)
    (a__law_some_many : PySem.W.nsIn K mainGlobals "_law_some_many" = some (some (.ref f__law_some_many)))
    (l__law_some_many : K.lookup f__law_some_many = some ⟨oc__law_some_many, od__law_some_many, .func (PySem.W.fnOf "_law_some_many" "_law_some_many" (defArgs s__law_some_many) (defBody s__law_some_many) (defScope s__law_some_many) .none kV__law_some_many dc__law_some_many pm__law_some_many an__law_some_many cd__law_some_many ct__law_some_many), sl__law_some_many⟩)
    (c__law_some_many : PySem.W.codeIn K cd__law_some_many "_law_some_many" = true)
    (k__law_some_many : PySem.W.keepIn K (.ref f__law_some_many) = true)
    (a__law_due : PySem.W.nsIn K mainGlobals "_law_due" = some (some (.ref f__law_due)))
    (l__law_due : K.lookup f__law_due = some ⟨oc__law_due, od__law_due, .func (PySem.W.fnOf "_law_due" "_law_due" (defArgs s__law_due) (defBody s__law_due) (defScope s__law_due) .none kV__law_due dc__law_due pm__law_due an__law_due cd__law_due ct__law_due), sl__law_due⟩)
    (c__law_due : PySem.W.codeIn K cd__law_due "_law_due" = true)
    (k__law_due : PySem.W.keepIn K (.ref f__law_due) = true)
    (a__law_judged : PySem.W.nsIn K mainGlobals "_law_judged" = some (some (.ref f__law_judged)))
    (l__law_judged : K.lookup f__law_judged = some ⟨oc__law_judged, od__law_judged, .func (PySem.W.fnOf "_law_judged" "_law_judged" (defArgs s__law_judged) (defBody s__law_judged) (defScope s__law_judged) .none kV__law_judged dc__law_judged pm__law_judged an__law_judged cd__law_judged ct__law_judged), sl__law_judged⟩)
    (c__law_judged : PySem.W.codeIn K cd__law_judged "_law_judged" = true)
    (k__law_judged : PySem.W.keepIn K (.ref f__law_judged) = true)
    (a__law_right : PySem.W.nsIn K mainGlobals "_law_right" = some (some (.ref f__law_right)))
    (l__law_right : K.lookup f__law_right = some ⟨oc__law_right, od__law_right, .func (PySem.W.fnOf "_law_right" "_law_right" (defArgs s__law_right) (defBody s__law_right) (defScope s__law_right) .none kV__law_right dc__law_right pm__law_right an__law_right cd__law_right ct__law_right), sl__law_right⟩)
    (c__law_right : PySem.W.codeIn K cd__law_right "_law_right" = true)
    (k__law_right : PySem.W.keepIn K (.ref f__law_right) = true)
    (a_law : PySem.W.nsIn K mainGlobals "law" = some (some (.ref f_law)))
    (l_law : K.lookup f_law = some ⟨oc_law, od_law, .func (PySem.W.fnOf "law" "law" (defArgs s_law) (defBody s_law) (defScope s_law) .none kV_law dc_law pm_law an_law cd_law ct_law), sl_law⟩)
    (c_law : PySem.W.codeIn K cd_law "law" = true)
    (k_law : PySem.W.keepIn K (.ref f_law) = true) :
    ∃ fd : FuncData, (∀ (s : Shared) (v : Value), BindsTo s fd ⟨[v], []⟩ [("_law_script", v)]) ∧ ∀ base : Heap, K.In base → base.Ns mainGlobals mg → FnOk l.prog w K mg base CX0 12 fa fd ["_law_script"] (spD K (fun _ => none) 1 lawD) := by
  have e := hfa.symm.trans (PySem.W.mg_of X G a_law)
  cases e
  have T : Txt w K mg := ⟨PySem.W.mg_none_of X G n_abs,
    PySem.W.mg_none_of X G n_any,
    PySem.W.mg_none_of X G n_bool,
    PySem.W.mg_none_of X G n_divmod,
    PySem.W.mg_none_of X G n_int,
    PySem.W.mg_none_of X G n_isinstance,
    PySem.W.mg_none_of X G n_len,
    PySem.W.mg_none_of X G n_max,
    PySem.W.mg_none_of X G n_min,
    PySem.W.mg_none_of X G n_range,
    PySem.W.mg_none_of X G n_str,
    PySem.W.mg_none_of X G n_tuple,
    ⟨_, PySem.W.mg_of X G c_DIGITS, ⟨_, rfl⟩⟩,
    ⟨_, PySem.W.mg_of X G c_MOST_ASKED, ⟨_, rfl⟩⟩,
    kg_of (PySem.W.mg_of X G k_LEAST) l_LEAST o_LEAST y_LEAST,
    kg_of (PySem.W.mg_of X G k_LENGTHS) l_LENGTHS o_LENGTHS y_LENGTHS,
    ⟨_, _, fun_mk (st := s_is_integer) l_is_integer c_is_integer k_is_integer, PySem.W.mg_of X G a_is_integer, (fun_mk (st := s_is_integer) l_is_integer c_is_integer k_is_integer).binds (ps := ["value"]) fun _ _ _ _ _ _ us hl => match us, hl with | [_], _ => rfl⟩,
    ⟨_, _, fun_mk (st := s_is_between) l_is_between c_is_between k_is_between, PySem.W.mg_of X G a_is_between, (fun_mk (st := s_is_between) l_is_between c_is_between k_is_between).binds (ps := ["value", "least", "most"]) fun _ _ _ _ _ _ us hl => match us, hl with | [_, _, _], _ => rfl⟩,
    ⟨_, _, fun_mk (st := s_natural) l_natural c_natural k_natural, PySem.W.mg_of X G a_natural, (fun_mk (st := s_natural) l_natural c_natural k_natural).binds (ps := ["text", "most"]) fun _ _ _ _ _ _ us hl => match us, hl with | [_, _], _ => rfl⟩,
    ⟨_, _, fun_mk (st := s_thing_of) l_thing_of c_thing_of k_thing_of, PySem.W.mg_of X G a_thing_of, (fun_mk (st := s_thing_of) l_thing_of c_thing_of k_thing_of).binds (ps := ["text"]) fun _ _ _ _ _ _ us hl => match us, hl with | [_], _ => rfl⟩,
    ⟨_, _, fun_mk (st := s_pairs_of) l_pairs_of c_pairs_of k_pairs_of, PySem.W.mg_of X G a_pairs_of, (fun_mk (st := s_pairs_of) l_pairs_of c_pairs_of k_pairs_of).binds (ps := ["many"]) fun _ _ _ _ _ _ us hl => match us, hl with | [_], _ => rfl⟩,
    ⟨_, _, fun_mk (st := s_most_without_rings) l_most_without_rings c_most_without_rings k_most_without_rings, PySem.W.mg_of X G a_most_without_rings, (fun_mk (st := s_most_without_rings) l_most_without_rings c_most_without_rings k_most_without_rings).binds (ps := ["kind", "size", "people"]) fun _ _ _ _ _ _ us hl => match us, hl with | [_, _, _], _ => rfl⟩,
    ⟨_, _, fun_mk (st := s_most_ties) l_most_ties c_most_ties k_most_ties, PySem.W.mg_of X G a_most_ties, (fun_mk (st := s_most_ties) l_most_ties c_most_ties k_most_ties).binds (ps := ["kind", "size", "people"]) fun _ _ _ _ _ _ us hl => match us, hl with | [_, _, _], _ => rfl⟩,
    ⟨_, _, fun_mk (st := s_is_number) l_is_number c_is_number k_is_number, PySem.W.mg_of X G a_is_number, (fun_mk (st := s_is_number) l_is_number c_is_number k_is_number).binds (ps := ["word", "thing", "people", "told"]) fun _ _ _ _ _ _ us hl => match us, hl with | [_, _, _, _], _ => rfl⟩,
    ⟨_, _, fun_mk (st := s_accepts) l_accepts c_accepts k_accepts, PySem.W.mg_of X G a_accepts, (fun_mk (st := s_accepts) l_accepts c_accepts k_accepts).binds (ps := ["claim", "certificate"]) fun _ _ _ _ _ _ us hl => match us, hl with | [_, _], _ => rfl⟩,
    ⟨_, _, fun_mk (st := s__law_stock) l__law_stock c__law_stock k__law_stock, PySem.W.mg_of X G a__law_stock, (fun_mk (st := s__law_stock) l__law_stock c__law_stock k__law_stock).binds (ps := ["_law_script", "_law_k"]) fun _ _ _ _ _ _ us hl => match us, hl with | [_, _], _ => rfl⟩,
    ⟨_, _, fun_mk (st := s__law_take) l__law_take c__law_take k__law_take, PySem.W.mg_of X G a__law_take, (fun_mk (st := s__law_take) l__law_take c__law_take k__law_take).binds (ps := ["_law_stock_here", "_law_many"]) fun _ _ _ _ _ _ us hl => match us, hl with | [_, _], _ => rfl⟩,
    ⟨_, _, fun_mk (st := s__law_agrees) l__law_agrees c__law_agrees k__law_agrees, PySem.W.mg_of X G a__law_agrees, (fun_mk (st := s__law_agrees) l__law_agrees c__law_agrees k__law_agrees).binds (ps := ["_law_claim", "_law_paper", "_law_due_here"]) fun _ _ _ _ _ _ us hl => match us, hl with | [_, _, _], _ => rfl⟩,
    ⟨_, _, fun_mk (st := s__law_is) l__law_is c__law_is k__law_is, PySem.W.mg_of X G a__law_is, (fun_mk (st := s__law_is) l__law_is c__law_is k__law_is).binds (ps := ["_law_value", "_law_least_here", "_law_most_here"]) fun _ _ _ _ _ _ us hl => match us, hl with | [_, _, _], _ => rfl⟩,
    ⟨_, _, fun_mk (st := s__law_word) l__law_word c__law_word k__law_word, PySem.W.mg_of X G a__law_word, (fun_mk (st := s__law_word) l__law_word c__law_word k__law_word).binds (ps := ["_law_kind", "_law_size"]) fun _ _ _ _ _ _ us hl => match us, hl with | [_, _], _ => rfl⟩,
    ⟨_, _, fun_mk (st := s__law_some_kind) l__law_some_kind c__law_some_kind k__law_some_kind, PySem.W.mg_of X G a__law_some_kind, (fun_mk (st := s__law_some_kind) l__law_some_kind c__law_some_kind k__law_some_kind).binds (ps := ["_law_stock_here"]) fun _ _ _ _ _ _ us hl => match us, hl with | [_], _ => rfl⟩,
    ⟨_, _, fun_mk (st := s__law_least) l__law_least c__law_least k__law_least, PySem.W.mg_of X G a__law_least, (fun_mk (st := s__law_least) l__law_least c__law_least k__law_least).binds (ps := ["_law_kind"]) fun _ _ _ _ _ _ us hl => match us, hl with | [_], _ => rfl⟩,
    ⟨_, _, fun_mk (st := s__law_most) l__law_most c__law_most k__law_most, PySem.W.mg_of X G a__law_most, (fun_mk (st := s__law_most) l__law_most c__law_most k__law_most).binds (ps := ["_law_kind", "_law_size", "_law_many"]) fun _ _ _ _ _ _ us hl => match us, hl with | [_, _, _], _ => rfl⟩,
    ⟨_, _, fun_mk (st := s__law_some_number) l__law_some_number c__law_some_number k__law_some_number, PySem.W.mg_of X G a__law_some_number, (fun_mk (st := s__law_some_number) l__law_some_number c__law_some_number k__law_some_number).binds (ps := ["_law_stock_here"]) fun _ _ _ _ _ _ us hl => match us, hl with | [_], _ => rfl⟩,
    ⟨_, _, fun_mk (st := s__law_some_many) l__law_some_many c__law_some_many k__law_some_many, PySem.W.mg_of X G a__law_some_many, (fun_mk (st := s__law_some_many) l__law_some_many c__law_some_many k__law_some_many).binds (ps := ["_law_stock_here", "_law_size"]) fun _ _ _ _ _ _ us hl => match us, hl with | [_, _], _ => rfl⟩,
    ⟨_, _, fun_mk (st := s__law_due) l__law_due c__law_due k__law_due, PySem.W.mg_of X G a__law_due, (fun_mk (st := s__law_due) l__law_due c__law_due k__law_due).binds (ps := ["_law_kind", "_law_size", "_law_many", "_law_told", "_law_paper"]) fun _ _ _ _ _ _ us hl => match us, hl with | [_, _, _, _, _], _ => rfl⟩,
    ⟨_, _, fun_mk (st := s__law_judged) l__law_judged c__law_judged k__law_judged, PySem.W.mg_of X G a__law_judged, (fun_mk (st := s__law_judged) l__law_judged c__law_judged k__law_judged).binds (ps := ["_law_kind", "_law_size", "_law_many", "_law_told", "_law_paper"]) fun _ _ _ _ _ _ us hl => match us, hl with | [_, _, _, _, _], _ => rfl⟩,
    ⟨_, _, fun_mk (st := s__law_right) l__law_right c__law_right k__law_right, PySem.W.mg_of X G a__law_right, (fun_mk (st := s__law_right) l__law_right c__law_right k__law_right).binds (ps := ["_law_stock_here"]) fun _ _ _ _ _ _ us hl => match us, hl with | [_], _ => rfl⟩,
    ⟨_, _, fun_mk (st := s_law) l_law c_law k_law, PySem.W.mg_of X G a_law, (fun_mk (st := s_law) l_law c_law k_law).binds (ps := ["_law_script"]) fun _ _ _ _ _ _ us hl => match us, hl with | [_], _ => rfl⟩⟩
  exact ⟨_, fun s v => .of_eq rfl, fun base _ _ => law_fn (fun_mk (st := s_law) l_law c_law k_law) T⟩
theorem walk {l : PySem.W.OpenLaw} {q : Program} {loose : List Str} {XP : (Str → Option Value) → Heap → Prop} {YP : World → Heap → Prop} {d : DefRec} {K : Params → PySem.W.Frag} (hn : l.most = some 63) (hdf : d.params.defaults = [])
    (hY : ∀ (w : World) (h : Heap), YP w h → (K w.params).In h)
    (F : ∀ (w : World) (mg : Str → Option Value) (fa : Addr) (h : Heap), (K w.params).In h → h.Ns mainGlobals mg → mg d.name = some (.ref fa) →
      ∃ fd : FuncData, (∀ (s : Shared) (u : Value), BindsTo s fd ⟨[u], []⟩ [("_law_script", u)]) ∧ ∀ base : Heap, (K w.params).In base → base.Ns mainGlobals mg → FnOk l.prog w (K w.params) mg base CX0 12 fa fd ["_law_script"] (spD (K w.params) (fun _ => none) 1 lawD)) :
    PySem.W.WalkO q loose XP YP l.row.toRowW d [] (fun f vs => PySem.call f vs) :=
  L2.walk_of (n := 63) (k := 12) (x := "_law_script") (CX := fun _ => CX0) (sp := fun w => spD (K w.params) (fun _ => none) 1 lawD) hn (by decide) hdf ⟨rfl, by decide, by decide⟩ hY F (fun _ _ a ns hl _ hS => sp_law hS (plain ns hl)) fun _ _ _ _ _ z => z
end LW
open PySem PySem.W PyProof.Rows in
set_option maxRecDepth 100000 in
set_option maxHeartbeats 0 in
theorem PySem.Challenge.cw_forcedties_k51_most_ties_judged_holds : PySem.Challenge.rw_forcedties_k51_most_ties_judged.Holds := by
  w_on; o_law; k_head; (case hw => w_witness2)
  k_fill
  refine LW.walk (l := PySem.Challenge.rw_forcedties_k51_most_ties_judged) rfl rfl (fun w h Y => PySem.W.kIn_of Y) ?F
  case F =>
    intro w mg fa h KX G hmg
    refine' LW.all_mk KX G hmg ?n_abs ?n_any ?n_bool ?n_divmod ?n_int ?n_isinstance ?n_len ?n_max ?n_min ?n_range ?n_str ?n_tuple ?c_DIGITS ?c_MOST_ASKED ?k_LEAST ?l_LEAST ?o_LEAST ?y_LEAST ?k_LENGTHS ?l_LENGTHS ?o_LENGTHS ?y_LENGTHS ?a_is_integer ?l_is_integer ?c_is_integer ?k_is_integer ?a_is_between ?l_is_between ?c_is_between ?k_is_between ?a_natural ?l_natural ?c_natural ?k_natural ?a_thing_of ?l_thing_of ?c_thing_of ?k_thing_of ?a_pairs_of ?l_pairs_of ?c_pairs_of ?k_pairs_of ?a_most_without_rings ?l_most_without_rings ?c_most_without_rings ?k_most_without_rings ?a_most_ties ?l_most_ties ?c_most_ties ?k_most_ties ?a_is_number ?l_is_number ?c_is_number ?k_is_number ?a_accepts ?l_accepts ?c_accepts ?k_accepts ?a__law_stock ?l__law_stock ?c__law_stock ?k__law_stock ?a__law_take ?l__law_take ?c__law_take ?k__law_take ?a__law_agrees ?l__law_agrees ?c__law_agrees ?k__law_agrees ?a__law_is ?l__law_is ?c__law_is ?k__law_is ?a__law_word ?l__law_word ?c__law_word ?k__law_word ?a__law_some_kind ?l__law_some_kind ?c__law_some_kind ?k__law_some_kind ?a__law_least ?l__law_least ?c__law_least ?k__law_least ?a__law_most ?l__law_most ?c__law_most ?k__law_most ?a__law_some_number ?l__law_some_number ?c__law_some_number ?k__law_some_number ?a__law_some_many ?l__law_some_many ?c__law_some_many ?k__law_some_many ?a__law_due ?l__law_due ?c__law_due ?k__law_due ?a__law_judged ?l__law_judged ?c__law_judged ?k__law_judged ?a__law_right ?l__law_right ?c__law_right ?k__law_right ?a_law ?l_law ?c_law ?k_law
    (case n_abs => k_is)
    (case n_any => k_is)
    (case n_bool => k_is)
    (case n_divmod => k_is)
    (case n_int => k_is)
    (case n_isinstance => k_is)
    (case n_len => k_is)
    (case n_max => k_is)
    (case n_min => k_is)
    (case n_range => k_is)
    (case n_str => k_is)
    (case n_tuple => k_is)
    (case c_DIGITS => k_is)
    (case c_MOST_ASKED => k_is)
    (case k_LEAST => k_is)
    (case l_LEAST => k_is)
    (case o_LEAST => exact ⟨⟨_, _, rfl, rfl, rfl⟩, ⟨_, _, rfl, rfl, rfl⟩, ⟨_, _, rfl, rfl, rfl⟩, ⟨_, _, rfl, rfl, rfl⟩, ⟨_, _, rfl, rfl, rfl⟩, ⟨_, _, rfl, rfl, rfl⟩, ⟨_, _, rfl, rfl, rfl⟩, trivial⟩)
    (case y_LEAST => decide)
    (case k_LENGTHS => k_is)
    (case l_LENGTHS => k_is)
    (case o_LENGTHS => exact ⟨⟨_, _, rfl, rfl, rfl⟩, ⟨_, _, rfl, rfl, rfl⟩, ⟨_, _, rfl, rfl, rfl⟩, ⟨_, _, rfl, rfl, rfl⟩, ⟨_, _, rfl, rfl, rfl⟩, ⟨_, _, rfl, rfl, rfl⟩, ⟨_, _, rfl, rfl, rfl⟩, ⟨_, _, rfl, rfl, rfl⟩, ⟨_, _, rfl, rfl, rfl⟩, ⟨_, _, rfl, rfl, rfl⟩, trivial⟩)
    (case y_LENGTHS => decide)
    (case a_is_integer => k_is)
    (case l_is_integer => k_is)
    (case c_is_integer => k_is)
    (case k_is_integer => k_is)
    (case a_is_between => k_is)
    (case l_is_between => k_is)
    (case c_is_between => k_is)
    (case k_is_between => k_is)
    (case a_natural => k_is)
    (case l_natural => k_is)
    (case c_natural => k_is)
    (case k_natural => k_is)
    (case a_thing_of => k_is)
    (case l_thing_of => k_is)
    (case c_thing_of => k_is)
    (case k_thing_of => k_is)
    (case a_pairs_of => k_is)
    (case l_pairs_of => k_is)
    (case c_pairs_of => k_is)
    (case k_pairs_of => k_is)
    (case a_most_without_rings => k_is)
    (case l_most_without_rings => k_is)
    (case c_most_without_rings => k_is)
    (case k_most_without_rings => k_is)
    (case a_most_ties => k_is)
    (case l_most_ties => k_is)
    (case c_most_ties => k_is)
    (case k_most_ties => k_is)
    (case a_is_number => k_is)
    (case l_is_number => k_is)
    (case c_is_number => k_is)
    (case k_is_number => k_is)
    (case a_accepts => k_is)
    (case l_accepts => k_is)
    (case c_accepts => k_is)
    (case k_accepts => k_is)
    (case a__law_stock => k_is)
    (case l__law_stock => k_is)
    (case c__law_stock => k_is)
    (case k__law_stock => k_is)
    (case a__law_take => k_is)
    (case l__law_take => k_is)
    (case c__law_take => k_is)
    (case k__law_take => k_is)
    (case a__law_agrees => k_is)
    (case l__law_agrees => k_is)
    (case c__law_agrees => k_is)
    (case k__law_agrees => k_is)
    (case a__law_is => k_is)
    (case l__law_is => k_is)
    (case c__law_is => k_is)
    (case k__law_is => k_is)
    (case a__law_word => k_is)
    (case l__law_word => k_is)
    (case c__law_word => k_is)
    (case k__law_word => k_is)
    (case a__law_some_kind => k_is)
    (case l__law_some_kind => k_is)
    (case c__law_some_kind => k_is)
    (case k__law_some_kind => k_is)
    (case a__law_least => k_is)
    (case l__law_least => k_is)
    (case c__law_least => k_is)
    (case k__law_least => k_is)
    (case a__law_most => k_is)
    (case l__law_most => k_is)
    (case c__law_most => k_is)
    (case k__law_most => k_is)
    (case a__law_some_number => k_is)
    (case l__law_some_number => k_is)
    (case c__law_some_number => k_is)
    (case k__law_some_number => k_is)
    (case a__law_some_many => k_is)
    (case l__law_some_many => k_is)
    (case c__law_some_many => k_is)
    (case k__law_some_many => k_is)
    (case a__law_due => k_is)
    (case l__law_due => k_is)
    (case c__law_due => k_is)
    (case k__law_due => k_is)
    (case a__law_judged => k_is)
    (case l__law_judged => k_is)
    (case c__law_judged => k_is)
    (case k__law_judged => k_is)
    (case a__law_right => k_is)
    (case l__law_right => k_is)
    (case c__law_right => k_is)
    (case k__law_right => k_is)
    (case a_law => k_is)
    (case l_law => k_is)
    (case c_law => k_is)
    (case k_law => k_is)
